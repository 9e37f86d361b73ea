import PyProof.Rows.All
import PySem.Challenge.RW_kindswap_k54_doing_refused
import HandS.Head0
import HandS.Head1
import HandS.Head2
import Wide.All
import OpenK.AllK
import Wide.FinOn
import HandS.ForMost
import HandS.ForExc
import HandS.Flow
import HandS.IsInst
import HandS.Wide
import HandS.Lambda
import KE.KDictKeyed
import HandS.Style
import HandS.TupAny
import HandS.Deep
import HandS.Zip
import HandS.StrMore
import HandS.ExcOwn
import HandS.More
import HandS.EndBits
import HandS.ExcIs
import HandS.TryMany
import PyProof.ReprRoads
import HandS.Conv
import KE.SortData
import HandS.SortKw
import HandS.ExcValue
import KE.SortKeyHeap
import HandS.NoneIn
import KE.DataCmp
import HandS.Strs
import PyProof.SetRoads
import PyProof.Rows.SetFrom
import KE.DataFind
import HandS.Dict
import KE.KTryMore
import HandS.ExcInit
import HandS.ExcField
import HandS.ClsMeth
import HandS.Exc
import HandS.DictComp
import PyProof.DictCompW
set_option Elab.async false
set_option linter.all false
set_option maxRecDepth 100000
set_option maxHeartbeats 4000000
open PySem PySem.W PyProof.Rows
namespace Kz.Hd
open PySem PySem.W PySem.Calls PyProof.Rows
def nm0 : List PySem.Str := ["SwapError", "NoKind", "NoSizes", "TooMany", "NoWorth", "NoTerm", "LETTERS", "MARKS", "is_from", "inner_of", "is_kind", "sure_kind", "BASES", "MOST_SIZE", "MOST_WORTHS", "sure_sizes", "power_up_to", "number_up_to", "sure_taken", "lists_of", "all_worths", "worths", "is_plain_worth", "is_worth"]
def nm1 : List PySem.Str := ["PARTS", "is_shape", "kind_of_given", "kind_of_two", "kind_in", "sure_kind_in", "Reckoner", "Told", "Made", "done", "_law_well", "_law_draw", "_law_word", "_law_one", "_law_function", "_law_great"]
def nm : List PySem.Str := nm0 ++ nm1
abbrev R : OpenRow := OpenLaw.row PySem.Challenge.rw_kindswap_k54_doing_refused
abbrev qv : Program := view R.prog [45]
/-- the run's equation at a world -/
def RunK (p q : Program) (loose : List PySem.Str) (Xt : Shared → Bool) (K : Params → PySem.W.Frag) (as ts : List Addr) (M : Nat) (w : World) : Prop :=
  ∀ os : OsState, (HandSHeadRun.endF (HandSHeadRun.stepQ (HandSHeadRun.denQ HandSHeadRun.tabQ) p w) M p w os).map (fun s => (HandSHeadRun.looksF p (boot_heap w.params) s.abs, HandSHeadRun.seenQ q loose (importedModules p.main.body) Xt s.abs, (as.map (HandSHeadRun.getT s), ts.map (HandSHeadRun.getT s)))) = some (true, openGood q loose, ((K w.params).map fun x => some x.2, ts.map fun _ => some (tabObj #[])))
/-- LeftO of that run, for kmHook; the run is shown for each answer of special-get-raises -/
theorem left_km {p q : Program} {loose : List PySem.Str} {Xt : Shared → Bool} {K : Params → PySem.W.Frag} {as ts : List Addr} {ek : ∀ P, as = (K P).map (·.1)} {N M : Nat}
    (e : opening p = plainProg p.main.scope.names) (hN : Nat.ble 600 N = true) (f : ∀ s, fenceModules? p s = some s) (le : Nat.ble M N = true)
    (hf : ∀ w : World, RunK p q loose Xt K as ts M (w.withFollow "special-get-raises" false)) (ht : ∀ w : World, RunK p q loose Xt K as ts M (w.withFollow "special-get-raises" true)) :
    LeftO p q loose Xt (Hook.obs (kmHook K as ek ts)) (Hook.val (kmHook K as ek ts)) N true :=
  HandSHeadRun.left_one (M := M) e hN f le fun w os => by
    have z := byRow2 "special-get-raises" (P := fun w => RunK p q loose Xt K as ts M w) hf ht w os
    have eo : (fun s : SharedT => (HandSHeadRun.looksF p (boot_heap w.params) s.abs, HandSHeadRun.seenQ q loose (importedModules p.main.body) Xt s.abs, (as.map (HandSHeadRun.getT s), ts.map (HandSHeadRun.getT s)))) = fun s => (HandSHeadRun.looksF p (boot_heap w.params) s.abs, HandSHeadRun.seenQ q loose (importedModules p.main.body) Xt s.abs, Hook.obs (kmHook K as ek ts) s.abs) := by
      funext s
      have q1 : as.map (HandSHeadRun.getT s) = as.map s.abs.heap.get? := List.map_congr_left fun a _ => HandSHeadRun.getT_eq s a
      have q2 : ts.map (HandSHeadRun.getT s) = ts.map s.abs.heap.get? := List.map_congr_left fun a _ => HandSHeadRun.getT_eq s a
      rw [q1, q2]
      rfl
    rw [eo] at z
    simp only [HandSHeadRun.endQ_eq, HandSHeadRun.seenQ_eq]
    exact z
/-- the same for kHook -/
theorem left_k {p q : Program} {loose : List PySem.Str} {Xt : Shared → Bool} {K : Params → PySem.W.Frag} {as : List Addr} {ek : ∀ P, as = (K P).map (·.1)} {N M : Nat}
    (e : opening p = plainProg p.main.scope.names) (hN : Nat.ble 600 N = true) (f : ∀ s, fenceModules? p s = some s) (le : Nat.ble M N = true)
    (hf : ∀ w : World, RunK p q loose Xt K as [] M (w.withFollow "special-get-raises" false)) (ht : ∀ w : World, RunK p q loose Xt K as [] M (w.withFollow "special-get-raises" true)) :
    LeftO p q loose Xt (Hook.obs (kHook K as ek)) (Hook.val (kHook K as ek)) N true := fun w => by
  have z := left_km (ek := ek) (ts := []) e hN f le hf ht w
  cases hx : openEnds treeTable p w N with
  | none => rw [hx] at z; cases z
  | some s =>
    rw [hx] at z
    simp only [Option.map_some, Option.some.injEq, Prod.mk.injEq] at z ⊢
    exact ⟨z.1, (Prod.mk.inj z.2).1⟩
end Kz.Hd
local macro_rules | `(tactic| o_head $t:term) => do
  let hl := Lean.mkIdent `hl
  let (hw, hc) := (Lean.mkIdent `hw, Lean.mkIdent `hc)
  `(tactic| (refine PySem.W.holds_open (r := Kz.Hd.R) (q := Kz.Hd.qv) (loose := Kz.Hd.nm) (Xt := fun s => xlAt Kz.Hd.qv [] s && recOk (RowW.records (OpenRow.toRowW Kz.Hd.R)) s) (XP := XL Kz.Hd.qv []) (Yf := Hook.obs $t) (Ya := Hook.val $t) (YP := Hook.says $t) (N := 6600) ?hlx (Hook.of $t) (Hook.keeps $t) (fun s e => xl_of s (Bool.and_eq_true_iff.mp e).1) XL.keeps (by rfl) (by rfl) (by rfl) (fun s e => recFacts_of (Bool.and_eq_true_iff.mp e).2) (by rfl) (by first | assumption | decide +kernel) (by decide +kernel) ⟨rfl, rfl, rfl, rfl, rfl, by decide +kernel⟩ ?$hw ?$hc; (case hlx => exact $hl _)))
set_option maxRecDepth 100000 in
set_option maxHeartbeats 0 in
open PySem PySem.W PySem.Calls PyProof.Rows in
theorem Kz.Hd.t1 (hl : ∀ H : Hook, LeftO Kz.Hd.R.prog Kz.Hd.qv Kz.Hd.nm (fun s => xlAt Kz.Hd.qv [] s && recOk (RowW.records (OpenRow.toRowW Kz.Hd.R)) s) (Hook.obs H) (Hook.val H) 6600 true) (hc : ∀ (d : DefRec) (kwd : List (PySem.Str × PySem.Expr)) (YP : World → Heap → Prop), WalkO Kz.Hd.qv Kz.Hd.nm (XL Kz.Hd.qv []) YP (OpenRow.toRowW Kz.Hd.R) d kwd fun f vs => PySem.call f vs) : PySem.Challenge.rw_kindswap_k54_doing_refused.Holds := by
  w_on; o_law; k_head; (case hw => w_witness2)
  exact hc _ _ _
namespace Kz.Hd
open PySem PySem.W PySem.Calls PyProof.Rows
set_option maxHeartbeats 0 in
theorem runF (w : World) : RunK R.prog qv nm (fun s => xlAt qv [] s && recOk (RowW.records (OpenRow.toRowW R)) s) t1.heap_39 ((t1.heap_39 w.params).map (·.1)) [] 6000 (w.withFollow "special-get-raises" false) := by
  intro os; kernel_rfl
set_option maxHeartbeats 0 in
theorem runT (w : World) : RunK R.prog qv nm (fun s => xlAt qv [] s && recOk (RowW.records (OpenRow.toRowW R)) s) t1.heap_39 ((t1.heap_39 w.params).map (·.1)) [] 6000 (w.withFollow "special-get-raises" true) := by
  intro os; kernel_rfl
end Kz.Hd
namespace Kw
open PySem PySem.Spec PyProof.Rows L2
/-- a value as a tree; a list that is changed is a cell of the store -/
inductive D where
  | non | bl (b : Bool) | int (i : Int) | str (x : Str)
  | tup (ds : List D) | lst (ds : List D) | dic (ks : List Key) (ds : List D)
  | ins (c : Str) (fs : List Str) (ds : List D)
  | loc (n : Nat) | glo (x : Str) | fls (ds : List D) | exn (a : Addr)
  | exo (c : Str) (ns : List Str) (ds : List D)
  | lam (i : Nat) (q : Str) (ob : Addr → Value → Value → Obj)
inductive Cell where
  | lst (ds : List D) | frz (ds : List D) | dead
  | tab (x : Str) | sys
  | gst (ρ : List (Option D)) (σ : L2.St)
  | ob (c : Str) (fs : List Str) (ds : List D)
  | dct (ks : List NestedKey) (ds : List D)
abbrev Store := List Cell
/-- what is raised: the class's name, its own fields -/
structure Ex where
  cls : Str
  ns : List Str := []
  ds : List D := []
inductive RE (α : Type) where
  | ok (a : α) (S : Store) | ex (x : Ex) (S : Store) | no
def RE.bnd {α β : Type} (m : RE α) (f : α → Store → RE β) : RE β := match m with
  | .ok a S => f a S
  | .ex x S => .ex x S
  | .no => .no
abbrev FEnv := List (Option D)
abbrev FE := FEnv → Store → RE D
abbrev FT := FEnv → Store → RE Bool
abbrev FA := FEnv → Store → RE (List D)
/-- the addresses of the store's cells (none: dead); hd: objects that no value leads to -/
structure Wd where
  φ : List (Option Addr)
  hd : List Addr
/-- a is no cell, and not hidden -/
def Wd.Off (w : Wd) (a : Addr) : Prop := (¬ some a ∈ w.φ) ∧ ¬ a ∈ w.hd
/-- the world of the run (a text's hash is its word) -/
class Wo where
  ww : World
mutual
/-- the key that a tree is -/
def keyOf : D → Option NestedKey
  | .non => some .none
  | .int i => some (.num i)
  | .str x => some (.text x)
  | .tup ds => (keysOf ds).map .tup
  | _ => none
def keysOf : List D → Option (List NestedKey)
  | [] => some []
  | d :: ds => match keyOf d, keysOf ds with
    | some k, some r => some (k :: r)
    | _, _ => none
end
/-- a dict's entries: key, the key's value, what it leads to -/
abbrev DEnt := List (NestedKey × V × V)
def entV (ww : World) (x : NestedKey × Value × Value) : DictEntry := ⟨x.1.hash ww, x.2.1, x.2.2⟩
/-- the one object at a: a dict of these entries -/
def DctP (ww : World) (a : Addr) (es : DEnt) (h : Heap) : Prop := (a == sysModules) = false ∧ ∃ vs : List (NestedKey × Value × Value), Paired (fun (p : NestedKey × V × V) (q : NestedKey × Value × Value) => p.1 = q.1 ∧ RelV p.2.1 q.2.1 ∧ RelV p.2.2 q.2.2) es vs ∧
  ∃ o en ep, h.get? a = some o ∧ o.ExactDict ∧ o.data = .dict en ep ∧ en.toList = vs.map (entV ww)
def DctO (ww : World) (a : Addr) (es : DEnt) : HO := .ext (DctP ww a es)
section
variable (K : PySem.W.Frag) (mg : Str → Option Value)
/-- a list that is not changed any more, by the model's own word -/
def Fp (w : Wd) (H : Hp) (a : Addr) (xs : List V) : Prop :=
  (∃ o, H a = some (.frz o (.lst xs)) ∧ w.Off a) ∨
    ∃ (o : Obj) (its : Array Value) (n : Nat), K.lookup a = some o ∧ o.cls = .type "list" ∧ o.dict = none ∧ o.data = .seq its n ∧ its.size ≤ sizeLine ∧ Vals xs its.toList
/-- a tuple that stands -/
def Tp (w : Wd) (H : Hp) (a : Addr) (xs : List V) : Prop :=
  (H a = some (.tup xs) ∧ w.Off a) ∨
    ∃ (o : Obj) (its : Array Value) (n : Nat), K.lookup a = some o ∧ o.cls = .type "tuple" ∧ o.data = .seq its n ∧ its.size ≤ sizeLine ∧ Vals xs its.toList
/-- the one object at f -/
def LamO (f : Addr) (o : Obj) : HO := .ext fun h => h.get? f = some o
/-- an exception object that nobody raised: its class, its dict -/
def ExOd (cls : Value) (od : Option Addr) (a : Addr) : HO := .ext fun h => ∃ (oe : Obj) (vs : Array Value), h.get? a = some oe ∧ Zc cls od oe ∧ oe.data = .fields vs ∧ vs[1]? = some .none ∧ vs[2]? = some .none ∧ 4 < vs.size
mutual
/-- the tree d lies at v -/
def Rp (w : Wd) (H : Hp) : D → V → Prop
  | .non, v => v = .non
  | .bl b, v => v = .bl b
  | .int i, v => v = .int i
  | .str x, v => v = .str x
  | .tup ds, v => ∃ a xs, v = .ref a ∧ Tp K w H a xs ∧ RpL w H ds xs
  | .lst ds, v => ∃ a xs, v = .ref a ∧ H a = some (.lst xs) ∧ w.Off a ∧ RpL w H ds xs
  | .dic ks ds, v => ∃ a vs, v = .ref a ∧ H a = some (.dK (ks.zip vs)) ∧ w.Off a ∧ ks.length = vs.length ∧ RpL w H ds vs
  | .ins c fs ds, v => ∃ a C dx vs, v = .ref a ∧ mg c = some (.ref C) ∧ H a = some (.ins C dx (fs.zip vs)) ∧ w.Off a ∧ fs.length = vs.length ∧ RpL w H ds vs
  | .loc n, v => n < w.φ.length ∧ ∀ a, w.φ[n]? = some (some a) → v = .ref a
  | .glo x, v => ∃ a, v = .ref a ∧ mg x = some (.ref a)
  | .exn a, v => v = .ref a
  | .fls ds, v => ∃ a xs, v = .ref a ∧ Fp K w H a xs ∧ RpL w H ds xs
  | .lam _ q ob, v => ∃ f c' pm ctv, v = .ref f ∧ H f = some (LamO f (ob c' pm ctv)) ∧ w.Off f ∧ H c' = some (LamX.CodeO c' q) ∧ w.Off c'
  | .exo c ns ds, v => ∃ a C od vs, v = .ref a ∧ mg c = some (.ref C) ∧ H a = some (ExOd (.ref C) od a) ∧ w.Off a ∧ (od = none ↔ ns = []) ∧ (∀ d, od = some d → H d = some (.xd (ns.zip vs)) ∧ w.Off d) ∧ ns.length = vs.length ∧ RpL w H ds vs
def RpL (w : Wd) (H : Hp) : List D → List V → Prop
  | [], vs => vs = []
  | d :: ds, vs => ∃ v r, vs = v :: r ∧ Rp w H d v ∧ RpL w H ds r
end
/-- the world goes on -/
structure Ext (w : Wd) (H : Hp) (w' : Wd) (H' : Hp) : Prop where
  fr : ∀ a o, H a = some o → some a ∉ w.φ → H' a = some o
  ln : w.φ.length ≤ w'.φ.length
  ph : ∀ (n : Nat) a, w'.φ[n]? = some (some a) → n < w.φ.length → w.φ[n]? = some (some a)
  nw : ∀ a, some a ∈ w'.φ → some a ∈ w.φ ∨ H a = none
  hd : w'.hd = w.hd
/-- what is known of the modules' table: a dict -/
def SysQ (φ : Heap → Prop) : Prop := ∀ h, φ h → ∃ o es n, h.get? sysModules = some o ∧ o.data = .dict es n
/-- a table of code objects lies at P, all of the name q -/
def TabW (w : Wd) (H : Hp) (P : Addr) (q : Str) : Prop := ∃ ps : Array Value, H P = some (.tbl ps) ∧ TriplesOk ps.toList ∧ ∀ (pos : Pos) (cv : Value), codeAmong pos ps.toList = some cv → ∃ c, cv = .ref c ∧ H c = some (LamX.CodeO c q) ∧ w.Off c
/-- the name that the lambdas of the def x bear -/
def tabQ (x : Str) : Str := x ++ ".<locals>." ++ "<lambda>"
/-- the slots -/
structure EnvR (w : Wd) (H : Hp) (ρ : FEnv) (σ : L2.St) : Prop where
  len : ρ.length = σ.length
  at_ : ∀ (i : Nat) d, ρ[i]? = some (some d) → ∃ v, σ[i]? = some (some v) ∧ Rp K mg w H d v
def CellR [Wo] (w : Wd) (H : Hp) (c : Cell) (n : Nat) : Prop := match c with
  | .lst ds => ∃ a xs, w.φ[n]? = some (some a) ∧ H a = some (.lst xs) ∧ RpL K mg w H ds xs
  | .frz ds => ∃ a xs o, w.φ[n]? = some (some a) ∧ H a = some (.frz o (.lst xs)) ∧ RpL K mg w H ds xs
  | .dead => w.φ[n]? = some none
  | .tab x => ∃ c P, PySem.W.tabIn K x = some (c, P) ∧ w.φ[n]? = some (some P) ∧ TabW w H P (tabQ x)
  | .sys => w.φ[n]? = some none ∧ sysModules ∈ w.hd ∧ some sysModules ∉ w.φ ∧ (∃ φ, H sysModules = some (.ext φ) ∧ SysQ φ) ∧ K.lookup sysModules = none
  | .gst ρ σ => w.φ[n]? = some none ∧ EnvR K mg w H ρ σ
  | .ob c fs ds => ∃ a C dx vs, w.φ[n]? = some (some a) ∧ mg c = some (.ref C) ∧ H a = some (.ins C dx (fs.zip vs)) ∧ fs.length = vs.length ∧ RpL K mg w H ds vs
  | .dct ks ds => ∃ a es, w.φ[n]? = some (some a) ∧ H a = some (DctO Wo.ww a es) ∧ es.map (·.1) = ks ∧ ks.Nodup ∧ (∀ x ∈ es, x.1.depth ≤ 8 ∧ ∃ d, keyOf d = some x.1 ∧ Rp K mg w H d x.2.1) ∧ RpL K mg w H ds (es.map (·.2.2))
/-- the store lies in the heap -/
structure Sto [Wo] (w : Wd) (S : Store) (H : Hp) : Prop where
  len : w.φ.length = S.length
  nd : ∀ (m n : Nat) a, w.φ[m]? = some (some a) → w.φ[n]? = some (some a) → m = n
  ap : ∀ a, a ∈ w.hd → H a ≠ none ∧ some a ∉ w.φ
  cell : ∀ (n : Nat) c, S[n]? = some c → CellR K mg w H c n
/-- the exception -/
def ExR (w : Wd) (H : Hp) (x : Ex) (c : Value) (od : Option Addr) : Prop :=
  mg x.cls = some c ∧ ((x.ns = [] ∧ x.ds = [] ∧ od = none) ∨ ∃ d vs, x.ns ≠ [] ∧ od = some d ∧ H d = some (.xd (x.ns.zip vs)) ∧ w.Off d ∧ x.ns.length = vs.length ∧ RpL K mg w H x.ds vs)
/-- what a result gives -/
def End [Wo] {α β : Type} (R : Wd → Hp → α → β → Prop) (w : Wd) (H : Hp) (r : RE α) (Q : β → Hp → Prop) (E : Value → Option Addr → Hp → Prop) : Prop :=
  match r with
  | .ok a S' => ∀ w' H' b, Ext w H w' H' → Sto K mg w' S' H' → R w' H' a b → Q b H'
  | .ex x S' => ∀ w' H' c od, Ext w H w' H' → Sto K mg w' S' H' → ExR K mg w' H' x c od → E c od H'
  | .no => False
end
/-- readings by functions over trees -/
def tF [Wo] (X : Cx) (W : WX) (f : FE) : TE := fun σ H Q => ∃ w ρ S, Sto X.K X.mg w S H ∧ EnvR X.K X.mg w H ρ σ ∧ End X.K X.mg (fun w H => Rp X.K X.mg w H) w H (f ρ S) Q (fun c od H' => W c od σ H')
def tT [Wo] (X : Cx) (W : WX) (f : FT) : TT := fun σ H Q => ∃ w ρ S, Sto X.K X.mg w S H ∧ EnvR X.K X.mg w H ρ σ ∧ End X.K X.mg (fun _ _ (a b : Bool) => b = a) w H (f ρ S) Q (fun c od H' => W c od σ H')
def tA [Wo] (X : Cx) (W : WX) (f : FA) : TA := fun σ H Q => ∃ w ρ S, Sto X.K X.mg w S H ∧ EnvR X.K X.mg w H ρ σ ∧ End X.K X.mg (fun w H => RpL X.K X.mg w H) w H (f ρ S) Q (fun c od H' => W c od σ H')
section
variable {K : PySem.W.Frag} {mg : Str → Option Value} {w w' w'' : Wd} {H H' H'' : Hp} {S : Store}
theorem Ext.refl : Ext w H w H := ⟨fun _ _ h _ => h, Nat.le_refl _, fun _ _ h _ => h, fun _ h => .inl h, rfl⟩
theorem Ext.trans (a : Ext w H w' H') (b : Ext w' H' w'' H'') : Ext w H w'' H'' where
  fr := fun c o h n => b.fr c o (a.fr c o h n) fun z => by
    rcases a.nw c z with z | z
    · exact n z
    · rw [h] at z; cases z
  ln := Nat.le_trans a.ln b.ln
  ph := fun n c h l => a.ph n c (b.ph n c h (Nat.lt_of_lt_of_le l a.ln)) l
  nw := fun c h => by
    rcases b.nw c h with z | z
    · exact a.nw c z
    · by_cases q : some c ∈ w.φ
      · exact .inl q
      · cases e : H c with
        | none => exact .inr rfl
        | some o => rw [a.fr c o e q] at z; cases z
  hd := b.hd.trans a.hd
theorem Ext.out {a : Addr} {o : HO} (e : Ext w H w' H') (h : H a = some o) (n : w.Off a) : w'.Off a := by
  refine ⟨fun z => ?_, by rw [e.hd]; exact n.2⟩
  rcases e.nw _ z with z | z
  · exact n.1 z
  · rw [h] at z; cases z
theorem Tp.ext {a : Addr} {xs : List V} (e : Ext w H w' H') (h : Tp K w H a xs) : Tp K w' H' a xs := by
  rcases h with ⟨h, n⟩ | h
  · exact .inl ⟨e.fr _ _ h n.1, e.out h n⟩
  · exact .inr h
theorem Fp.ext {a : Addr} {xs : List V} (e : Ext w H w' H') (h : Fp K w H a xs) : Fp K w' H' a xs := by
  rcases h with ⟨o, h, n⟩ | h
  · exact .inl ⟨o, e.fr _ _ h n.1, e.out h n⟩
  · exact .inr h
mutual
theorem Rp.ext (e : Ext w H w' H') : ∀ (d : D) (v : V), Rp K mg w H d v → Rp K mg w' H' d v
  | .non, _, h => by unfold Rp at h ⊢; exact h
  | .bl _, _, h => by unfold Rp at h ⊢; exact h
  | .int _, _, h => by unfold Rp at h ⊢; exact h
  | .str _, _, h => by unfold Rp at h ⊢; exact h
  | .tup ds, v, h => by
    unfold Rp at h ⊢
    obtain ⟨a, xs, e1, t, r⟩ := h
    exact ⟨a, xs, e1, t.ext e, RpL.ext e ds xs r⟩
  | .lst ds, v, h => by
    unfold Rp at h ⊢
    obtain ⟨a, xs, e1, t, n, r⟩ := h
    exact ⟨a, xs, e1, e.fr _ _ t n.1, e.out t n, RpL.ext e ds xs r⟩
  | .dic ks ds, v, h => by
    unfold Rp at h ⊢
    obtain ⟨a, vs, e1, t, n, l, r⟩ := h
    exact ⟨a, vs, e1, e.fr _ _ t n.1, e.out t n, l, RpL.ext e ds vs r⟩
  | .ins c fs ds, v, h => by
    unfold Rp at h ⊢
    obtain ⟨a, C, dx, vs, e1, m, t, n, l, r⟩ := h
    exact ⟨a, C, dx, vs, e1, m, e.fr _ _ t n.1, e.out t n, l, RpL.ext e ds vs r⟩
  | .loc n, v, h => by
    unfold Rp at h ⊢
    exact ⟨Nat.lt_of_lt_of_le h.1 e.ln, fun a q => h.2 a (e.ph n a q h.1)⟩
  | .glo _, _, h => by unfold Rp at h ⊢; exact h
  | .exn _, _, h => by unfold Rp at h ⊢; exact h
  | .fls ds, v, h => by
    unfold Rp at h ⊢
    obtain ⟨a, xs, e1, t, r⟩ := h
    exact ⟨a, xs, e1, t.ext e, RpL.ext e ds xs r⟩
  | .lam i q ob, v, h => by
    unfold Rp at h ⊢
    obtain ⟨f, c', pm, ctv, e1, t, n, t2, n2⟩ := h
    exact ⟨f, c', pm, ctv, e1, e.fr _ _ t n.1, e.out t n, e.fr _ _ t2 n2.1, e.out t2 n2⟩
  | .exo c ns ds, v, h => by
    unfold Rp at h ⊢
    obtain ⟨a, C, od, vs, e1, m, t, n, z, q, l, r⟩ := h
    exact ⟨a, C, od, vs, e1, m, e.fr _ _ t n.1, e.out t n, z, fun d hd => ⟨e.fr _ _ (q d hd).1 (q d hd).2.1, e.out (q d hd).1 (q d hd).2⟩, l, RpL.ext e ds vs r⟩
theorem RpL.ext (e : Ext w H w' H') : ∀ (ds : List D) (vs : List V), RpL K mg w H ds vs → RpL K mg w' H' ds vs
  | [], _, h => by unfold RpL at h ⊢; exact h
  | d :: ds, vs, h => by
    unfold RpL at h ⊢
    obtain ⟨v, r, e1, h1, h2⟩ := h
    exact ⟨v, r, e1, Rp.ext e d v h1, RpL.ext e ds r h2⟩
end
theorem RpL.length : ∀ {ds : List D} {vs : List V}, RpL K mg w H ds vs → ds.length = vs.length
  | [], _, h => by unfold RpL at h; subst h; rfl
  | d :: ds, vs, h => by
    unfold RpL at h
    obtain ⟨v, r, e1, _, h2⟩ := h
    rw [e1, List.length_cons, List.length_cons, RpL.length h2]
theorem RpL.append : ∀ {ds es : List D} {vs us : List V}, RpL K mg w H ds vs → RpL K mg w H es us → RpL K mg w H (ds ++ es) (vs ++ us)
  | [], _, _, _, h, k => by unfold RpL at h; rw [h]; exact k
  | d :: ds, es, vs, us, h, k => by
    unfold RpL at h
    obtain ⟨v, r, e1, h1, h2⟩ := h
    rw [List.cons_append]; unfold RpL
    exact ⟨v, r ++ us, by rw [e1, List.cons_append], h1, RpL.append h2 k⟩
theorem RpL.get : ∀ {ds : List D} {vs : List V} {i : Nat} {d : D}, RpL K mg w H ds vs → ds[i]? = some d → ∃ v, vs[i]? = some v ∧ Rp K mg w H d v
  | [], _, _, _, _, e => by simp at e
  | d :: ds, vs, 0, _, h, e => by
    unfold RpL at h
    obtain ⟨v, r, e1, h1, _⟩ := h
    simp at e
    exact ⟨v, by rw [e1]; rfl, e ▸ h1⟩
  | d :: ds, vs, i + 1, _, h, e => by
    unfold RpL at h
    obtain ⟨v, r, e1, _, h2⟩ := h
    obtain ⟨u, h3, h4⟩ := RpL.get (i := i) h2 (by simpa using e)
    exact ⟨u, by rw [e1]; simpa using h3, h4⟩
theorem RpL.drop : ∀ {ds : List D} {vs : List V} (n : Nat), RpL K mg w H ds vs → RpL K mg w H (ds.drop n) (vs.drop n)
  | _, _, 0, h => h
  | [], vs, n + 1, h => by unfold RpL at h; rw [h]; simp; unfold RpL; rfl
  | d :: ds, vs, n + 1, h => by
    unfold RpL at h
    obtain ⟨v, r, e1, _, h2⟩ := h
    rw [e1]; exact RpL.drop n h2
theorem RpL.take : ∀ {ds : List D} {vs : List V} (n : Nat), RpL K mg w H ds vs → RpL K mg w H (ds.take n) (vs.take n)
  | _, _, 0, h => by simp; unfold RpL; rfl
  | [], vs, n + 1, h => by unfold RpL at h; rw [h]; simp; unfold RpL; rfl
  | d :: ds, vs, n + 1, h => by
    unfold RpL at h
    obtain ⟨v, r, e1, h1, h2⟩ := h
    rw [e1, List.take_succ_cons, List.take_succ_cons]; unfold RpL
    exact ⟨v, _, rfl, h1, RpL.take n h2⟩
theorem RpL.set : ∀ {ds : List D} {vs : List V} {d : D} {v : V} (i : Nat), RpL K mg w H ds vs → Rp K mg w H d v → RpL K mg w H (ds.set i d) (vs.set i v)
  | [], vs, _, _, _, h, _ => by unfold RpL at h; rw [h]; simp; unfold RpL; rfl
  | d :: ds, vs, e, u, 0, h, k => by
    unfold RpL at h
    obtain ⟨v, r, e1, h1, h2⟩ := h
    rw [e1, List.set_cons_zero, List.set_cons_zero]; unfold RpL
    exact ⟨u, r, rfl, k, h2⟩
  | d :: ds, vs, e, u, i + 1, h, k => by
    unfold RpL at h
    obtain ⟨v, r, e1, h1, h2⟩ := h
    rw [e1, List.set_cons_succ, List.set_cons_succ]; unfold RpL
    exact ⟨v, _, rfl, h1, RpL.set i h2 k⟩
theorem RpL.one {d : D} {v : V} (h : Rp K mg w H d v) : RpL K mg w H [d] [v] := by unfold RpL; exact ⟨v, [], rfl, h, by unfold RpL; rfl⟩
theorem RpL.nil : RpL K mg w H [] [] := by unfold RpL; rfl
theorem RpL.cons {d : D} {v : V} {ds : List D} {vs : List V} (h : Rp K mg w H d v) (t : RpL K mg w H ds vs) : RpL K mg w H (d :: ds) (v :: vs) := by unfold RpL; exact ⟨v, vs, rfl, h, t⟩
theorem RpL.nil_iff {ds : List D} {vs : List V} (h : RpL K mg w H ds vs) : ds = [] ↔ vs = [] := by
  have e := h.length
  constructor
  · rintro rfl; exact List.eq_nil_of_length_eq_zero e.symm
  · rintro rfl; exact List.eq_nil_of_length_eq_zero e
theorem RpL.one_inv {d : D} {vs : List V} (h : RpL K mg w H [d] vs) : ∃ v, vs = [v] ∧ Rp K mg w H d v := by
  unfold RpL at h
  obtain ⟨v, r, e1, h1, h2⟩ := h
  unfold RpL at h2
  exact ⟨v, by rw [e1, h2], h1⟩
theorem EnvR.ext {ρ : FEnv} {σ : L2.St} (e : Ext w H w' H') (h : EnvR K mg w H ρ σ) : EnvR K mg w' H' ρ σ := ⟨h.len, fun i d q => by
  obtain ⟨v, h1, h2⟩ := h.at_ i d q
  exact ⟨v, h1, Rp.ext e _ _ h2⟩⟩
theorem Sto.tracked [Wo] (s : Sto K mg w S H) {a : Addr} (h : some a ∈ w.φ) : H a ≠ none := by
  obtain ⟨n, hn, e⟩ := List.mem_iff_getElem.mp h
  have h1 : w.φ[n]? = some (some a) := by rw [List.getElem?_eq_getElem hn, e]
  have hs : n < S.length := s.len ▸ hn
  have c := s.cell n S[n] (List.getElem?_eq_getElem hs)
  unfold CellR at c
  split at c
  · obtain ⟨b, xs, h2, h3, _⟩ := c
    rw [h1] at h2; cases h2; rw [h3]; exact fun z => nomatch z
  · obtain ⟨b, xs, o, h2, h3, _⟩ := c
    rw [h1] at h2; cases h2; rw [h3]; exact fun z => nomatch z
  · rw [h1] at c; cases c
  · obtain ⟨_, _, _, h2, ps, h3, _⟩ := c
    rw [h1] at h2; cases h2; rw [h3]; exact fun z => nomatch z
  · rw [h1] at c; cases c.1
  · rw [h1] at c; cases c.1
  · obtain ⟨b, C, dx, vs, h2, _, h3, _⟩ := c
    rw [h1] at h2; cases h2; rw [h3]; exact fun z => nomatch z
  · obtain ⟨b, es, h2, h3, _⟩ := c
    rw [h1] at h2; cases h2; rw [h3]; exact fun z => nomatch z
theorem Sto.new [Wo] (s : Sto K mg w S H) {p : Addr} (h : H p = none) : w.Off p := ⟨fun z => s.tracked z h, fun z => (s.ap p z).1 h⟩
theorem Ext.new {p : Addr} {o : HO} (h : H p = none) : Ext w H w (upd H p o) := ⟨fun a u e _ => by rw [upd_ne (ne_of_none e h)]; exact e, Nat.le_refl _, fun _ _ h _ => h, fun _ h => .inl h, rfl⟩
theorem CellR.ext [Wo] {c : Cell} {n : Nat} (e : Ext w H w' H') (hw : ∀ a, w.φ[n]? = some (some a) → w'.φ[n]? = some (some a) ∧ H' a = H a) (hd : w.φ[n]? = some none → w'.φ[n]? = some none) (h : CellR K mg w H c n) : CellR K mg w' H' c n := by
  unfold CellR at h ⊢
  split at h
  · obtain ⟨b, xs, h2, h3, h4⟩ := h
    exact ⟨b, xs, (hw b h2).1, by rw [(hw b h2).2]; exact h3, RpL.ext e _ _ h4⟩
  · obtain ⟨b, xs, o, h2, h3, h4⟩ := h
    exact ⟨b, xs, o, (hw b h2).1, by rw [(hw b h2).2]; exact h3, RpL.ext e _ _ h4⟩
  · exact hd h
  · obtain ⟨c0, P, ht, h2, ps, h3, h4, h5⟩ := h
    refine ⟨c0, P, ht, (hw _ h2).1, ps, by rw [(hw _ h2).2]; exact h3, h4, fun pos cv hc => ?_⟩
    obtain ⟨c, e1, e2, e3⟩ := h5 pos cv hc
    exact ⟨c, e1, e.fr _ _ e2 e3.1, e.out e2 e3⟩
  · obtain ⟨h1, h2, h3, ⟨φ, h4, h6⟩, h5⟩ := h
    refine ⟨hd h1, by rw [e.hd]; exact h2, fun z => ?_, ⟨φ, e.fr _ _ h4 h3, h6⟩, h5⟩
    rcases e.nw _ z with z | z
    · exact h3 z
    · rw [h4] at z; cases z
  · exact ⟨hd h.1, EnvR.ext e h.2⟩
  · obtain ⟨b, C, dx, vs, h2, h3, h4, h5, h6⟩ := h
    exact ⟨b, C, dx, vs, (hw b h2).1, h3, by rw [(hw b h2).2]; exact h4, h5, RpL.ext e _ _ h6⟩
  · obtain ⟨b, es, h2, h3, h4, h5, h6, h7⟩ := h
    exact ⟨b, es, (hw b h2).1, by rw [(hw b h2).2]; exact h3, h4, h5, fun x hx => ⟨(h6 x hx).1, let ⟨d, q1, q2⟩ := (h6 x hx).2; ⟨d, q1, Rp.ext e _ _ q2⟩⟩, RpL.ext e _ _ h7⟩
theorem upd_some {p a : Addr} {o : HO} (h : H a ≠ none) : upd H p o a ≠ none := by
  by_cases e : a = p
  · subst e; rw [upd_same]; exact fun z => nomatch z
  · rw [upd_ne e]; exact h
/-- a new object beside -/
theorem Sto.beside [Wo] {p : Addr} {o : HO} (s : Sto K mg w S H) (h : H p = none) : Sto K mg w S (upd H p o) := ⟨s.len, s.nd, fun a ha => ⟨upd_some (s.ap a ha).1, (s.ap a ha).2⟩, fun n c q => CellR.ext (Ext.new h) (fun a ha => ⟨ha, by
  have : a ≠ p := fun z => by subst z; exact (s.new h).1 (List.mem_of_getElem? ha)
  rw [upd_ne this]⟩) id (s.cell n c q)⟩
end
section
variable {K : PySem.W.Frag} {mg : Str → Option Value} {α β γ δ : Type} {R : Wd → Hp → α → β → Prop} {R' : Wd → Hp → γ → δ → Prop} {w w1 : Wd} {H H1 : Hp} {r : RE α} {E : Value → Option Addr → Hp → Prop}
theorem End.imp [Wo] {Q Q' : β → Hp → Prop} {E' : Value → Option Addr → Hp → Prop} (h : End K mg R w H r Q E) (hq : ∀ b H', Q b H' → Q' b H') (he : ∀ c od H', E c od H' → E' c od H') : End K mg R w H r Q' E' := by
  unfold End at h ⊢
  split
  · exact fun w' H' b e s k => hq _ _ (h w' H' b e s k)
  · exact fun w' H' b od e s k => he _ _ _ (h w' H' b od e s k)
  · exact h
theorem End.on [Wo] {Q : β → Hp → Prop} (x : Ext w H w1 H1) (h : End K mg R w H r Q E) : End K mg R w1 H1 r Q E := by
  unfold End at h ⊢
  split
  · exact fun w' H' b e s k => h w' H' b (x.trans e) s k
  · exact fun w' H' b od e s k => h w' H' b od (x.trans e) s k
  · exact h
/-- one after the other -/
theorem End.bind [Wo] {k : α → Store → RE γ} {Q : δ → Hp → Prop} (h : End K mg R' w H (r.bnd k) Q E) :
    End K mg R w H r (fun b H1 => ∃ w1 S1 a, Ext w H w1 H1 ∧ Sto K mg w1 S1 H1 ∧ R w1 H1 a b ∧ End K mg R' w1 H1 (k a S1) Q E) E := by
  cases r with
  | ok a S1 =>
    have h' : End K mg R' w H (k a S1) Q E := h
    exact fun w' H' b e s kk => ⟨w', S1, a, e, s, kk, h'.on e⟩
  | ex x S1 => exact h
  | no => exact h
theorem End.ret [Wo] {Q : β → Hp → Prop} {a : α} {b : β} {S : Store} (h : End K mg R w H (.ok a S) Q E) (s : Sto K mg w S H) (k : R w H a b) : Q b H := h w H b Ext.refl s k
end
section
variable {X : Cx} {W : WX}
theorem PE.wk {e : Expr} {t t' : TE} (h : PE X e t) (m : ∀ σ H Q, t' σ H Q → t σ H Q) : PE X e t' := ⟨fun pins s σ H Q I k => h.run pins s σ H Q I (m σ H Q k)⟩
theorem PT.wk {e : Expr} {t t' : TT} (h : PT X e t) (m : ∀ σ H Q, t' σ H Q → t σ H Q) : PT X e t' := ⟨fun pins s σ H Q I k => h.run pins s σ H Q I (m σ H Q k)⟩
theorem PW.wk {e : Expr} {t t' : TT} (h : PW X e t) (m : ∀ σ H Q, t' σ H Q → t σ H Q) : PW X e t' := ⟨fun wh pins s σ H Q I k => h.run wh pins s σ H Q I (m σ H Q k)⟩
theorem PA.wk {e : List Expr} {t t' : TA} (h : PA X e t) (m : ∀ σ H Q, t' σ H Q → t σ H Q) : PA X e t' := ⟨fun pos pins s σ H Q I k => h.run pos pins s σ H Q I (m σ H Q k)⟩
theorem PS.wk {e : Stmt} {t t' : TS} (h : PS X e t) (m : ∀ D σ H, t' D σ H → t D σ H) : PS X e t' := ⟨fun pins s σ H D I k => h.run pins s σ H D I (m D σ H k)⟩
theorem PSs.wk {e : List Stmt} {t t' : TS} (h : PSs X e t) (m : ∀ D σ H, t' D σ H → t D σ H) : PSs X e t' := ⟨fun pins s σ H D I k => h.run pins s σ H D I (m D σ H k)⟩
end
end Kw
namespace Kw
open PySem PySem.Spec PyProof.Rows L2
def cellOf (S : Store) (n : Nat) : Option (List D) := match S[n]? with
  | some (.lst ds) => some ds
  | some (.frz ds) => some ds
  | _ => none
def cellM (S : Store) (n : Nat) : Option (List D) := match S[n]? with
  | some (.lst ds) => some ds
  | _ => none
/-- a list that is read -/
def seqL (S : Store) : D → Option (List D)
  | .lst ds => some ds
  | .fls ds => some ds
  | .loc n => cellOf S n
  | _ => none
/-- a list that is no locked one -/
def seqM (S : Store) : D → Option (List D)
  | .lst ds => some ds
  | .loc n => cellM S n
  | _ => none
/-- a list or a tuple -/
def seqA (S : Store) : D → Option (List D)
  | .lst ds => some ds
  | .fls ds => some ds
  | .loc n => cellOf S n
  | .tup ds => some ds
  | _ => none
mutual
def py0 : D → Option PyData
  | .non => some .none
  | .bl b => some (.bool b)
  | .int i => some (.int i)
  | .str x => some (.str x)
  | .tup ds => (py0L ds).map .tuple
  | .lst ds => (py0L ds).map .list
  | .fls ds => (py0L ds).map .list
  | _ => none
def py0L : List D → Option (List PyData)
  | [] => some []
  | d :: ds => (py0 d).bind fun a => (py0L ds).map (a :: ·)
end
mutual
/-- a value as plain data -/
def pyS (S : Store) : D → Option PyData
  | .non => some .none
  | .bl b => some (.bool b)
  | .int i => some (.int i)
  | .str x => some (.str x)
  | .tup ds => (pySL S ds).map .tuple
  | .lst ds => (pySL S ds).map .list
  | .fls ds => (pySL S ds).map .list
  | .loc n => ((cellOf S n).bind py0L).map .list
  | _ => none
def pySL (S : Store) : List D → Option (List PyData)
  | [] => some []
  | d :: ds => (pyS S d).bind fun a => (pySL S ds).map (a :: ·)
end
section
variable {K : PySem.W.Frag} {mg : Str → Option Value} {w : Wd} {H : Hp} {S : Store}
theorem cellOf_at [Wo] (s : Sto K mg w S H) {n : Nat} {ds : List D} (h : cellOf S n = some ds) : ∃ a xs, w.φ[n]? = some (some a) ∧ Rd H a (.lst xs) ∧ RpL K mg w H ds xs := by
  unfold cellOf at h
  split at h
  · rename_i e he
    cases h
    obtain ⟨a, xs, h1, h2, h3⟩ := s.cell n _ he
    exact ⟨a, xs, h1, .inl h2, h3⟩
  · rename_i e he
    cases h
    obtain ⟨a, xs, o, h1, h2, h3⟩ := s.cell n _ he
    exact ⟨a, xs, h1, .inr ⟨o, h2⟩, h3⟩
  · cases h
theorem cellM_at [Wo] (s : Sto K mg w S H) {n : Nat} {ds : List D} (h : cellM S n = some ds) : ∃ a xs, w.φ[n]? = some (some a) ∧ H a = some (.lst xs) ∧ RpL K mg w H ds xs := by
  unfold cellM at h
  split at h
  · rename_i e he
    cases h
    obtain ⟨a, xs, h1, h2, h3⟩ := s.cell n _ he
    exact ⟨a, xs, h1, h2, h3⟩
  · cases h
theorem Fp.sq {a : Addr} {xs : List V} (h : Fp K w H a xs) : SqL K H a xs := by
  rcases h with ⟨o, h, _⟩ | h
  · exact .inl (.inr ⟨o, h⟩)
  · exact .inr h
theorem seqL_at [Wo] (s : Sto K mg w S H) {d : D} {v : V} {ds : List D} (r : Rp K mg w H d v) (h : seqL S d = some ds) : ∃ a xs, v = .ref a ∧ SqL K H a xs ∧ RpL K mg w H ds xs := by
  cases d <;> simp only [seqL] at h <;> try (cases h; done)
  · cases h
    unfold Rp at r
    obtain ⟨a, xs, e, t, _, q⟩ := r
    exact ⟨a, xs, e, .of t, q⟩
  · obtain ⟨a, xs, h1, h2, h3⟩ := cellOf_at s h
    unfold Rp at r
    exact ⟨a, xs, r.2 a h1, .inl h2, h3⟩
  · cases h
    unfold Rp at r
    obtain ⟨a, xs, e, t, q⟩ := r
    exact ⟨a, xs, e, t.sq, q⟩
theorem seqM_at [Wo] (s : Sto K mg w S H) {d : D} {v : V} {ds : List D} (r : Rp K mg w H d v) (h : seqM S d = some ds) : ∃ a xs, v = .ref a ∧ H a = some (.lst xs) ∧ RpL K mg w H ds xs := by
  cases d <;> simp only [seqM] at h <;> try (cases h; done)
  · cases h
    unfold Rp at r
    obtain ⟨a, xs, e, t, _, q⟩ := r
    exact ⟨a, xs, e, t, q⟩
  · obtain ⟨a, xs, h1, h2, h3⟩ := cellM_at s h
    unfold Rp at r
    exact ⟨a, xs, r.2 a h1, h2, h3⟩
theorem Tp.sq {a : Addr} {xs : List V} (h : Tp K w H a xs) : SqT K H a xs := by
  rcases h with ⟨h, _⟩ | h
  · exact .of h
  · exact .inr h
theorem tup_at {ds : List D} {v : V} (r : Rp K mg w H (.tup ds) v) : ∃ a xs, v = .ref a ∧ SqT K H a xs ∧ RpL K mg w H ds xs := by
  unfold Rp at r
  obtain ⟨a, xs, e, t, q⟩ := r
  exact ⟨a, xs, e, t.sq, q⟩
theorem seqA_at [Wo] (s : Sto K mg w S H) {d : D} {v : V} {ds : List D} (r : Rp K mg w H d v) (h : seqA S d = some ds) : ∃ a xs, v = .ref a ∧ (SqL K H a xs ∨ SqT K H a xs) ∧ RpL K mg w H ds xs := by
  cases d <;> simp only [seqA] at h <;> try (cases h; done)
  · cases h
    obtain ⟨a, xs, e, t, q⟩ := tup_at r
    exact ⟨a, xs, e, .inr t, q⟩
  · cases h
    unfold Rp at r
    obtain ⟨a, xs, e, t, _, q⟩ := r
    exact ⟨a, xs, e, .inl (.of t), q⟩
  · obtain ⟨a, xs, h1, h2, h3⟩ := cellOf_at s h
    unfold Rp at r
    exact ⟨a, xs, r.2 a h1, .inl (.inl h2), h3⟩
  · cases h
    unfold Rp at r
    obtain ⟨a, xs, e, t, q⟩ := r
    exact ⟨a, xs, e, .inl t.sq, q⟩
mutual
theorem py0_at : ∀ (d : D) (v : V) (p : PyData), Rp K mg w H d v → py0 d = some p → Dp K H v p
  | .non, v, p, r, h => by unfold Rp at r; simp only [py0] at h; cases h; subst r; exact .non
  | .bl _, v, p, r, h => by unfold Rp at r; simp only [py0] at h; cases h; subst r; exact .bl _
  | .int _, v, p, r, h => by unfold Rp at r; simp only [py0] at h; cases h; subst r; exact .int _
  | .str _, v, p, r, h => by unfold Rp at r; simp only [py0] at h; cases h; subst r; exact .str _
  | .tup ds, v, p, r, h => by
    obtain ⟨a, xs, e, t, q⟩ := tup_at r
    simp only [py0, Option.map_eq_some_iff] at h
    obtain ⟨ps, h1, h2⟩ := h
    subst e; subst h2
    exact .tup t (py0L_at ds xs ps q h1)
  | .lst ds, v, p, r, h => by
    unfold Rp at r
    obtain ⟨a, xs, e, t, _, q⟩ := r
    simp only [py0, Option.map_eq_some_iff] at h
    obtain ⟨ps, h1, h2⟩ := h
    subst e; subst h2
    exact .lst (.of t) (py0L_at ds xs ps q h1)
  | .dic _ _, v, p, r, h => by simp [py0] at h
  | .ins _ _ _, v, p, r, h => by simp [py0] at h
  | .loc _, v, p, r, h => by simp [py0] at h
  | .glo _, v, p, r, h => by simp [py0] at h
  | .exn _, v, p, r, h => by simp [py0] at h
  | .exo _ _ _, v, p, r, h => by simp [py0] at h
  | .lam _ _ _, v, p, r, h => by simp [py0] at h
  | .fls ds, v, p, r, h => by
    unfold Rp at r
    obtain ⟨a, xs, e, t, q⟩ := r
    simp only [py0, Option.map_eq_some_iff] at h
    obtain ⟨ps, h1, h2⟩ := h
    subst e; subst h2
    exact .lst t.sq (py0L_at ds xs ps q h1)
theorem py0L_at : ∀ (ds : List D) (vs : List V) (ps : List PyData), RpL K mg w H ds vs → py0L ds = some ps → DpAll K H vs ps
  | [], vs, ps, r, h => by unfold RpL at r; simp only [py0L] at h; cases h; subst r; exact .nil
  | d :: ds, vs, ps, r, h => by
    unfold RpL at r
    obtain ⟨v, vs', e, r1, r2⟩ := r
    simp only [py0L, Option.bind_eq_some_iff, Option.map_eq_some_iff] at h
    obtain ⟨a, h1, b, h2, h3⟩ := h
    subst e; subst h3
    exact .cons (py0_at d v a r1 h1) (py0L_at ds vs' b r2 h2)
end
mutual
theorem pyS_at [Wo] (s : Sto K mg w S H) : ∀ (d : D) (v : V) (p : PyData), Rp K mg w H d v → pyS S d = some p → Dp K H v p
  | .non, v, p, r, h => by unfold Rp at r; simp only [pyS] at h; cases h; subst r; exact .non
  | .bl _, v, p, r, h => by unfold Rp at r; simp only [pyS] at h; cases h; subst r; exact .bl _
  | .int _, v, p, r, h => by unfold Rp at r; simp only [pyS] at h; cases h; subst r; exact .int _
  | .str _, v, p, r, h => by unfold Rp at r; simp only [pyS] at h; cases h; subst r; exact .str _
  | .tup ds, v, p, r, h => by
    obtain ⟨a, xs, e, t, q⟩ := tup_at r
    simp only [pyS, Option.map_eq_some_iff] at h
    obtain ⟨ps, h1, h2⟩ := h
    subst e; subst h2
    exact .tup t (pySL_at s ds xs ps q h1)
  | .lst ds, v, p, r, h => by
    unfold Rp at r
    obtain ⟨a, xs, e, t, _, q⟩ := r
    simp only [pyS, Option.map_eq_some_iff] at h
    obtain ⟨ps, h1, h2⟩ := h
    subst e; subst h2
    exact .lst (.of t) (pySL_at s ds xs ps q h1)
  | .loc n, v, p, r, h => by
    simp only [pyS, Option.map_eq_some_iff, Option.bind_eq_some_iff] at h
    obtain ⟨ps, ⟨ds, h0, h1⟩, h2⟩ := h
    obtain ⟨a, xs, h3, h4, h5⟩ := cellOf_at s h0
    unfold Rp at r
    have e := r.2 a h3
    subst e; subst h2
    exact .lst (.inl h4) (py0L_at ds xs ps h5 h1)
  | .dic _ _, v, p, r, h => by simp [pyS] at h
  | .ins _ _ _, v, p, r, h => by simp [pyS] at h
  | .glo _, v, p, r, h => by simp [pyS] at h
  | .exn _, v, p, r, h => by simp [pyS] at h
  | .exo _ _ _, v, p, r, h => by simp [pyS] at h
  | .lam _ _ _, v, p, r, h => by simp [pyS] at h
  | .fls ds, v, p, r, h => by
    unfold Rp at r
    obtain ⟨a, xs, e, t, q⟩ := r
    simp only [pyS, Option.map_eq_some_iff] at h
    obtain ⟨ps, h1, h2⟩ := h
    subst e; subst h2
    exact .lst t.sq (pySL_at s ds xs ps q h1)
theorem pySL_at [Wo] (s : Sto K mg w S H) : ∀ (ds : List D) (vs : List V) (ps : List PyData), RpL K mg w H ds vs → pySL S ds = some ps → DpAll K H vs ps
  | [], vs, ps, r, h => by unfold RpL at r; simp only [pySL] at h; cases h; subst r; exact .nil
  | d :: ds, vs, ps, r, h => by
    unfold RpL at r
    obtain ⟨v, vs', e, r1, r2⟩ := r
    simp only [pySL, Option.bind_eq_some_iff, Option.map_eq_some_iff] at h
    obtain ⟨a, h1, b, h2, h3⟩ := h
    subst e; subst h3
    exact .cons (pyS_at s d v a r1 h1) (pySL_at s ds vs' b r2 h2)
end
end
def fVar (i : Nat) : FE := fun ρ S => match ρ[i]? with
  | some (some d) => .ok d S
  | _ => .no
def fC (d : D) : FE := fun _ S => .ok d S
def f1 (g : D → Store → RE D) (a : FE) : FE := fun ρ S => (a ρ S).bnd fun x S1 => g x S1
def f2 (g : D → D → Store → RE D) (a b : FE) : FE := fun ρ S => (a ρ S).bnd fun x S1 => (b ρ S1).bnd fun y S2 => g x y S2
def fNil : FA := fun _ S => .ok [] S
def fCons (a : FE) (r : FA) : FA := fun ρ S => (a ρ S).bnd fun x S1 => (r ρ S1).bnd fun xs S2 => .ok (x :: xs) S2
def fArg (g : List D → Store → RE D) (a : FA) : FE := fun ρ S => (a ρ S).bnd g
/-- what the operation's reading asks is given -/
def OpV [Wo] (K : PySem.W.Frag) (mg : Str → Option Value) (r : R2) (g : D → D → Store → RE D) : Prop :=
  ∀ (w : Wd) (S : Store) (H : Hp) (x y : V) (d e : D) (Q : VK) (E : Value → Option Addr → Hp → Prop), Sto K mg w S H → Rp K mg w H d x → Rp K mg w H e y → End K mg (fun w H => Rp K mg w H) w H (g d e S) Q E → r x y H Q
def CallV [Wo] (K : PySem.W.Frag) (mg : Str → Option Value) (r : List V → Hp → VK → Prop) (g : List D → Store → RE D) : Prop :=
  ∀ (w : Wd) (S : Store) (H : Hp) (xs : List V) (ds : List D) (Q : VK) (E : Value → Option Addr → Hp → Prop), Sto K mg w S H → RpL K mg w H ds xs → End K mg (fun w H => Rp K mg w H) w H (g ds S) Q E → r xs H Q
section
variable {X : Cx} {W : WX} {a b e : Expr} {es : List Expr} {fa fb : FE} {fs : FA} {pos : Pos}
theorem two [Wo] {r : R2} {g : D → D → Store → RE D} (hv : OpV X.K X.mg r g) {σ : L2.St} {H : Hp} {Q : VK} (h : tF X W (f2 g fa fb) σ H Q) : tOp r (tF X W fa) (tF X W fb) σ H Q := by
  obtain ⟨w, ρ, S, s, en, h⟩ := h
  refine ⟨w, ρ, S, s, en, (End.bind h).imp ?_ (fun _ _ _ z => z)⟩
  rintro x H1 ⟨w1, S1, d, e1, s1, r1, h1⟩
  refine ⟨w1, ρ, S1, s1, en.ext e1, (End.bind h1).imp ?_ (fun _ _ _ z => z)⟩
  rintro y H2 ⟨w2, S2, d2, e2, s2, r2, h2⟩
  exact hv w2 S2 H2 x y d d2 Q _ s2 (Rp.ext e2 _ _ r1) r2 h2
theorem q_var [Wo] (i : Nat) {x : Str} (hN : X.N[i]? = some x := by rfl) (hv : Vis X.env.scope x := by first | exact Or.inl rfl | exact Or.inr (Or.inl rfl) | exact Or.inr (Or.inr rfl)) (hd : (x == ("__debug__" : Str)) = false := by decide)
    (hcd : (x == ("__classdict__" : Str)) = false := by decide) : PE X (.Name x pos) (tF X W (fVar i)) :=
  PE.wk (pe_var hN hv hd hcd) fun σ H Q ⟨w, ρ, S, s, en, h⟩ => by
    unfold fVar at h
    split at h
    · rename_i d hd
      obtain ⟨v, h1, h2⟩ := en.at_ i d hd
      exact ⟨v, h1, h.ret s h2⟩
    · exact h.elim
theorem q_const [Wo] {d : D} {v : V} (hr : ∀ w H, Rp X.K X.mg w H d v) (h : PE X e (tC v)) : PE X e (tF X W (fC d)) := PE.wk h fun σ H Q ⟨w, ρ, S, s, en, h⟩ => h.ret s (hr w H)
theorem q_int [Wo] {i j} : PE X (.Constant (.int i) j pos) (tF X W (fC (.int i))) := q_const (fun w H => by unfold Rp; rfl) pe_int
theorem q_bl [Wo] {i j} : PE X (.Constant (.bool i) j pos) (tF X W (fC (.bl i))) := q_const (fun w H => by unfold Rp; rfl) pe_bl
theorem q_non [Wo] {j} : PE X (.Constant .none j pos) (tF X W (fC .non)) := q_const (fun w H => by unfold Rp; rfl) pe_non
theorem q_str [Wo] {i j} : PE X (.Constant (.str i) j pos) (tF X W (fC (.str i))) := q_const (fun w H => by unfold Rp; rfl) pe_str
theorem q_op [Wo] {op : Operator} {r : R2} {g : D → D → Store → RE D} (ho : OpR X (binaryOp op) r) (hv : OpV X.K X.mg r g) (ha : PE X a (tF X W fa)) (hb : PE X b (tF X W fb)) : PE X (.BinOp a op b pos) (tF X W (f2 g fa fb)) :=
  PE.wk (pe_op ho ha hb) fun σ H Q h => two hv h
theorem q_cmp [Wo] {op : CmpOp} {r : R2} {g : D → D → Store → RE D} (ho : OpR X (compareOp op) r) (hv : OpV X.K X.mg r g) (ha : PE X a (tF X W fa)) (hb : PE X b (tF X W fb)) (hm : behindInMarks op b = false) : PE X (.Compare a [op] [b] pos) (tF X W (f2 g fa fb)) :=
  PE.wk (pe_cmpR ho ha hb hm) fun σ H Q h => two hv h
/-- a value that is a truth, as a test -/
def fB (f : FE) : FT := fun ρ S => (f ρ S).bnd fun x S1 => match x with
  | .bl k => .ok k S1
  | _ => .no
theorem tF_of_fB [Wo] {f : FE} {σ : L2.St} {H : Hp} {Q : Bool → Hp → Prop} (h : tT X W (fB f) σ H Q) : tF X W f σ H (fun v H' => ∃ k, v = .bl k ∧ Q k H') := by
  obtain ⟨w, ρ, S, s, en, h⟩ := h
  refine ⟨w, ρ, S, s, en, (End.bind (R := fun w H => Rp X.K X.mg w H) h).imp ?_ (fun _ _ _ z => z)⟩
  rintro x H1 ⟨w1, S1, d, e1, s1, r1, h1⟩
  cases d <;> try exact h1.elim
  unfold Rp at r1
  exact ⟨_, r1, h1.ret s1 rfl⟩
theorem qt_cmp [Wo] {op : CmpOp} {r : R2} {g : D → D → Store → RE D} (ho : OpR X (compareOp op) r) (hv : OpV X.K X.mg r g) (ha : PE X a (tF X W fa)) (hb : PE X b (tF X W fb)) (hm : behindInMarks op b = false) : PT X (.Compare a [op] [b] pos) (tT X W (fB (f2 g fa fb))) :=
  PT.wk (pt_cmpR ho ha hb hm) fun σ H Q h => two hv (tF_of_fB h)
/-- a op1 b op2 c -/
def fChain (g g' : D → D → Store → RE D) (a b c : FE) : FE := fun ρ S => (a ρ S).bnd fun x S1 => (b ρ S1).bnd fun y S2 => (g x y S2).bnd fun k S3 => match k with
  | .bl true => (c ρ S3).bnd fun z S4 => g' y z S4
  | .bl false => .ok (.bl false) S3
  | _ => .no
theorem chain [Wo] {r r' : R2} {g g' : D → D → Store → RE D} (hv : OpV X.K X.mg r g) (hv' : OpV X.K X.mg r' g') {fc : FE} {σ : L2.St} {H : Hp} {Q : VK} (h : tF X W (fChain g g' fa fb fc) σ H Q) : tChain r r' (tF X W fa) (tF X W fb) (tF X W fc) σ H Q := by
  obtain ⟨w, ρ, S, s, en, h⟩ := h
  refine ⟨w, ρ, S, s, en, (End.bind h).imp ?_ (fun _ _ _ z => z)⟩
  rintro x H1 ⟨w1, S1, d, e1, s1, r1, h1⟩
  refine ⟨w1, ρ, S1, s1, en.ext e1, (End.bind h1).imp ?_ (fun _ _ _ z => z)⟩
  rintro y H2 ⟨w2, S2, d2, e2, s2, r2, h2⟩
  refine hv w2 S2 H2 x y d d2 _ _ s2 (Rp.ext e2 _ _ r1) r2 ((End.bind h2).imp ?_ (fun _ _ _ z => z))
  rintro z H3 ⟨w3, S3, d3, e3, s3, r3, h3⟩
  cases d3 <;> try exact h3.elim
  rename_i k
  unfold Rp at r3
  refine ⟨k, r3, ?_⟩
  cases k with
  | false => rw [if_neg (by decide)]; exact h3.ret s3 (by unfold Rp; rfl)
  | true =>
    rw [if_pos rfl]
    refine ⟨w3, ρ, S3, s3, ((en.ext e1).ext e2).ext e3, (End.bind h3).imp ?_ (fun _ _ _ z => z)⟩
    rintro u H4 ⟨w4, S4, d4, e4, s4, r4, h4⟩
    exact hv' w4 S4 H4 y u d2 d4 _ _ s4 (Rp.ext e4 _ _ (Rp.ext e3 _ _ r2)) r4 h4
theorem q_chain [Wo] {c : Expr} {fc : FE} {op op' : CmpOp} {r r' : R2} {g g' : D → D → Store → RE D} (ho : OpR X (compareOp op) r) (hv : OpV X.K X.mg r g) (ho' : OpR X (compareOp op') r') (hv' : OpV X.K X.mg r' g') (ha : PE X a (tF X W fa)) (hb : PE X b (tF X W fb)) (hc : PE X c (tF X W fc))
    (hm : lastMarks [op, op'] [b, c] = false := by with_unfolding_all rfl) : PE X (.Compare a [op, op'] [b, c] pos) (tF X W (fChain g g' fa fb fc)) :=
  PE.wk (pe_chain ho ho' ha hb hc hm) fun σ H Q h => chain hv hv' h
theorem qt_chain [Wo] {c : Expr} {fc : FE} {op op' : CmpOp} {r r' : R2} {g g' : D → D → Store → RE D} (ho : OpR X (compareOp op) r) (hv : OpV X.K X.mg r g) (ho' : OpR X (compareOp op') r') (hv' : OpV X.K X.mg r' g') (ha : PE X a (tF X W fa)) (hb : PE X b (tF X W fb)) (hc : PE X c (tF X W fc))
    (hm : lastMarks [op, op'] [b, c] = false := by with_unfolding_all rfl) : PT X (.Compare a [op, op'] [b, c] pos) (tT X W (fB (fChain g g' fa fb fc))) :=
  PT.wk (pt_chain ho ho' ha hb hc hm) fun σ H Q h => chain hv hv' (tF_of_fB h)
def fAnd (a b : FT) : FT := fun ρ S => (a ρ S).bnd fun k S1 => match k with
  | true => b ρ S1
  | false => .ok false S1
def fOr (a b : FT) : FT := fun ρ S => (a ρ S).bnd fun k S1 => match k with
  | true => .ok true S1
  | false => b ρ S1
def fNot (a : FT) : FT := fun ρ S => (a ρ S).bnd fun k S1 => .ok (!k) S1
def fIf (c : FT) (a b : FE) : FE := fun ρ S => (c ρ S).bnd fun k S1 => match k with
  | true => a ρ S1
  | false => b ρ S1
variable {ta tb : FT} {rest : List Expr}
theorem tT_bind [Wo] {β : Type} {R' : Wd → Hp → β → β → Prop} {f : FT} {σ : L2.St} {H : Hp} {t : Bool → Hp → Prop} {w : Wd} {ρ : FEnv} {S : Store} {γ δ : Type} {RR : Wd → Hp → γ → δ → Prop} {k : Bool → Store → RE γ} {Q : δ → Hp → Prop}
    (s : Sto X.K X.mg w S H) (en : EnvR X.K X.mg w H ρ σ) (h : End X.K X.mg RR w H ((f ρ S).bnd k) Q (fun c od H' => W c od σ H'))
    (hk : ∀ w1 S1 H1 b, Sto X.K X.mg w1 S1 H1 → EnvR X.K X.mg w1 H1 ρ σ → End X.K X.mg RR w1 H1 (k b S1) Q (fun c od H' => W c od σ H') → t b H1) : tT X W f σ H t := by
  refine ⟨w, ρ, S, s, en, (End.bind h).imp ?_ (fun _ _ _ z => z)⟩
  rintro v H1 ⟨w1, S1, d, e1, s1, r1, h1⟩
  cases r1
  exact hk w1 S1 H1 _ s1 (en.ext e1) h1
theorem qw_one [Wo] {op : BoolOp} (ha : PT X a (tT X W ta)) : PW X (.BoolOp op [a] pos) (tT X W ta) := by
  cases op
  · exact pw_and1 ha
  · exact pw_or1 ha
theorem qw_and [Wo] (ha : PT X a (tT X W ta)) (hb : PW X (.BoolOp .And (b :: rest) pos) (tT X W tb)) : PW X (.BoolOp .And (a :: b :: rest) pos) (tT X W (fAnd ta tb)) :=
  PW.wk (pw_and ha hb) fun σ H Q ⟨w, ρ, S, s, en, h⟩ => tT_bind (R' := fun _ _ (a b : Nat) => True) s en h fun w1 S1 H1 k s1 en1 h1 => by
    cases k with
    | true => rw [if_pos rfl]; exact ⟨w1, ρ, S1, s1, en1, h1⟩
    | false => rw [if_neg (by decide)]; exact h1.ret s1 rfl
theorem qw_or [Wo] (ha : PT X a (tT X W ta)) (hb : PW X (.BoolOp .Or (b :: rest) pos) (tT X W tb)) : PW X (.BoolOp .Or (a :: b :: rest) pos) (tT X W (fOr ta tb)) :=
  PW.wk (pw_or ha hb) fun σ H Q ⟨w, ρ, S, s, en, h⟩ => tT_bind (R' := fun _ _ (a b : Nat) => True) s en h fun w1 S1 H1 k s1 en1 h1 => by
    cases k with
    | true => rw [if_pos rfl]; exact h1.ret s1 rfl
    | false => rw [if_neg (by decide)]; exact ⟨w1, ρ, S1, s1, en1, h1⟩
theorem qt_not [Wo] (ha : PT X a (tT X W ta)) : PT X (.UnaryOp .Not a pos) (tT X W (fNot ta)) :=
  PT.wk (pt_not ha) fun σ H Q ⟨w, ρ, S, s, en, h⟩ => tT_bind (R' := fun _ _ (a b : Nat) => True) s en h fun w1 S1 H1 k s1 en1 h1 => h1.ret s1 rfl
theorem q_if [Wo] {c : Expr} {tc : FT} (hc : PT X c (tT X W tc)) (ha : PE X a (tF X W fa)) (hb : PE X b (tF X W fb)) : PE X (.IfExp c a b pos) (tF X W (fIf tc fa fb)) :=
  PE.wk (pe_ifExp hc ha hb) fun σ H Q ⟨w, ρ, S, s, en, h⟩ => tT_bind (R' := fun _ _ (a b : Nat) => True) s en h fun w1 S1 H1 k s1 en1 h1 => by
    cases k with
    | true => rw [if_pos rfl]; exact ⟨w1, ρ, S1, s1, en1, h1⟩
    | false => rw [if_neg (by decide)]; exact ⟨w1, ρ, S1, s1, en1, h1⟩
/-- and, or, not as values: all but the last one truths -/
def fAndV (a b : FE) : FE := fun ρ S => (a ρ S).bnd fun k S1 => match k with
  | .bl true => b ρ S1
  | .bl false => .ok (.bl false) S1
  | _ => .no
def fOrV (a b : FE) : FE := fun ρ S => (a ρ S).bnd fun k S1 => match k with
  | .bl true => .ok (.bl true) S1
  | .bl false => b ρ S1
  | _ => .no
theorem q_one [Wo] {op : BoolOp} (ha : PE X a (tF X W fa)) : PE X (.BoolOp op [a] pos) (tF X W fa) := pe_one ha
theorem q_and [Wo] (ha : PE X a (tF X W fa)) (hb : PE X (.BoolOp .And (b :: rest) pos) (tF X W fb)) : PE X (.BoolOp .And (a :: b :: rest) pos) (tF X W (fAndV fa fb)) :=
  PE.wk (pe_and ha hb) fun σ H Q ⟨w, ρ, S, s, en, h⟩ => by
    refine ⟨w, ρ, S, s, en, (End.bind h).imp ?_ (fun _ _ _ z => z)⟩
    rintro x H1 ⟨w1, S1, d, e1, s1, r1, h1⟩
    cases d <;> try exact h1.elim
    rename_i k
    unfold Rp at r1
    refine ⟨k, r1, ?_⟩
    cases k with
    | true => rw [if_pos rfl]; exact ⟨w1, ρ, S1, s1, en.ext e1, h1⟩
    | false => rw [if_neg (by decide)]; exact h1.ret s1 (by unfold Rp; rfl)
/-- truth -/
def truD (S : Store) : D → Option Bool
  | .non => some false
  | .bl b => some b
  | .int i => some (i != 0)
  | .str y => if y.length ≤ sizeLine then some ((y.length : Int) != 0) else none
  | .tup ds => some (!ds.isEmpty)
  | .lst ds => some (!ds.isEmpty)
  | .fls ds => some (!ds.isEmpty)
  | .loc n => (cellOf S n).map fun ds => !ds.isEmpty
  | _ => none
def fTru (f : FE) : FT := fun ρ S => (f ρ S).bnd fun x S1 => match truD S1 x with
  | some k => .ok k S1
  | none => .no
theorem RpL.emp {K : PySem.W.Frag} {mg : Str → Option Value} {w : Wd} {H : Hp} {ds : List D} {vs : List V} (h : RpL K mg w H ds vs) : (!ds.isEmpty) = !vs.isEmpty := by
  cases ds <;> unfold RpL at h
  · subst h; rfl
  · obtain ⟨v, r, e, _⟩ := h; subst e; rfl
theorem truD_at [Wo] {K : PySem.W.Frag} {mg : Str → Option Value} {w : Wd} {H : Hp} {S : Store} {d : D} {v : V} {k : Bool} (s : Sto K mg w S H) (r : Rp K mg w H d v) (h : truD S d = some k) : TruV K v H k := by
  cases d with
  | non => unfold Rp at r; subst r; simp only [truD] at h; cases h; rfl
  | bl b => unfold Rp at r; subst r; simp only [truD] at h; cases h; rfl
  | int i => unfold Rp at r; subst r; simp only [truD] at h; cases h; rfl
  | str y =>
    unfold Rp at r; subst r; simp only [truD] at h
    split at h
    · rename_i hl; cases h; exact ⟨hl, rfl⟩
    · cases h
  | tup ds =>
    obtain ⟨a, xs, e, t, q⟩ := tup_at r
    simp only [truD] at h; cases h; subst e
    exact .inr (.inl ⟨xs, t, q.emp⟩)
  | lst ds =>
    obtain ⟨a, xs, e, t, q⟩ := seqL_at (S := S) s r rfl
    simp only [truD] at h; cases h; subst e
    exact .inl ⟨xs, t, q.emp⟩
  | fls ds =>
    obtain ⟨a, xs, e, t, q⟩ := seqL_at (S := S) (d := .fls ds) s r rfl
    simp only [truD] at h; cases h; subst e
    exact .inl ⟨xs, t, q.emp⟩
  | loc n =>
    simp only [truD, Option.map_eq_some_iff] at h
    obtain ⟨ds, h1, h2⟩ := h
    obtain ⟨a, xs, e, t, q⟩ := seqL_at (S := S) (d := .loc n) s r h1
    subst e; subst h2
    exact .inl ⟨xs, t, q.emp⟩
  | _ => simp [truD] at h
theorem qt_tru [Wo] (ha : PE X a (tF X W fa)) (he : ∀ whole, isTrue a X.env whole = (do let v ← whole; standAt a.pos; holding [v] (truthy v)) := by intro _; rfl) : PT X a (tT X W (fTru fa)) :=
  PT.wk (pt_truth ha he) fun σ H Q ⟨w, ρ, S, s, en, h⟩ => by
    refine ⟨w, ρ, S, s, en, (End.bind (R := fun w H => Rp X.K X.mg w H) h).imp ?_ (fun _ _ _ z => z)⟩
    rintro x H1 ⟨w1, S1, d, e1, s1, r1, h1⟩
    split at h1
    · rename_i k hk
      exact ⟨k, truD_at s1 r1 hk, h1.ret s1 rfl⟩
    · exact h1.elim
/-- not e, as a value, by truth -/
def fNotV (f : FE) : FE := fun ρ S => (f ρ S).bnd fun x S1 => match truD S1 x with
  | some k => .ok (.bl (!k)) S1
  | none => .no
theorem q_not [Wo] (ha : PE X a (tF X W fa)) : PE X (.UnaryOp .Not a pos) (tF X W (fNotV fa)) :=
  PE.wk (pe_notT ha) fun σ H Q ⟨w, ρ, S, s, en, h⟩ => by
    refine ⟨w, ρ, S, s, en, (End.bind (R := fun w H => Rp X.K X.mg w H) h).imp ?_ (fun _ _ _ z => z)⟩
    rintro x H1 ⟨w1, S1, d, e1, s1, r1, h1⟩
    split at h1
    · rename_i k hk
      exact ⟨k, truD_at s1 r1 hk, h1.ret s1 (by unfold Rp; rfl)⟩
    · exact h1.elim
theorem q_nil [Wo] : PA X [] (tA X W fNil) := PA.wk pa_nil fun σ H Q ⟨w, ρ, S, s, en, h⟩ => h.ret s RpL.nil
theorem q_cons [Wo] (ha : PE X e (tF X W fa)) (hr : PA X es (tA X W fs)) (hs : starEach (e :: es) X.env = (false, eval e X.env) :: starEach es X.env := by rfl) : PA X (e :: es) (tA X W (fCons fa fs)) :=
  PA.wk (pa_cons ha hr hs) fun σ H Q ⟨w, ρ, S, s, en, h⟩ => by
    refine ⟨w, ρ, S, s, en, (End.bind h).imp ?_ (fun _ _ _ z => z)⟩
    rintro x H1 ⟨w1, S1, d, e1, s1, r1, h1⟩
    refine ⟨w1, ρ, S1, s1, en.ext e1, (End.bind h1).imp ?_ (fun _ _ _ z => z)⟩
    rintro xs H2 ⟨w2, S2, ds, e2, s2, r2, h2⟩
    exact h2.ret s2 (RpL.cons (Rp.ext e2 _ _ r1) r2)
/-- a new tuple, a new list -/
def mkTup (ds : List D) (S : Store) : RE D := if ds.length ≤ sizeLine then .ok (.tup ds) S else .no
def mkLst (ds : List D) (S : Store) : RE D := if ds.length ≤ sizeLine then .ok (.lst ds) S else .no
def mkCel (ds : List D) (S : Store) : RE D := if ds.length ≤ sizeLine then .ok (.loc S.length) (S ++ [.lst ds]) else .no
section
variable {K : PySem.W.Frag} {mg : Str → Option Value} {w : Wd} {H : Hp} {S : Store} {Q : VK} {E : Value → Option Addr → Hp → Prop} {ds : List D} {xs : List V} {p : Addr}
theorem mkTup_at [Wo] (s : Sto K mg w S H) (r : RpL K mg w H ds xs) (h : End K mg (fun w H => Rp K mg w H) w H (mkTup ds S) Q E) : xs.length ≤ sizeLine ∧ ∀ p, H p = none → Q (.ref p) (upd H p (.tup xs)) := by
  unfold mkTup at h
  split at h
  · rename_i hl
    refine ⟨by rw [← r.length]; exact hl, fun p np => h w _ _ (Ext.new np) (s.beside np) ?_⟩
    show Rp _ _ _ _ _ _
    unfold Rp
    exact ⟨p, xs, rfl, .inl ⟨upd_same, s.new np⟩, RpL.ext (Ext.new np) _ _ r⟩
  · exact h.elim
theorem mkLst_at [Wo] (s : Sto K mg w S H) (r : RpL K mg w H ds xs) (h : End K mg (fun w H => Rp K mg w H) w H (mkLst ds S) Q E) : xs.length ≤ sizeLine ∧ ∀ p, H p = none → Q (.ref p) (upd H p (.lst xs)) := by
  unfold mkLst at h
  split at h
  · rename_i hl
    refine ⟨by rw [← r.length]; exact hl, fun p np => h w _ _ (Ext.new np) (s.beside np) ?_⟩
    show Rp _ _ _ _ _ _
    unfold Rp
    exact ⟨p, xs, rfl, upd_same, s.new np, RpL.ext (Ext.new np) _ _ r⟩
  · exact h.elim
theorem Ext.cell {o : HO} (np : H p = none) : Ext w H ⟨w.φ ++ [some p], w.hd⟩ (upd H p o) where
  fr := fun a u e _ => by rw [upd_ne (ne_of_none e np)]; exact e
  ln := by show w.φ.length ≤ (w.φ ++ [some p]).length; rw [List.length_append]; exact Nat.le_add_right _ _
  ph := fun n a h l => by
    have h' : (w.φ ++ [some p])[n]? = some (some a) := h
    rw [List.getElem?_append_left l] at h'; exact h'
  nw := fun a h => by
    rcases List.mem_append.mp (show some a ∈ w.φ ++ [some p] from h) with h | h
    · exact .inl h
    · simp at h; subst h; exact .inr np
  hd := rfl
theorem Sto.cellNew [Wo] (s : Sto K mg w S H) (np : H p = none) (r : RpL K mg w H ds xs) : Sto K mg ⟨w.φ ++ [some p], w.hd⟩ (S ++ [.lst ds]) (upd H p (.lst xs)) := by
  have s2 := s.beside (o := .lst xs) np
  have ex : Ext w H ⟨w.φ ++ [some p], w.hd⟩ (upd H p (.lst xs)) := Ext.cell np
  refine ⟨by show (w.φ ++ [some p]).length = _; rw [List.length_append, List.length_append, s.len]; rfl, fun m n a h1 h2 => ?_, fun a ha => ⟨upd_some (s.ap a ha).1, fun z => ?_⟩, fun n c hc => ?_⟩
  · have key : ∀ k, (w.φ ++ [some p])[k]? = some (some a) → (w.φ[k]? = some (some a) ∧ k < w.φ.length) ∨ (k = w.φ.length ∧ a = p) := fun k hk => by
      by_cases hl : k < w.φ.length
      · rw [List.getElem?_append_left hl] at hk; exact .inl ⟨hk, hl⟩
      · have hl' : w.φ.length ≤ k := Nat.le_of_not_lt hl
        rw [List.getElem?_append_right hl'] at hk
        have : k - w.φ.length = 0 := by
          cases e : k - w.φ.length with
          | zero => rfl
          | succ j => rw [e] at hk; simp at hk
        rw [this] at hk; simp at hk
        exact .inr ⟨by omega, hk.symm⟩
    rcases key m h1 with ⟨a1, b1⟩ | ⟨a1, b1⟩ <;> rcases key n h2 with ⟨a2, b2⟩ | ⟨a2, b2⟩
    · exact s.nd m n a a1 a2
    · subst b2; exact absurd (List.mem_of_getElem? a1) (s.new np).1
    · subst b1; exact absurd (List.mem_of_getElem? a2) (s.new np).1
    · omega
  · rcases List.mem_append.mp (show some a ∈ w.φ ++ [some p] from z) with h | h
    · exact (s.ap a ha).2 h
    · simp at h; subst h; exact (s.ap a ha).1 np
  · by_cases hl : n < S.length
    · rw [List.getElem?_append_left hl] at hc
      refine CellR.ext ex (fun a ha => ⟨by show (w.φ ++ [some p])[n]? = _; rw [List.getElem?_append_left (s.len ▸ hl)]; exact ha, ?_⟩) (fun hd => by show (w.φ ++ [some p])[n]? = _; rw [List.getElem?_append_left (s.len ▸ hl)]; exact hd) (s.cell n c hc)
      have : a ≠ p := fun z => by subst z; exact (s.new np).1 (List.mem_of_getElem? ha)
      rw [upd_ne this]
    · have hl' : S.length ≤ n := Nat.le_of_not_lt hl
      rw [List.getElem?_append_right hl'] at hc
      have e0 : n - S.length = 0 := by
        cases e : n - S.length with
        | zero => rfl
        | succ j => rw [e] at hc; simp at hc
      rw [e0] at hc; simp at hc; subst hc
      have en : n = w.φ.length := by rw [s.len]; omega
      subst en
      exact ⟨p, xs, by show (w.φ ++ [some p])[w.φ.length]? = _; rw [List.getElem?_append_right (Nat.le_refl _), Nat.sub_self]; rfl, upd_same, RpL.ext ex _ _ r⟩
theorem mkCel_at [Wo] (s : Sto K mg w S H) (r : RpL K mg w H ds xs) (h : End K mg (fun w H => Rp K mg w H) w H (mkCel ds S) Q E) : xs.length ≤ sizeLine ∧ ∀ p, H p = none → Q (.ref p) (upd H p (.lst xs)) := by
  unfold mkCel at h
  split at h
  · rename_i hl
    refine ⟨by rw [← r.length]; exact hl, fun p np => h _ _ _ (Ext.cell np) (s.cellNew np r) ?_⟩
    show Rp _ _ _ _ _ _
    unfold Rp
    refine ⟨by show S.length < (w.φ ++ [some p]).length; rw [List.length_append, s.len]; exact Nat.lt_succ_self _, fun a ha => ?_⟩
    have ha' : (w.φ ++ [some p])[S.length]? = some (some a) := ha
    rw [← s.len, List.getElem?_append_right (Nat.le_refl _), Nat.sub_self] at ha'
    simp at ha'; rw [ha']
  · exact h.elim
end
theorem q_tup [Wo] {x1} (h : PA X es (tA X W fs)) : PE X (.Tuple es x1 pos) (tF X W (fArg mkTup fs)) :=
  PE.wk (pe_tup h) fun σ H Q ⟨w, ρ, S, s, en, h⟩ => ⟨w, ρ, S, s, en, (End.bind (R := fun w H => RpL X.K X.mg w H) h).imp (fun xs H1 ⟨w1, S1, ds, e1, s1, r1, h1⟩ => mkTup_at s1 r1 h1) (fun _ _ _ z => z)⟩
theorem q_lst [Wo] (h : PA X es (tA X W fs)) : PE X (.List es pos) (tF X W (fArg mkLst fs)) :=
  PE.wk (pe_lst h) fun σ H Q ⟨w, ρ, S, s, en, h⟩ => ⟨w, ρ, S, s, en, (End.bind (R := fun w H => RpL X.K X.mg w H) h).imp (fun xs H1 ⟨w1, S1, ds, e1, s1, r1, h1⟩ => mkLst_at s1 r1 h1) (fun _ _ _ z => z)⟩
theorem q_cel [Wo] (h : PA X es (tA X W fs)) : PE X (.List es pos) (tF X W (fArg mkCel fs)) :=
  PE.wk (pe_lst h) fun σ H Q ⟨w, ρ, S, s, en, h⟩ => ⟨w, ρ, S, s, en, (End.bind (R := fun w H => RpL X.K X.mg w H) h).imp (fun xs H1 ⟨w1, S1, ds, e1, s1, r1, h1⟩ => mkCel_at s1 r1 h1) (fun _ _ _ z => z)⟩
theorem argsTo [Wo] {r : List V → Hp → VK → Prop} {g : List D → Store → RE D} (hv : CallV X.K X.mg r g) {σ : L2.St} {H : Hp} {Q : VK} (h : tF X W (fArg g fs) σ H Q) : tA X W fs σ H (fun vs H1 => r vs H1 Q) := by
  obtain ⟨w, ρ, S, s, en, h⟩ := h
  refine ⟨w, ρ, S, s, en, (End.bind h).imp ?_ (fun _ _ _ z => z)⟩
  rintro xs H1 ⟨w1, S1, ds, e1, s1, r1, h1⟩
  exact hv w1 S1 H1 xs ds Q _ s1 r1 h1
theorem q_callB [Wo] {x : Str} {p : Pos} {id : String} {r : List V → Hp → VK → Prop} {g : List D → Store → RE D} (hc : CallR X (.builtin id) r) (hv : CallV X.K X.mg r g) (hg : Gl X x) (hm : X.mg x = none) (hb : bootBuiltins x = some (.builtin id)) (ha : PA X (e :: es) (tA X W fs)) (hn : x ≠ "__name__" := by decide) (hdb : (x == ("__debug__" : Str)) = false := by decide)
    (he : starEach (e :: es) X.env = (false, eval e X.env) :: starEach es X.env := by rfl) (hpl : (backTo pos (starEach es X.env)).any (·.1) = false := by rfl) : PE X (.Call (.Name x p) (e :: es) [] pos) (tF X W (fArg g fs)) :=
  PE.wk (pe_callB hc hg hm hb ha hn hdb he hpl) fun σ H Q h => argsTo hv h
theorem q_callTy [Wo] {x : Str} {p : Pos} {T : String} {r : List V → Hp → VK → Prop} {g : List D → Store → RE D} (hc : CallR X (.type T) r) (hv : CallV X.K X.mg r g) (hg : Gl X x) (hm : X.mg x = none) (hb : bootBuiltins x = some (.type T)) (ha : PA X (e :: es) (tA X W fs)) (hn : x ≠ "__name__" := by decide) (hdb : (x == ("__debug__" : Str)) = false := by decide)
    (he : starEach (e :: es) X.env = (false, eval e X.env) :: starEach es X.env := by rfl) (hpl : (backTo pos (starEach es X.env)).any (·.1) = false := by rfl) : PE X (.Call (.Name x p) (e :: es) [] pos) (tF X W (fArg g fs)) :=
  PE.wk (pe_callTy hc hg hm hb ha hn hdb he hpl) fun σ H Q h => argsTo hv h
end
end Kw
namespace Kw
open PySem PySem.Spec PyProof.Rows L2
section
variable {K : PySem.W.Frag} {mg : Str → Option Value} {w : Wd} {H : Hp} {S : Store}
theorem rp_int {i : Int} {v : V} (h : Rp K mg w H (.int i) v) : v = .int i := by unfold Rp at h; exact h
theorem rp_bl {i : Bool} {v : V} (h : Rp K mg w H (.bl i) v) : v = .bl i := by unfold Rp at h; exact h
theorem rp_str {i : Str} {v : V} (h : Rp K mg w H (.str i) v) : v = .str i := by unfold Rp at h; exact h
theorem rp_non {v : V} (h : Rp K mg w H .non v) : v = .non := by unfold Rp at h; exact h
theorem rp_i {i : Int} : Rp K mg w H (.int i) (.int i) := by unfold Rp; rfl
theorem rp_b {i : Bool} : Rp K mg w H (.bl i) (.bl i) := by unfold Rp; rfl
theorem rp_s {i : Str} : Rp K mg w H (.str i) (.str i) := by unfold Rp; rfl
theorem rp_n : Rp K mg w H .non .non := by unfold Rp; rfl
end
def catL (c : Bool) (x y : Option (List D)) (S : Store) : RE D := match x, y with
  | some xs, some ys => if c then mkCel (xs ++ ys) S else mkLst (xs ++ ys) S
  | _, _ => .no
/-- c: the sum of two lists is a cell -/
def gAdd (c : Bool) (x y : D) (S : Store) : RE D := match x with
  | .int i => (match y with
    | .int j => .ok (.int (i + j)) S
    | .bl k => .ok (.int (i + b2i k)) S
    | _ => .no)
  | .str a => (match y with
    | .str b => if a.length + b.length ≤ sizeLine then .ok (.str (a ++ b)) S else .no
    | _ => .no)
  | .tup xs => (match y with
    | .tup ys => mkTup (xs ++ ys) S
    | _ => .no)
  | x => catL c (seqM S x) (seqM S y) S
def gSub (x y : D) (S : Store) : RE D := match x, y with
  | .int i, .int j => .ok (.int (i - j)) S
  | _, _ => .no
instance (i j : Int) : Decidable (CMulW i j) := inferInstanceAs (Decidable (_ < _))
instance (i j : Int) : Decidable (CMul i j) := inferInstanceAs (Decidable (_ ∨ _))
/-- a text so many times -/
def repS (a : Str) (n : Int) : Str := if n < 1 then Str.empty else if (n == 1 || a.length == 0) = true then a else ⟨(List.replicate n.toNat a.cps).foldl (· ++ ·) #[]⟩
/-- c: a list that is repeated is a cell -/
def gMul (c : Bool) (x y : D) (S : Store) : RE D := match y with
  | .int j => (match x with
    | .int i => if CMul i j ∨ CMulW i j then .ok (.int (i * j)) S else .no
    | .str a => if a.length * j.toNat ≤ 16777216 ∧ a.length ≤ 1000 ∧ -(2 ^ 63) ≤ j ∧ j ≤ 100000 then .ok (.str (repS a j)) S else .no
    | x => (match seqM S x with
      | some xs => if xs.length * j.toNat ≤ sizeLine ∧ -(2 ^ 63) ≤ j ∧ j < 2 ^ 63 then (if c then mkCel (List.replicate j.toNat xs).flatten S else mkLst (List.replicate j.toNat xs).flatten S) else .no
      | none => .no))
  | _ => .no
/-- the divisor is positive -/
def gMod (x y : D) (S : Store) : RE D := match x, y with
  | .int i, .int j => if 0 < j then .ok (.int (i % j)) S else .no
  | _, _ => .no
def gDiv (x y : D) (S : Store) : RE D := match x, y with
  | .int i, .int j => if 0 < j ∧ j.natAbs.log2 < 9000 then .ok (.int (i / j)) S else .no
  | _, _ => .no
def gPow (x y : D) (S : Store) : RE D := match x, y with
  | .int i, .int j => if 0 ≤ j ∧ j ≤ 1000000 ∧ i.natAbs < 2 ^ 64 then .ok (.int (i ^ j.toNat)) S else .no
  | _, _ => .no
section
variable {K : PySem.W.Frag} {mg : Str → Option Value}
def rAddU (K : PySem.W.Frag) : R2 := fun x y H Q => (∃ i j, x = .int i ∧ y = .int j ∧ Q (.int (i + j)) H) ∨ (∃ i k, x = .int i ∧ y = .bl k ∧ Q (.int (i + b2i k)) H) ∨
  (∃ i j, x = .str i ∧ y = .str j ∧ i.length + j.length ≤ sizeLine ∧ Q (.str (i ++ j)) H) ∨ rCat x y H Q ∨ rCatA K x y H Q
theorem op_addU {X : Cx} : OpR X (binaryOp .Add) (rAddU X.K) := op_add.or (op_add_ib.or (op_add_str.or (op_cat.or op_catA)))
theorem addU_v [Wo] {c : Bool} : OpV K mg (rAddU K) (gAdd c) := by
  intro w S H x y d e Q E s r1 r2 h
  have lists : ∀ xs ys, seqM S d = some xs → seqM S e = some ys → End K mg (fun w H => Rp K mg w H) w H (if c then mkCel (xs ++ ys) S else mkLst (xs ++ ys) S) Q E → rCat x y H Q := fun xs ys h1 h2 h => by
    obtain ⟨a, vs, e1, t1, q1⟩ := seqM_at s r1 h1
    obtain ⟨b, us, e2, t2, q2⟩ := seqM_at s r2 h2
    have q := q1.append q2
    refine ⟨a, b, vs, us, e1, e2, t1, t2, ?_⟩
    have l : (vs ++ us).length = vs.length + us.length := List.length_append
    cases c
    · have z := mkLst_at s q h
      rw [l] at z; exact z
    · have z := mkCel_at s q h
      rw [l] at z; exact z
  have lists' : End K mg (fun w H => Rp K mg w H) w H (catL c (seqM S d) (seqM S e) S) Q E → rCat x y H Q := fun h => by
    unfold catL at h
    split at h
    · rename_i xs ys h1 h2; exact lists xs ys h1 h2 h
    · exact h.elim
  cases d <;> simp only [gAdd] at h
  case int i =>
    cases e <;> simp only [] at h <;> try exact h.elim
    · exact .inr (.inl ⟨i, _, rp_int r1, rp_bl r2, h.ret s rp_i⟩)
    · exact .inl ⟨i, _, rp_int r1, rp_int r2, h.ret s rp_i⟩
  case str a =>
    cases e <;> simp only [] at h <;> try exact h.elim
    split at h
    · rename_i hl; exact .inr (.inr (.inl ⟨a, _, rp_str r1, rp_str r2, hl, h.ret s rp_s⟩))
    · exact h.elim
  case tup xs =>
    cases e <;> simp only [] at h <;> try exact h.elim
    rename_i ys
    refine .inr (.inr (.inr (.inr ?_)))
    have r1' := r1
    have r2' := r2
    unfold Rp at r1' r2'
    obtain ⟨a, vs, e1, t1, q1⟩ := r1'
    obtain ⟨b, us, e2, t2, q2⟩ := r2'
    have q := q1.append q2
    have z := mkTup_at s q h
    have l : (vs ++ us).length = vs.length + us.length := List.length_append
    refine ⟨a, b, vs, us, e1, e2, t1.sq, t2.sq, by rw [← l]; exact z.1, fun ev => ?_, fun _ eu => ?_, fun _ _ => z.2⟩
    · subst ev
      have : xs = [] := q1.nil_iff.mpr rfl
      subst this
      unfold mkTup at h
      split at h
      · exact h.ret s (show Rp K mg w H _ _ by unfold Rp; exact ⟨b, us, rfl, t2, q2⟩)
      · exact h.elim
    · subst eu
      have : ys = [] := q2.nil_iff.mpr rfl
      subst this
      unfold mkTup at h
      split at h
      · exact h.ret s (show Rp K mg w H _ _ by unfold Rp; exact ⟨a, vs, rfl, t1, by rw [List.append_nil]; exact q1⟩)
      · exact h.elim
  all_goals exact .inr (.inr (.inr (.inl (lists' h))))
theorem sub_v [Wo] : OpV K mg (rI0 fun i j => .int (i - j)) gSub := by
  intro w S H x y d e Q E s r1 r2 h
  cases d <;> cases e <;> simp only [gSub] at h <;> try exact h.elim
  exact ⟨_, _, rp_int r1, rp_int r2, h.ret s rp_i⟩
theorem repS_fold : ∀ (k : Nat) (b a : Array Nat), ((List.replicate k a).foldl (· ++ ·) b).size = b.size + a.size * k
  | 0, b, a => by simp
  | k + 1, b, a => by rw [List.replicate_succ, List.foldl_cons, repS_fold k, Array.size_append, Nat.mul_succ]; omega
theorem repS_length (a : Str) (n : Int) : (repS a n).length ≤ a.length * n.toNat := by
  unfold repS
  by_cases h : n < 1
  · rw [if_pos h]; exact Nat.zero_le _
  · rw [if_neg h]
    have h1 : 1 ≤ n.toNat := by omega
    split
    · exact Nat.le_mul_of_pos_right _ h1
    · show ((List.replicate n.toNat a.cps).foldl (· ++ ·) #[]).size ≤ _
      rw [repS_fold]; show 0 + a.cps.size * _ ≤ _; rw [Nat.zero_add]; exact Nat.le_refl _
def rRepS : R2 := fun x y H Q => ∃ a j, x = .str a ∧ y = .int j ∧ a.length * j.toNat ≤ 16777216 ∧ a.length ≤ 1000 ∧ -(2 ^ 63) ≤ j ∧ j ≤ 100000 ∧ Q (.str (repS a j)) H
theorem op_repS {X : Cx} : OpR X (binaryOp .Mult) rRepS := by
  intro pins s σ H x y v u Q I rx ry h
  obtain ⟨a, j, rfl, rfl, h1, h2, h3, h4, q⟩ := h
  obtain ⟨t, rfl⟩ := rx
  obtain ⟨t2, rfl⟩ := ry
  have hz : a.length * j.toNat ≤ sizeLine := by rw [sizeLine_eq]; exact h1
  have n1 : ¬ j < -(2 ^ 63 : Int) := by omega
  have n2 : ¬ j ≥ (2 ^ 63 : Int) := by omega
  refine PySem.P.mul_str (by rw [decide_eq_false n1, decide_eq_false n2]; rfl) (fun g _ z => ?_) (fun _ _ => ?_) ?_
  · have g1 : (92233720368547 : Int) ≤ (2 ^ 63 - 1) / j := by
      rw [Int.le_ediv_iff_mul_le (by omega)]
      omega
    have : (a.length : Int) ≤ 1000 := by omega
    omega
  · unfold Builtin.Str.tooLong
    exact decide_eq_false (by omega)
  · have hl := repS_length a j
    unfold repS at q hl
    by_cases c : j < 1
    · rw [if_pos c] at q ⊢
      exact ⟨Nat.zero_le _, .str _, H, I.tok _, ⟨_, rfl⟩, q⟩
    · rw [if_neg c] at q hl ⊢
      by_cases c2 : (j == 1 || a.length == 0) = true
      · rw [if_pos c2] at q ⊢
        exact ⟨.str a, H, I, ⟨t, rfl⟩, q⟩
      · rw [if_neg c2] at q hl ⊢
        exact ⟨Nat.le_trans hl hz, .str _, H, I.tok _, ⟨_, rfl⟩, q⟩
def rMulU : R2 := fun x y H Q => rI CMul (fun i j => .int (i * j)) x y H Q ∨ rI CMulW (fun i j => .int (i * j)) x y H Q ∨ rRep x y H Q ∨ rRepS x y H Q
theorem op_mulU {X : Cx} : OpR X (binaryOp .Mult) rMulU := op_mul.or (op_mulW.or (op_rep.or op_repS))
theorem RpL.rep {w : Wd} {H : Hp} {xs : List D} {vs : List V} (h : RpL K mg w H xs vs) : ∀ n : Nat, RpL K mg w H (List.replicate n xs).flatten (List.replicate n vs).flatten
  | 0 => RpL.nil
  | n + 1 => by rw [List.replicate_succ, List.replicate_succ, List.flatten_cons, List.flatten_cons]; exact h.append (RpL.rep h n)
theorem mulU_v [Wo] {c : Bool} : OpV K mg rMulU (gMul c) := by
  intro w S H x y d e Q E s r1 r2 h
  cases e <;> simp only [gMul] at h <;> try exact h.elim
  rename_i j
  have lists : End K mg (fun w H => Rp K mg w H) w H (match seqM S d with
      | some xs => if xs.length * j.toNat ≤ sizeLine ∧ -(2 ^ 63) ≤ j ∧ j < 2 ^ 63 then (if c then mkCel (List.replicate j.toNat xs).flatten S else mkLst (List.replicate j.toNat xs).flatten S) else .no
      | none => .no) Q E → rRep x y H Q := fun h => by
    split at h
    · rename_i xs h1
      split at h
      · rename_i hl
        obtain ⟨a, vs, e1, t1, q1⟩ := seqM_at s r1 h1
        refine ⟨a, j, vs, e1, rp_int r2, t1, hl.2.1, hl.2.2, by rw [← q1.length]; exact hl.1, ?_⟩
        cases c
        · exact (mkLst_at s (q1.rep j.toNat) h).2
        · exact (mkCel_at s (q1.rep j.toNat) h).2
      · exact h.elim
    · exact h.elim
  cases d <;> simp only [] at h
  case int i =>
    split at h
    · rename_i hc
      rcases hc with hc | hc
      · exact .inl ⟨i, j, rp_int r1, rp_int r2, hc, h.ret s rp_i⟩
      · exact .inr (.inl ⟨i, j, rp_int r1, rp_int r2, hc, h.ret s rp_i⟩)
    · exact h.elim
  case str a =>
    split at h
    · rename_i hc
      exact .inr (.inr (.inr ⟨a, j, rp_str r1, rp_int r2, hc.1, hc.2.1, hc.2.2.1, hc.2.2.2, h.ret s rp_s⟩))
    · exact h.elim
  all_goals exact .inr (.inr (.inl (lists h)))
theorem mod_v [Wo] : OpV K mg (rI (fun _ j => 0 < j) fun i j => .int (i % j)) gMod := by
  intro w S H x y d e Q E s r1 r2 h
  cases d <;> cases e <;> simp only [gMod] at h <;> try exact h.elim
  split at h
  · rename_i hc; exact ⟨_, _, rp_int r1, rp_int r2, hc, h.ret s rp_i⟩
  · exact h.elim
theorem div_v [Wo] : OpV K mg (rI CDivW fun i j => .int (i / j)) gDiv := by
  intro w S H x y d e Q E s r1 r2 h
  cases d <;> cases e <;> simp only [gDiv] at h <;> try exact h.elim
  split at h
  · rename_i hc; exact ⟨_, _, rp_int r1, rp_int r2, hc, h.ret s rp_i⟩
  · exact h.elim
theorem pow_v [Wo] : OpV K mg (rI CPow fun i j => .int (i ^ j.toNat)) gPow := by
  intro w S H x y d e Q E s r1 r2 h
  cases d <;> cases e <;> simp only [gPow] at h <;> try exact h.elim
  split at h
  · rename_i hc; exact ⟨_, _, rp_int r1, rp_int r2, hc, h.ret s rp_i⟩
  · exact h.elim
end
def gCmp (p : Int → Int → Bool) (x y : D) (S : Store) : RE D := match x, y with
  | .int i, .int j => .ok (.bl (p i j)) S
  | _, _ => .no
def okPy (d e : PyData) : Bool := d.canLay0 && e.canLay0 && decide (min d.depth e.depth ≤ 200)
/-- a row of anything beside an empty one -/
def eqE (S : Store) (x y : D) : Option Bool := match y with
  | .lst [] => (seqL S x).map (·.isEmpty)
  | .tup [] => (match x with
    | .tup ds => some ds.isEmpty
    | _ => none)
  | .tup [.str b] => (match x with
    | .tup (.str a :: r) => some (a == b && r.isEmpty)
    | _ => none)
  | .str b => (match x with
    | .str a => some (a == b)
    | _ => none)
  | _ => none
def gEq (x y : D) (S : Store) : RE D := match eqE S x y with
  | some b => .ok (.bl b) S
  | none => (match pyS S x, pyS S y with
    | some d, some e => if okPy d e then .ok (.bl (PyData.eqv d e)) S else .no
    | _, _ => .no)
def gNe (x y : D) (S : Store) : RE D := match eqE S x y with
  | some b => .ok (.bl (!b)) S
  | none => (match pyS S x, pyS S y with
    | some d, some e => if okPy d e then .ok (.bl (!PyData.eqv d e)) S else .no
    | _, _ => .no)
def rEqS (K : PySem.W.Frag) (neg : Bool) : R2 := fun x y H Q => (∃ za zb : Str, x = .str za ∧ y = .str zb ∧ Q (.bl (if neg then !(za == zb) else za == zb)) H) ∨ ∃ a b xs, ∃ za zb : Str, x = .ref a ∧ y = .ref b ∧ SqT K H a (.str za :: xs) ∧ SqT K H b [.str zb] ∧ Q (.bl (if neg then !(za == zb && xs.isEmpty) else (za == zb && xs.isEmpty))) H
def rEqE (K : PySem.W.Frag) (neg : Bool) : R2 := fun x y H Q => rEqS K neg x y H Q ∨ ∃ a b xs, x = .ref a ∧ y = .ref b ∧ ((SqL K H a xs ∧ SqL K H b []) ∨ (SqT K H a xs ∧ SqT K H b [])) ∧ Q (.bl (if neg then !xs.isEmpty else xs.isEmpty)) H
def rEqP (K : PySem.W.Frag) : R2 := fun x y H Q => ∃ d e, Dp K H x d ∧ Dp K H y e ∧ okPy d e = true ∧ Q (.bl (PyData.eqv d e)) H
def rNeP (K : PySem.W.Frag) : R2 := fun x y H Q => ∃ d e, Dp K H x d ∧ Dp K H y e ∧ okPy d e = true ∧ Q (.bl (!PyData.eqv d e)) H
theorem okPy_iff {d e : PyData} (h : okPy d e = true) : d.canLay0 = true ∧ e.canLay0 = true ∧ min d.depth e.depth ≤ 200 := by
  unfold okPy at h
  simp only [Bool.and_eq_true, decide_eq_true_eq] at h
  exact ⟨h.1.1, h.1.2, h.2⟩
section
variable {X : Cx}
theorem op_eqP (hu : X.A.units + 200 < cLine) : OpR X (compareOp .Eq) (rEqP X.K) := by
  intro pins s σ H x y v u Q I rx ry h
  obtain ⟨d, e, hd, he, hk, q⟩ := h
  obtain ⟨k1, k2, k3⟩ := okPy_iff hk
  obtain ⟨as, r1⟩ := Dp.reads I d x v hd rx
  obtain ⟨bs, r2⟩ := Dp.reads I e y u he ry
  exact SeqAt.compareEq_reads r1 r2 k1 k2 (by omega) ⟨.bl _, H, I, rfl, q⟩
theorem op_neP (hu : X.A.units + 200 < cLine) : OpR X (compareOp .NotEq) (rNeP X.K) := by
  intro pins s σ H x y v u Q I rx ry h
  obtain ⟨d, e, hd, he, hk, q⟩ := h
  obtain ⟨k1, k2, k3⟩ := okPy_iff hk
  obtain ⟨as, r1⟩ := Dp.reads I d x v hd rx
  obtain ⟨bs, r2⟩ := Dp.reads I e y u he ry
  exact SeqAt.compareNe_reads r1 r2 k1 k2 (by omega) ⟨.bl _, H, I, rfl, q⟩
theorem one_beside {pins : List (Addr × Obj)} {σ : L2.St} {H : Hp} {s : Shared} {a b : Addr} {xs : List V} {za zb : Str} (I : Inv X pins σ H s) (h1 : SqT X.K H a (.str za :: xs)) (h2 : SqT X.K H b [.str zb]) :
    ∃ its its2 : List Value, IsTup s.heap a its.toArray ∧ IsTup s.heap b its2.toArray ∧ its.length = xs.length + 1 ∧ its2.length = 1 ∧ ∀ j (k1 : j < its.toArray.size) (k2 : j < its2.toArray.size), SeqAt.EqAt X.A.in1 s its.toArray[j] its2.toArray[j] ((fun _ => za == zb) j) := by
  obtain ⟨its, rv, t1, _⟩ := I.tuple h1
  obtain ⟨its2, rv2, t2, _⟩ := I.tuple h2
  cases rv with
  | cons r1 rt =>
    cases rv2 with
    | cons r2 rt2 =>
      cases rt2
      obtain ⟨u1, rfl⟩ := r1
      obtain ⟨u2, rfl⟩ := r2
      refine ⟨_, _, t1, t2, by simp [rt.length], rfl, fun j k1 k2 => ?_⟩
      have : j = 0 := by simp at k2; omega
      subst this
      exact SeqAt.EqAt.str_str za u1 zb u2
theorem one_val {α : Type} {xs : List α} {its its2 : List Value} {b : Bool} (l1 : its.length = xs.length + 1) (l2 : its2.length = 1) : ((List.range (min its.toArray.size its2.toArray.size)).all (fun _ => b) && its.toArray.size == its2.toArray.size) = (b && xs.isEmpty) := by
  rw [List.size_toArray, List.size_toArray, l1, l2]
  have : min (xs.length + 1) 1 = 1 := by omega
  rw [this]
  cases xs <;> simp [List.range, List.range.loop]
theorem op_eqE (hu : X.A.units + 200 < cLine) : OpR X (compareOp .Eq) (rEqE X.K false) := by
  intro pins s σ H x y v u Q I rx ry h
  rcases h with (⟨za, zb, rfl, rfl, q⟩ | ⟨a, b, xs, za, zb, rfl, rfl, h1, h2, q⟩) | h
  · obtain ⟨t1, rfl⟩ := rx
    obtain ⟨t2, rfl⟩ := ry
    exact PySem.P.eq_str ⟨.bl _, H, I, congrArg Value.bool (SeqAt.str_beq za zb), q⟩
  · cases rx; cases ry
    obtain ⟨its, its2, t1, t2, l1, l2, he⟩ := one_beside I h1 h2
    refine SeqAt.eq_tupleAt (e := fun _ => za == zb) t1 t2 (by omega) he ⟨.bl _, H, I, ?_, q⟩
    rw [one_val (xs := xs) l1 l2]; rfl
  obtain ⟨a, b, xs, rfl, rfl, hab, q⟩ := h
  cases rx; cases ry
  have hu' : X.A.units < cLine := by omega
  rcases hab with ⟨h1, h2⟩ | ⟨h1, h2⟩
  · obtain ⟨its, rv, t1, _⟩ := I.list h1
    obtain ⟨its2, rv2, t2, _⟩ := I.list h2
    have l1 := rv.length
    have l2 := rv2.length
    cases xs with
    | nil => exact SeqAt.eq_listAt (e := fun _ => true) t1.isList t2.isList (by rw [List.size_toArray, List.size_toArray]; omega) hu' (fun j k1 k2 => by rw [List.size_toArray, ← l1] at k1; exact absurd k1 (Nat.not_lt_zero _)) ⟨.bl _, H, I, by rw [List.all_eq_true.mpr (fun _ _ => rfl)]; rfl, q⟩
    | cons z r => exact SeqAt.eq_list_lengthsAt t1.isList t2.isList (by rw [List.size_toArray, List.size_toArray, ← l1, ← l2]; rfl) hu' ⟨.bl _, H, I, rfl, q⟩
  · obtain ⟨its, rv, t1, _⟩ := I.tuple h1
    obtain ⟨its2, rv2, t2, _⟩ := I.tuple h2
    have l1 := rv.length
    have l2 : its2.length = 0 := by have := rv2.length; simpa using this.symm
    refine SeqAt.eq_tupleAt (e := fun _ => true) t1 t2 hu' (fun j k1 k2 => by rw [List.size_toArray, l2] at k2; exact absurd k2 (Nat.not_lt_zero _)) ⟨.bl _, H, I, ?_, q⟩
    rw [List.all_eq_true.mpr (fun _ _ => rfl), List.size_toArray, List.size_toArray, l2, ← l1]
    cases xs <;> rfl
theorem op_neE (hu : X.A.units + 200 < cLine) : OpR X (compareOp .NotEq) (rEqE X.K true) := by
  intro pins s σ H x y v u Q I rx ry h
  rcases h with (⟨za, zb, rfl, rfl, q⟩ | ⟨a, b, xs, za, zb, rfl, rfl, h1, h2, q⟩) | h
  · obtain ⟨t1, rfl⟩ := rx
    obtain ⟨t2, rfl⟩ := ry
    exact PySem.P.ne_str ⟨.bl _, H, I, congrArg (fun b => Value.bool (!b)) (SeqAt.str_beq za zb), q⟩
  · cases rx; cases ry
    obtain ⟨its, its2, t1, t2, l1, l2, he⟩ := one_beside I h1 h2
    refine SeqAt.RcNeAt.tuples (e := fun _ => za == zb) t1 t2 (by omega) he _ _ _ _ ⟨.bl _, H, I, ?_, q⟩
    rw [one_val (xs := xs) l1 l2]; rfl
  obtain ⟨a, b, xs, rfl, rfl, hab, q⟩ := h
  cases rx; cases ry
  have hu' : X.A.units < cLine := by omega
  rcases hab with ⟨h1, h2⟩ | ⟨h1, h2⟩
  · obtain ⟨its, rv, t1, _⟩ := I.list h1
    obtain ⟨its2, rv2, t2, _⟩ := I.list h2
    have l1 := rv.length
    have l2 := rv2.length
    cases xs with
    | nil => exact SeqAt.RcNeAt.lists (e := fun _ => true) t1.isList t2.isList (by rw [List.size_toArray, List.size_toArray]; omega) hu' (fun j k1 k2 => by rw [List.size_toArray, ← l1] at k1; exact absurd k1 (Nat.not_lt_zero _)) _ _ _ _ ⟨.bl _, H, I, by rw [List.all_eq_true.mpr (fun _ _ => rfl)]; rfl, q⟩
    | cons z r => exact SeqAt.RcNeAt.lists_lengths t1.isList t2.isList (by rw [List.size_toArray, List.size_toArray, ← l1, ← l2]; rfl) hu' _ _ _ _ ⟨.bl _, H, I, rfl, q⟩
  · obtain ⟨its, rv, t1, _⟩ := I.tuple h1
    obtain ⟨its2, rv2, t2, _⟩ := I.tuple h2
    have l1 := rv.length
    have l2 : its2.length = 0 := by have := rv2.length; simpa using this.symm
    refine SeqAt.RcNeAt.tuples (e := fun _ => true) t1 t2 hu' (fun j k1 k2 => by rw [List.size_toArray, l2] at k2; exact absurd k2 (Nat.not_lt_zero _)) _ _ _ _ ⟨.bl _, H, I, ?_, q⟩
    rw [List.all_eq_true.mpr (fun _ _ => rfl), List.size_toArray, List.size_toArray, l2, ← l1]
    cases xs <;> rfl
def rEqU (K : PySem.W.Frag) : R2 := fun x y H Q => rEqE K false x y H Q ∨ rEqP K x y H Q
def rNeU (K : PySem.W.Frag) : R2 := fun x y H Q => rEqE K true x y H Q ∨ rNeP K x y H Q
theorem op_eqU (hu : X.A.units + 200 < cLine) : OpR X (compareOp .Eq) (rEqU X.K) := (op_eqE hu).or (op_eqP hu)
theorem op_neU (hu : X.A.units + 200 < cLine) : OpR X (compareOp .NotEq) (rNeU X.K) := (op_neE hu).or (op_neP hu)
/-- x in ys, a list or a tuple of data -/
def rInP (K : PySem.W.Frag) (neg : Bool) : R2 := fun x y H Q => ∃ d ds, Dp K H x d ∧ (Dp K H y (.list ds) ∨ Dp K H y (.tuple ds)) ∧ d.canLay0 = true ∧ PyData.canLayAll0 ds = true ∧ min (PyData.depthAll ds) d.depth ≤ 190 ∧ Q (.bl (if neg then !ds.any fun z => PyData.eqv z d else ds.any fun z => PyData.eqv z d)) H
theorem op_inP (hu : X.A.units + 200 < cLine) : OpR X (compareOp .In) (rInP X.K false) := by
  intro pins s σ H x y v u Q I rx ry h
  obtain ⟨d, ds, hd, he, k1, k2, k3, q⟩ := h
  obtain ⟨as, r1⟩ := Dp.reads I d x v hd rx
  rcases he with he | he
  · obtain ⟨bs, r2⟩ := Dp.reads I (.list ds) y u he ry
    exact SeqAt.in_list_reads r2 r1 k2 k1 (by omega) ⟨.bl _, H, I, rfl, q⟩
  · obtain ⟨bs, r2⟩ := Dp.reads I (.tuple ds) y u he ry
    exact SeqAt.in_tuple_reads r2 r1 k2 k1 (by omega) ⟨.bl _, H, I, rfl, q⟩
end
/-- in, not in: a list, a tuple, a text -/
def gIn (neg : Bool) (x y : D) (S : Store) : RE D := match pyS S y with
  | some (.str b) => (match x with
    | .str a => .ok (.bl (if neg then !(!(Builtin.Str.occurrences b a 0 b.length 1).isEmpty) else !(Builtin.Str.occurrences b a 0 b.length 1).isEmpty)) S
    | _ => .no)
  | some (.list ds) => (match pyS S x with
    | some d => if d.canLay0 && PyData.canLayAll0 ds && decide (min (PyData.depthAll ds) d.depth ≤ 190) then .ok (.bl (if neg then !ds.any fun z => PyData.eqv z d else ds.any fun z => PyData.eqv z d)) S else .no
    | _ => .no)
  | some (.tuple ds) => (match pyS S x with
    | some d => if d.canLay0 && PyData.canLayAll0 ds && decide (min (PyData.depthAll ds) d.depth ≤ 190) then .ok (.bl (if neg then !ds.any fun z => PyData.eqv z d else ds.any fun z => PyData.eqv z d)) S else .no
    | _ => .no)
  | _ => .no
def rInU (K : PySem.W.Frag) (neg : Bool) : R2 := fun x y H Q => (∃ i j, x = .str i ∧ y = .str j ∧ Q (.bl (if neg then !(!(Builtin.Str.occurrences j i 0 j.length 1).isEmpty) else !(Builtin.Str.occurrences j i 0 j.length 1).isEmpty)) H) ∨ rInP K neg x y H Q
section
variable {X : Cx}
theorem op_inU (hu : X.A.units + 200 < cLine) : OpR X (compareOp .In) (rInU X.K false) := op_in_str.or (op_inP hu)
variable {K : PySem.W.Frag} {mg : Str → Option Value}
theorem eqE_at [Wo] {neg : Bool} {w : Wd} {S : Store} {H : Hp} {x y : V} {d e : D} {b : Bool} {Q : VK} (s : Sto K mg w S H) (r1 : Rp K mg w H d x) (r2 : Rp K mg w H e y) (h : eqE S d e = some b) (q : Q (.bl (if neg then !b else b)) H) : rEqE K neg x y H Q := by
  unfold eqE at h
  split at h
  · obtain ⟨ds, h1, h2⟩ := Option.map_eq_some_iff.mp h
    obtain ⟨a, vs, e1, t1, q1⟩ := seqL_at s r1 h1
    obtain ⟨a2, vs2, e2, t2, q2⟩ := seqL_at s r2 (show seqL S (.lst []) = some [] from rfl)
    unfold RpL at q2
    subst q2
    have : vs.isEmpty = ds.isEmpty := by have := q1.length; cases vs <;> cases ds <;> simp_all
    exact .inr ⟨a, a2, vs, e1, e2, .inl ⟨t1, t2⟩, by rw [this, h2]; exact q⟩
  · split at h
    · rename_i ds
      cases h
      obtain ⟨a, vs, e1, t1, q1⟩ := tup_at r1
      obtain ⟨a2, vs2, e2, t2, q2⟩ := tup_at r2
      unfold RpL at q2
      subst q2
      have : vs.isEmpty = ds.isEmpty := by have := q1.length; cases vs <;> cases ds <;> simp_all
      exact .inr ⟨a, a2, vs, e1, e2, .inr ⟨t1, t2⟩, by rw [this]; exact q⟩
    · cases h
  · split at h
    · rename_i zb _ za ds
      cases h
      obtain ⟨a, vs, e1, t1, q1⟩ := tup_at r1
      obtain ⟨a2, vs2, e2, t2, q2⟩ := tup_at r2
      obtain ⟨v2, rfl, q3⟩ := q2.one_inv
      unfold RpL at q1
      obtain ⟨v1, vt, rfl, q4, q5⟩ := q1
      rw [rp_str q3] at t2
      rw [rp_str q4] at t1
      have : vt.isEmpty = ds.isEmpty := by have := q5.length; cases vt <;> cases ds <;> simp_all
      exact .inl (.inr ⟨a, a2, vt, za, zb, e1, e2, t1, t2, by rw [this]; exact q⟩)
    · cases h
  · split at h
    · cases h
      exact .inl (.inl ⟨_, _, rp_str r1, rp_str r2, q⟩)
    · cases h
  · cases h
theorem eqP_v [Wo] : OpV K mg (rEqU K) gEq := by
  intro w S H x y d e Q E s r1 r2 h
  unfold gEq at h
  split at h
  · rename_i b hb; exact .inl (eqE_at (neg := false) s r1 r2 hb (h.ret s rp_b))
  · split at h
    · rename_i p q h1 h2
      split at h
      · rename_i hk; exact .inr ⟨p, q, pyS_at s d x p r1 h1, pyS_at s e y q r2 h2, hk, h.ret s rp_b⟩
      · exact h.elim
    · exact h.elim
theorem neP_v [Wo] : OpV K mg (rNeU K) gNe := by
  intro w S H x y d e Q E s r1 r2 h
  unfold gNe at h
  split at h
  · rename_i b hb; exact .inl (eqE_at (neg := true) s r1 r2 hb (h.ret s rp_b))
  · split at h
    · rename_i p q h1 h2
      split at h
      · rename_i hk; exact .inr ⟨p, q, pyS_at s d x p r1 h1, pyS_at s e y q r2 h2, hk, h.ret s rp_b⟩
      · exact h.elim
    · exact h.elim
theorem inU_v [Wo] {neg : Bool} : OpV K mg (rInU K neg) (gIn neg) := by
  intro w S H x y d e Q E s r1 r2 h
  unfold gIn at h
  split at h
  · rename_i b h1
    split at h
    · rename_i a
      have ye := pyS_at s e y _ r2 h1
      cases ye
      exact .inl ⟨_, _, rp_str r1, rfl, h.ret s rp_b⟩
    · exact h.elim
  · rename_i ds h1
    split at h
    · rename_i p h2
      split at h
      · rename_i hk
        simp only [Bool.and_eq_true, decide_eq_true_eq] at hk
        exact .inr ⟨p, ds, pyS_at s d x p r1 h2, .inl (pyS_at s e y _ r2 h1), hk.1.1, hk.1.2, hk.2, h.ret s rp_b⟩
      · exact h.elim
    · exact h.elim
  · rename_i ds h1
    split at h
    · rename_i p h2
      split at h
      · rename_i hk
        simp only [Bool.and_eq_true, decide_eq_true_eq] at hk
        exact .inr ⟨p, ds, pyS_at s d x p r1 h2, .inr (pyS_at s e y _ r2 h1), hk.1.1, hk.1.2, hk.2, h.ret s rp_b⟩
      · exact h.elim
    · exact h.elim
  · exact h.elim
theorem cmp_v [Wo] (p : Int → Int → Bool) : OpV K mg (rI0 fun i j => .bl (p i j)) (gCmp p) := by
  intro w S H x y d e Q E s r1 r2 h
  cases d <;> cases e <;> simp only [gCmp] at h <;> try exact h.elim
  exact ⟨_, _, rp_int r1, rp_int r2, h.ret s rp_b⟩
end
/-- whether it is None -/
def isNon (S : Store) : D → Option Bool
  | .non => some true
  | .loc n => (cellOf S n).map fun _ => false
  | _ => some false
/-- is None, is True -/
def gIs (neg : Bool) (x y : D) (S : Store) : RE D := match y with
  | .non => (match isNon S x with
    | some k => .ok (.bl (xor neg k)) S
    | none => .no)
  | .bl b => (match x with
    | .bl a => .ok (.bl (xor neg (decide (a = b)))) S
    | _ => .no)
  | _ => .no
def rIsU (neg : Bool) : R2 := fun x y H Q => (y = .non ∧ Q (.bl (xor neg (decide (x = .non)))) H) ∨ (∃ a b : Bool, x = .bl a ∧ y = .bl b ∧ Q (.bl (xor neg (decide (a = b)))) H)
section
variable {X : Cx}
theorem op_isU : OpR X (compareOp .Is) (rIsU false) := by
  have h := (op_isN (X := X)).or (op_isBl (X := X))
  intro pins s σ H x y v u Q I rx ry q
  refine h pins s σ H x y v u Q I rx ry ?_
  rcases q with ⟨a, b⟩ | ⟨a, b, c, d, e⟩
  · exact .inl ⟨a, by simpa using b⟩
  · exact .inr ⟨a, b, c, d, by simpa using e⟩
variable {K : PySem.W.Frag} {mg : Str → Option Value}
theorem isNon_at [Wo] {w : Wd} {S : Store} {H : Hp} {x : V} {d : D} {k : Bool} (s : Sto K mg w S H) (r1 : Rp K mg w H d x) (h : isNon S d = some k) : decide (x = V.non) = k := by
  cases d with
  | loc n =>
    simp only [isNon, Option.map_eq_some_iff] at h
    obtain ⟨ds, h1, h2⟩ := h
    obtain ⟨a, xs, e, t, q⟩ := seqL_at (S := S) (d := .loc n) s r1 h1
    rw [e, ← h2]; rfl
  | non => simp only [isNon] at h; cases h; rw [rp_non r1]; rfl
  | bl b => simp only [isNon] at h; cases h; rw [rp_bl r1]; rfl
  | int b => simp only [isNon] at h; cases h; rw [rp_int r1]; rfl
  | str b => simp only [isNon] at h; cases h; rw [rp_str r1]; rfl
  | tup ds => simp only [isNon] at h; cases h; unfold Rp at r1; obtain ⟨a, xs, e, _⟩ := r1; rw [e]; rfl
  | lst ds => simp only [isNon] at h; cases h; unfold Rp at r1; obtain ⟨a, xs, e, _⟩ := r1; rw [e]; rfl
  | dic ks ds => simp only [isNon] at h; cases h; unfold Rp at r1; obtain ⟨a, vs, e, _⟩ := r1; rw [e]; rfl
  | ins c fs ds => simp only [isNon] at h; cases h; unfold Rp at r1; obtain ⟨a, C, dx, vs, e, _⟩ := r1; rw [e]; rfl
  | glo n => simp only [isNon] at h; cases h; unfold Rp at r1; obtain ⟨a, e, _⟩ := r1; rw [e]; rfl
  | exn n => simp only [isNon] at h; cases h; unfold Rp at r1; rw [r1]; rfl
  | fls ds => simp only [isNon] at h; cases h; unfold Rp at r1; obtain ⟨a, xs, e, _⟩ := r1; rw [e]; rfl
  | exo c ns ds => simp only [isNon] at h; cases h; unfold Rp at r1; obtain ⟨a, C, od, vs, e, _⟩ := r1; rw [e]; rfl
  | lam i q ob => simp only [isNon] at h; cases h; unfold Rp at r1; obtain ⟨f, c', pm, ctv, e, _⟩ := r1; rw [e]; rfl
theorem isU_v [Wo] {neg : Bool} : OpV K mg (rIsU neg) (gIs neg) := by
  intro w S H x y d e Q E s r1 r2 h
  cases e <;> simp only [gIs] at h <;> try exact h.elim
  · split at h
    · rename_i k hk
      refine .inl ⟨rp_non r2, ?_⟩
      rw [isNon_at s r1 hk]
      exact h.ret s rp_b
    · exact h.elim
  · cases d <;> simp only [] at h <;> try exact h.elim
    exact .inr ⟨_, _, rp_bl r1, rp_bl r2, h.ret s rp_b⟩
end
end Kw
namespace Kw
open PySem PySem.Spec PyProof.Rows L2
section
variable {K : PySem.W.Frag} {mg : Str → Option Value} {w : Wd} {H : Hp} {S : Store}
theorem RpL.atI {ds : List D} {xs : List V} {i : Int} {d : D} (r : RpL K mg w H ds xs) (h : L2.atI ds i = some d) : ∃ v, L2.atI xs i = some v ∧ Rp K mg w H d v := by
  unfold L2.atI at h ⊢
  rw [← r.length]
  cases e : ixN ds.length i with
  | none => rw [e] at h; cases h
  | some j =>
    rw [e] at h
    exact r.get h
end
def gIx (x y : D) (S : Store) : RE D := match y with
  | .int i => (match x with
    | .str z => if z.length ≤ sizeLine then (match L2.atI z.cps.toList i with
      | some c => .ok (.str ⟨#[c]⟩) S
      | none => .no) else .no
    | x => (match seqA S x with
      | some ds => (match L2.atI ds i with
        | some d => .ok d S
        | none => .no)
      | none => .no))
  | _ => .no
section
variable {K : PySem.W.Frag} {mg : Str → Option Value}
theorem ix_v [Wo] : OpV K mg (rIx K) gIx := by
  intro w S H x y d e Q E s r1 r2 h
  cases e <;> simp only [gIx] at h <;> try exact h.elim
  rename_i i
  have seqs : End K mg (fun w H => Rp K mg w H) w H (match seqA S d with
      | some ds => (match L2.atI ds i with
        | some d => .ok d S
        | none => .no)
      | none => .no) Q E → rIx K x y H Q := fun h => by
    split at h
    · rename_i ds h1
      split at h
      · rename_i d' h2
        obtain ⟨a, xs, e1, t1, q1⟩ := seqA_at s r1 h1
        obtain ⟨v, h3, h4⟩ := q1.atI h2
        rcases t1 with t1 | t1
        · exact .inl ⟨a, xs, i, v, e1, rp_int r2, t1, h3, h.ret s h4⟩
        · exact .inr (.inl ⟨a, xs, i, v, e1, rp_int r2, t1, h3, h.ret s h4⟩)
      · exact h.elim
    · exact h.elim
  cases d <;> simp only [] at h
  case str z =>
    split at h
    · rename_i hl
      split at h
      · rename_i c hc
        exact .inr (.inr ⟨z, i, c, rp_str r1, rp_int r2, hl, hc, h.ret s rp_s⟩)
      · exact h.elim
    · exact h.elim
  all_goals exact seqs h
end
section
variable {X : Cx} {W : WX} {a b e : Expr} {es : List Expr} {fa fb : FE} {fs : FA} {pos : Pos}
theorem q_ix [Wo] (ha : PE X a (tF X W fa)) (hb : PE X b (tF X W fb)) (hs : PlainIx b := by intro _ _; rfl) : PE X (.Subscript a b pos) (tF X W (f2 gIx fa fb)) := PE.wk (pe_ix ix_seq ha hb hs) fun σ H Q h => two ix_v h
end
abbrev FO := FEnv → Store → RE (Option Int)
def tO [Wo] (X : Cx) (W : WX) (f : FO) : TO := fun σ H Q => ∃ w ρ S, Sto X.K X.mg w S H ∧ EnvR X.K X.mg w H ρ σ ∧ End X.K X.mg (fun _ _ (a b : Option Int) => b = a) w H (f ρ S) Q (fun c od H' => W c od σ H')
def fNone : FO := fun _ S => .ok none S
def fSome (f : FE) : FO := fun ρ S => (f ρ S).bnd fun x S1 => match x with
  | .int i => .ok (some i) S1
  | _ => .no
def cutL {α : Type} (xs : List α) (lo hi : Option Int) : List α := (xs.drop (HT.sIx xs.length 0 lo)).take (HT.sIx xs.length xs.length hi - HT.sIx xs.length 0 lo)
/-- c: the slice of a list is a cell -/
def gSl (c : Bool) (x : D) (lo hi : Option Int) (S : Store) : RE D := match x with
  | .str z => if z.length ≤ sizeLine then .ok (.str (cutS z lo hi)) S else .no
  | .tup ds => .ok (.tup (cutL ds lo hi)) S
  | x => (match seqL S x with
    | some ds => if c then .ok (.loc S.length) (S ++ [.lst (cutL ds lo hi)]) else .ok (.lst (cutL ds lo hi)) S
    | none => .no)
def fSl (g : D → Option Int → Option Int → Store → RE D) (a : FE) (l u : FO) : FE := fun ρ S => (a ρ S).bnd fun x S1 => (l ρ S1).bnd fun lo S2 => (u ρ S2).bnd fun hi S3 => g x lo hi S3
def rSlU (K : PySem.W.Frag) : V → Option Int → Option Int → Hp → VK → Prop := fun x lo hi H Q => rSlL K x lo hi H Q ∨ rSlA K x lo hi H Q ∨ rSlS x lo hi H Q
theorem sl_U {X : Cx} : SlR X (rSlU X.K) := sl_list.or (sl_tupA.or sl_str)
section
variable {K : PySem.W.Frag} {mg : Str → Option Value} {w : Wd} {H : Hp} {S : Store} {Q : VK} {E : Value → Option Addr → Hp → Prop}
theorem RpL.cut {ds : List D} {xs : List V} (r : RpL K mg w H ds xs) (lo hi : Option Int) : RpL K mg w H (cutL ds lo hi) (cutV xs lo hi) := by
  unfold cutL cutV
  rw [← r.length]
  exact (r.drop _).take _
theorem newLst [Wo] {ds : List D} {xs : List V} {p : Addr} (s : Sto K mg w S H) (r : RpL K mg w H ds xs) (np : H p = none) (h : End K mg (fun w H => Rp K mg w H) w H (.ok (.lst ds) S) Q E) : Q (.ref p) (upd H p (.lst xs)) := by
  refine h w _ _ (Ext.new np) (s.beside np) ?_
  show Rp _ _ _ _ _ _
  unfold Rp
  exact ⟨p, xs, rfl, upd_same, s.new np, RpL.ext (Ext.new np) _ _ r⟩
theorem newTup [Wo] {ds : List D} {xs : List V} {p : Addr} (s : Sto K mg w S H) (r : RpL K mg w H ds xs) (np : H p = none) (h : End K mg (fun w H => Rp K mg w H) w H (.ok (.tup ds) S) Q E) : Q (.ref p) (upd H p (.tup xs)) := by
  refine h w _ _ (Ext.new np) (s.beside np) ?_
  show Rp _ _ _ _ _ _
  unfold Rp
  exact ⟨p, xs, rfl, .inl ⟨upd_same, s.new np⟩, RpL.ext (Ext.new np) _ _ r⟩
theorem newCel [Wo] {ds : List D} {xs : List V} {p : Addr} (s : Sto K mg w S H) (r : RpL K mg w H ds xs) (np : H p = none) (h : End K mg (fun w H => Rp K mg w H) w H (.ok (.loc S.length) (S ++ [.lst ds])) Q E) : Q (.ref p) (upd H p (.lst xs)) := by
  refine h _ _ _ (Ext.cell np) (s.cellNew np r) ?_
  show Rp _ _ _ _ _ _
  unfold Rp
  refine ⟨by show S.length < (w.φ ++ [some p]).length; rw [List.length_append, s.len]; exact Nat.lt_succ_self _, fun a ha => ?_⟩
  have ha' : (w.φ ++ [some p])[S.length]? = some (some a) := ha
  rw [← s.len, List.getElem?_append_right (Nat.le_refl _), Nat.sub_self] at ha'
  simp at ha'; rw [ha']
theorem slU_v [Wo] {c : Bool} {x : V} {d : D} {lo hi : Option Int} (s : Sto K mg w S H) (r1 : Rp K mg w H d x) (h : End K mg (fun w H => Rp K mg w H) w H (gSl c d lo hi S) Q E) : rSlU K x lo hi H Q := by
  have lists : End K mg (fun w H => Rp K mg w H) w H (match seqL S d with
      | some ds => if c then .ok (.loc S.length) (S ++ [.lst (cutL ds lo hi)]) else .ok (.lst (cutL ds lo hi)) S
      | none => .no) Q E → rSlL K x lo hi H Q := fun h => by
    split at h
    · rename_i ds h1
      obtain ⟨a, xs, e1, t1, q1⟩ := seqL_at s r1 h1
      refine ⟨a, xs, e1, t1, fun p np => ?_⟩
      cases c
      · exact newLst s (q1.cut lo hi) np h
      · exact newCel s (q1.cut lo hi) np h
    · exact h.elim
  cases d <;> simp only [gSl] at h
  case str z =>
    split at h
    · rename_i hl; exact .inr (.inr ⟨z, rp_str r1, hl, h.ret s rp_s⟩)
    · exact h.elim
  case tup ds =>
    have r1' := r1
    unfold Rp at r1'
    obtain ⟨a, xs, e1, t1, q1⟩ := r1'
    refine .inr (.inl ⟨a, xs, e1, t1.sq, fun ⟨z1, z2⟩ => ?_, fun _ p np => newTup s (q1.cut lo hi) np h⟩)
    have e2 : cutL ds lo hi = ds := by
      unfold cutL
      rw [q1.length, z1, z2, List.drop_zero, ← q1.length]
      exact List.take_of_length_le (by omega)
    rw [e2] at h
    exact h.ret s (by rw [← e1]; exact r1)
  all_goals exact .inl (lists h)
end
section
variable {X : Cx} {W : WX} {a b e : Expr} {es : List Expr} {fa fb : FE} {fs : FA} {pos : Pos}
theorem q_none [Wo] : PO X none (tO X W fNone) := ⟨fun pins s σ H Q I ⟨w, ρ, S, st, en, h⟩ => po_none.run pins s σ H Q I (h.ret st rfl)⟩
theorem q_some [Wo] (h : PE X e (tF X W fa)) : PO X (some e) (tO X W (fSome fa)) := ⟨fun pins s σ H Q I ⟨w, ρ, S, st, en, hh⟩ => (po_some h).run pins s σ H Q I (by
  refine ⟨w, ρ, S, st, en, (End.bind (R := fun w H => Rp X.K X.mg w H) hh).imp ?_ (fun _ _ _ z => z)⟩
  rintro x H1 ⟨w1, S1, d, e1, s1, r1, h1⟩
  cases d <;> try exact h1.elim
  exact ⟨_, rp_int r1, h1.ret s1 rfl⟩)⟩
theorem q_slice [Wo] {c : Bool} {lo hi : Option Expr} {fl fu : FO} {p2 : Pos} (he : PE X e (tF X W fa)) (hl : PO X lo (tO X W fl)) (hu : PO X hi (tO X W fu)) : PE X (.Subscript e (.Slice lo hi none p2) pos) (tF X W (fSl (gSl c) fa fl fu)) :=
  PE.wk (pe_slice sl_U he hl hu) fun σ H Q ⟨w, ρ, S, s, en, h⟩ => by
    refine ⟨w, ρ, S, s, en, (End.bind h).imp ?_ (fun _ _ _ z => z)⟩
    rintro x H1 ⟨w1, S1, d, e1, s1, r1, h1⟩
    refine ⟨w1, ρ, S1, s1, en.ext e1, (End.bind h1).imp ?_ (fun _ _ _ z => z)⟩
    rintro l H2 ⟨w2, S2, l', e2, s2, r2, h2⟩
    cases r2
    refine ⟨w2, ρ, S2, s2, (en.ext e1).ext e2, (End.bind h2).imp ?_ (fun _ _ _ z => z)⟩
    rintro u H3 ⟨w3, S3, u', e3, s3, r3, h3⟩
    cases r3
    exact slU_v s3 (Rp.ext e3 _ _ (Rp.ext e2 _ _ r1)) h3
end
def gLen : List D → Store → RE D := fun ds S => match ds with
  | [.str z] => if z.length ≤ sizeLine then .ok (.int z.length) S else .no
  | [d] => (match seqA S d with
    | some xs => .ok (.int xs.length) S
    | none => .no)
  | _ => .no
def gInt : List D → Store → RE D := fun ds S => match ds with
  | [.int i] => .ok (.int i) S
  | [.bl k] => .ok (.int (if k then 1 else 0)) S
  | _ => .no
def gList (c : Bool) : List D → Store → RE D := fun ds S => match ds with
  | [d] => (match seqA S d with
    | some xs => if c then .ok (.loc S.length) (S ++ [.lst xs]) else .ok (.lst xs) S
    | none => .no)
  | _ => .no
def gTuple : List D → Store → RE D := fun ds S => match ds with
  | [d] => (match seqA S d with
    | some xs => .ok (.tup xs) S
    | none => .no)
  | _ => .no
def blsOf : List D → Option (List Bool)
  | [] => some []
  | .bl b :: r => (blsOf r).map (b :: ·)
  | _ => none
def gAll : List D → Store → RE D := fun ds S => match ds with
  | [d] => (match (seqL S d).bind blsOf with
    | some bs => .ok (.bl (bs.all id)) S
    | none => .no)
  | _ => .no
def gMin : List D → Store → RE D := fun ds S => match ds with
  | [.int i, .int j] => .ok (.int (if j < i then j else i)) S
  | _ => .no
section
variable {K : PySem.W.Frag} {mg : Str → Option Value}
theorem len_v [Wo] : CallV K mg (fun xs H Q => ∃ x n, xs = [x] ∧ LenV K x H n ∧ Q (.int n) H) gLen := by
  intro w S H xs ds Q E s r h
  unfold gLen at h
  split at h
  · rename_i z
    split at h
    · rename_i hl
      obtain ⟨v, rfl, r1⟩ := r.one_inv
      exact ⟨v, z.length, rfl, by rw [rp_str r1]; exact ⟨hl, rfl⟩, h.ret s rp_i⟩
    · exact h.elim
  · rename_i d _
    split at h
    · rename_i ys h1
      obtain ⟨v, rfl, r1⟩ := r.one_inv
      obtain ⟨a, vs, e1, t1, q1⟩ := seqA_at s r1 h1
      refine ⟨v, ys.length, rfl, ?_, h.ret s rp_i⟩
      rw [e1, q1.length]
      rcases t1 with t1 | t1
      · exact .inl ⟨vs, t1, rfl⟩
      · exact .inr ⟨vs, t1, rfl⟩
    · exact h.elim
  · exact h.elim
theorem int_v [Wo] : CallV K mg (fun xs H Q => (∃ i, xs = [.int i] ∧ Q (.int i) H) ∨ ∃ k, xs = [.bl k] ∧ Q (.int (if k then 1 else 0)) H) gInt := by
  intro w S H xs ds Q E s r h
  unfold gInt at h
  split at h
  · obtain ⟨v, rfl, r1⟩ := r.one_inv
    exact .inl ⟨_, by rw [rp_int r1], h.ret s rp_i⟩
  · obtain ⟨v, rfl, r1⟩ := r.one_inv
    exact .inr ⟨_, by rw [rp_bl r1], h.ret s rp_i⟩
  · exact h.elim
theorem list_v [Wo] {c : Bool} : CallV K mg (fun xs H Q => ∃ p ys, xs = [.ref p] ∧ (SqL K H p ys ∨ SqT K H p ys) ∧ ∀ l, H l = none → Q (.ref l) (upd H l (.lst ys))) (gList c) := by
  intro w S H xs ds Q E s r h
  unfold gList at h
  split at h
  · split at h
    · rename_i ys h1
      obtain ⟨v, rfl, r1⟩ := r.one_inv
      obtain ⟨a, vs, e1, t1, q1⟩ := seqA_at s r1 h1
      refine ⟨a, vs, by rw [e1], t1, fun p np => ?_⟩
      cases c
      · exact newLst s q1 np h
      · exact newCel s q1 np h
    · exact h.elim
  · exact h.elim
theorem tuple_v [Wo] : CallV K mg (fun xs H Q => ∃ p ys, xs = [.ref p] ∧ ((SqL K H p ys ∧ ∀ l, H l = none → Q (.ref l) (upd H l (.tup ys))) ∨ (SqT K H p ys ∧ Q (.ref p) H))) gTuple := by
  intro w S H xs ds Q E s r h
  unfold gTuple at h
  split at h
  · rename_i d
    split at h
    · rename_i ys h1
      obtain ⟨v, rfl, r1⟩ := r.one_inv
      cases d <;> simp only [seqA] at h1 <;> try (cases h1; done)
      · cases h1
        obtain ⟨a, vs, e1, t1, q1⟩ := tup_at r1
        exact ⟨a, vs, by rw [e1], .inr ⟨t1, h.ret s (by rw [← e1]; exact r1)⟩⟩
      · cases h1
        obtain ⟨a, vs, e1, t1, q1⟩ := seqL_at (S := S) s r1 rfl
        exact ⟨a, vs, by rw [e1], .inl ⟨t1, fun p np => newTup s q1 np h⟩⟩
      · rename_i n
        obtain ⟨a, vs, e1, t1, q1⟩ := seqL_at (S := S) (d := .loc n) s r1 h1
        exact ⟨a, vs, by rw [e1], .inl ⟨t1, fun p np => newTup s q1 np h⟩⟩
      · rename_i ds'
        cases h1
        obtain ⟨a, vs, e1, t1, q1⟩ := seqL_at (S := S) (d := .fls ys) s r1 rfl
        exact ⟨a, vs, by rw [e1], .inl ⟨t1, fun p np => newTup s q1 np h⟩⟩
    · exact h.elim
  · exact h.elim
theorem blsOf_at {w : Wd} {H : Hp} : ∀ {ds : List D} {vs : List V} {bs : List Bool}, RpL K mg w H ds vs → blsOf ds = some bs → vs = bs.map V.bl
  | [], vs, bs, r, h => by unfold RpL at r; simp only [blsOf] at h; cases h; rw [r]; rfl
  | d :: ds, vs, bs, r, h => by
    unfold RpL at r
    obtain ⟨v, vs', e, r1, r2⟩ := r
    cases d <;> simp only [blsOf] at h <;> try (cases h; done)
    simp only [Option.map_eq_some_iff] at h
    obtain ⟨b', h1, h2⟩ := h
    rw [e, ← h2, rp_bl r1, blsOf_at r2 h1]; rfl
theorem all_v [Wo] : CallV K mg (rAll K) gAll := by
  intro w S H xs ds Q E s r h
  unfold gAll at h
  split at h
  · split at h
    · rename_i bs h1
      obtain ⟨v, rfl, r1⟩ := r.one_inv
      simp only [Option.bind_eq_some_iff] at h1
      obtain ⟨ys, h2, h3⟩ := h1
      obtain ⟨a, vs, e1, t1, q1⟩ := seqL_at s r1 h2
      exact ⟨a, bs, by rw [e1], by rw [← blsOf_at q1 h3]; exact t1, h.ret s rp_b⟩
    · exact h.elim
  · exact h.elim
theorem RpL.two_inv {w : Wd} {H : Hp} {d e : D} {vs : List V} (h : RpL K mg w H [d, e] vs) : ∃ v u, vs = [v, u] ∧ Rp K mg w H d v ∧ Rp K mg w H e u := by
  unfold RpL at h
  obtain ⟨v, r, e1, h1, h2⟩ := h
  obtain ⟨u, rfl, h3⟩ := h2.one_inv
  exact ⟨v, u, e1, h1, h3⟩
theorem min_v [Wo] : CallV K mg (fun xs H Q => ∃ i j, xs = [.int i, .int j] ∧ Q (.int (if j < i then j else i)) H) gMin := by
  intro w S H xs ds Q E s r h
  unfold gMin at h
  split at h
  · obtain ⟨v, u, rfl, r1, r2⟩ := r.two_inv
    exact ⟨_, _, by rw [rp_int r1, rp_int r2], h.ret s rp_i⟩
  · exact h.elim
end
def tyD (S : Store) : D → Option String
  | .non => some "NoneType"
  | .bl _ => some "bool"
  | .int _ => some "int"
  | .str _ => some "str"
  | .tup _ => some "tuple"
  | .lst _ => some "list"
  | .fls _ => some "list"
  | .dic _ _ => some "dict"
  | .loc n => (cellOf S n).map fun _ => "list"
  | _ => none
def isiB (t T : String) : Bool := t == T || (t == "bool" && T == "int")
def fIsi (T : String) (f : FE) : FE := fun ρ S => (f ρ S).bnd fun x S1 => match tyD S1 x with
  | some t => .ok (.bl (isiB t T)) S1
  | none => .no
theorem tyX_of [Wo] {K : PySem.W.Frag} {mg : Str → Option Value} {w : Wd} {H : Hp} {S : Store} {d : D} {v : V} {t : String} (s : Sto K mg w S H) (r : Rp K mg w H d v) (h : tyD S d = some t) : TyX K H v (.type t) := by
  cases d with
  | non => simp only [tyD] at h; cases h; rw [rp_non r]; exact .base .non
  | bl b => simp only [tyD] at h; cases h; rw [rp_bl r]; exact .base (.bl b)
  | int b => simp only [tyD] at h; cases h; rw [rp_int r]; exact .base (.int b)
  | str b => simp only [tyD] at h; cases h; rw [rp_str r]; exact .base (.str b)
  | tup ds =>
    simp only [tyD] at h; cases h
    unfold Rp at r
    obtain ⟨a, xs, e, t, _⟩ := r
    rw [e]
    rcases t with t | ⟨o, its, n, h1, h2, _⟩
    · exact .base (.tup t.1)
    · exact .kTuple h1 h2
  | lst ds =>
    simp only [tyD] at h; cases h
    unfold Rp at r
    obtain ⟨a, xs, e, t, _⟩ := r
    rw [e]; exact .base (.lst t)
  | dic ks ds =>
    simp only [tyD] at h; cases h
    unfold Rp at r
    obtain ⟨a, xs, e, t, _⟩ := r
    rw [e]; exact .base (.dK t)
  | loc n =>
    simp only [tyD, Option.map_eq_some_iff] at h
    obtain ⟨ds, h1, h2⟩ := h
    obtain ⟨a, xs, h3, h4, h5⟩ := cellOf_at s h1
    unfold Rp at r
    rw [r.2 a h3, ← h2]
    rcases h4 with h4 | ⟨o, h4⟩
    · exact .base (.lst h4)
    · exact .base (.frz h4)
  | fls ds =>
    simp only [tyD] at h; cases h
    unfold Rp at r
    obtain ⟨a, xs, e, t, _⟩ := r
    rw [e]
    rcases t with ⟨o, t, _⟩ | ⟨o, its, n, h1, h2, _⟩
    · exact .base (.frz t)
    · exact .kList h1 h2
  | ins _ _ _ => simp [tyD] at h
  | glo _ => simp [tyD] at h
  | exn _ => simp [tyD] at h
  | exo _ _ _ => simp [tyD] at h
  | lam _ _ _ => simp [tyD] at h
theorem kitB_ok {t T : String} (ht : t ∈ ["NoneType", "bool", "int", "str", "tuple", "list", "dict"]) (hT : T ∈ ["bool", "int", "str", "tuple", "list", "dict"]) : kitB t T = some (isiB t T) := by
  have key : ∀ t ∈ ["NoneType", "bool", "int", "str", "tuple", "list", "dict"], ∀ T ∈ ["bool", "int", "str", "tuple", "list", "dict"], kitB t T = some (isiB t T) := by decide +kernel
  exact key t ht T hT
theorem tyD_mem {S : Store} {d : D} {t : String} (h : tyD S d = some t) : t ∈ ["NoneType", "bool", "int", "str", "tuple", "list", "dict"] := by
  cases d <;> simp only [tyD, Option.map_eq_some_iff] at h <;> first | (cases h; decide) | (obtain ⟨_, _, rfl⟩ := h; decide) | (cases h)
section
variable {X : Cx} {W : WX} {a b e : Expr} {es : List Expr} {fa fb : FE} {fs : FA} {pos : Pos}
theorem q_isi [Wo] {T : String} {x : Str} {p q : Pos} (hg : Gl X "isinstance") (hm : X.mg "isinstance" = none) (hgT : Gl X x) (hmT : X.mg x = none) (hvT : bootBuiltins x = some (.type T)) (hT : T ∈ ["bool", "int", "str", "tuple", "list", "dict"]) (ha : PE X a (tF X W fa))
    (hn : x ≠ "__name__" := by decide) (hd : (x == ("__debug__" : Str)) = false := by decide)
    (h1 : starEach [a, .Name x q] X.env = (false, eval a X.env) :: starEach [.Name x q] X.env := by rfl) (h2 : starEach [.Name x q] X.env = (false, eval (.Name x q) X.env) :: starEach [] X.env := by rfl) (hpl : (backTo pos (starEach [.Name x q] X.env)).any (·.1) = false := by rfl) :
    PE X (.Call (.Name "isinstance" p) [a, .Name x q] [] pos) (tF X W (fIsi T fa)) := by
  have hx : PE X (.Name x q) (tC (.ty T)) := pe_bltn hgT hmT hvT rfl hn hd
  refine PE.wk (pe_callB call_isi hg hm (by decide +kernel) (pa_cons ha (pa_cons hx pa_nil h2) h1) (by decide) (by decide) h1 hpl) fun σ H Q ⟨w, ρ, S, s, en, h⟩ => ?_
  refine ⟨w, ρ, S, s, en, (End.bind (R := fun w H => Rp X.K X.mg w H) h).imp ?_ (fun _ _ _ z => z)⟩
  rintro v H1 ⟨w1, S1, d, e1, s1, r1, h3⟩
  split at h3
  · rename_i t ht
    exact ⟨v, .ty T, .type t, .type T, isiB t T, rfl, .ty T, tyX_of s1 r1 ht, kit_ty (kitB_ok (tyD_mem ht) hT), h3.ret s1 rp_b⟩
  · exact h3.elim
end
section
variable {K : PySem.W.Frag} {mg : Str → Option Value} {w : Wd} {H : Hp} {S : Store}
theorem Ext.write {n : Nat} {l : Addr} {o : HO} (hw : w.φ[n]? = some (some l)) : Ext w H w (upd H l o) := ⟨fun a u e n => by
  have : a ≠ l := fun z => by subst z; exact n (List.mem_of_getElem? hw)
  rw [upd_ne this]; exact e, Nat.le_refl _, fun _ _ h _ => h, fun _ h => .inl h, rfl⟩
theorem Sto.write [Wo] {n : Nat} {l : Addr} {ds : List D} {xs : List V} (s : Sto K mg w S H) (hw : w.φ[n]? = some (some l)) (hn : n < S.length) (r : RpL K mg w H ds xs) : Sto K mg w (S.set n (.lst ds)) (upd H l (.lst xs)) := by
  have ex : Ext w H w (upd H l (.lst xs)) := Ext.write hw
  refine ⟨by rw [List.length_set]; exact s.len, s.nd, fun a ha => ⟨upd_some (s.ap a ha).1, (s.ap a ha).2⟩, fun m c hc => ?_⟩
  by_cases e : m = n
  · subst e
    rw [List.getElem?_set_self hn] at hc
    cases hc
    exact ⟨l, xs, hw, upd_same, RpL.ext ex _ _ r⟩
  · rw [List.getElem?_set_ne (Ne.symm e)] at hc
    refine CellR.ext ex (fun a ha => ⟨ha, ?_⟩) id (s.cell m c hc)
    have : a ≠ l := fun z => by subst z; exact e (s.nd m n a ha hw)
    rw [upd_ne this]
theorem cellM_lt {n : Nat} {ds : List D} (h : cellM S n = some ds) : n < S.length := by
  unfold cellM at h
  split at h
  · rename_i e he; exact (List.getElem?_eq_some_iff.mp he).1
  · cases h
/-- a cell is written -/
theorem wrote [Wo] {n : Nat} {ds ds' : List D} {xs' : List V} {x : V} {Q : VK} {E : Value → Option Addr → Hp → Prop} {d : D} {v : V} (s : Sto K mg w S H) (r : Rp K mg w H (.loc n) x) (h : cellM S n = some ds) (r' : RpL K mg w H ds' xs') (rv : Rp K mg w H d v)
    (he : End K mg (fun w H => Rp K mg w H) w H (.ok d (S.set n (.lst ds'))) Q E) : ∀ l, x = .ref l → Q v (upd H l (.lst xs')) := fun l el => by
  obtain ⟨a, xs, h1, h2, h3⟩ := cellM_at s h
  have e := r.2 a h1
  rw [el] at e; cases e
  exact he w _ v (Ext.write h1) (s.write h1 (cellM_lt h) r') (Rp.ext (Ext.write h1) _ _ rv)
end
def MtV [Wo] (K : PySem.W.Frag) (mg : Str → Option Value) (r : V → List V → Hp → VK → Prop) (g : D → List D → Store → RE D) : Prop :=
  ∀ (w : Wd) (S : Store) (H : Hp) (x : V) (xs : List V) (d : D) (ds : List D) (Q : VK) (E : Value → Option Addr → Hp → Prop), Sto K mg w S H → Rp K mg w H d x → RpL K mg w H ds xs → End K mg (fun w H => Rp K mg w H) w H (g d ds S) Q E → r x xs H Q
def gAppend (x : D) (ds : List D) (S : Store) : RE D := match x, ds with
  | .loc n, [y] => (match cellM S n with
    | some xs => if xs.length < sizeLine then .ok .non (S.set n (.lst (xs ++ [y]))) else .no
    | none => .no)
  | _, _ => .no
def gExtend (x : D) (ds : List D) (S : Store) : RE D := match x, ds with
  | .loc n, [y] => (match cellM S n, seqM S y with
    | some xs, some ys => if xs.length + ys.length ≤ sizeLine then .ok .non (S.set n (.lst (xs ++ ys))) else .no
    | _, _ => .no)
  | _, _ => .no
def gPop0 (x : D) (ds : List D) (S : Store) : RE D := match x, ds with
  | .loc n, [] => (match cellM S n with
    | some xs => (match xs[xs.length - 1]? with
      | some y => .ok y (S.set n (.lst xs.dropLast))
      | none => .no)
    | none => .no)
  | _, _ => .no
section
variable {K : PySem.W.Frag} {mg : Str → Option Value}
theorem RpL.dropLast {w : Wd} {H : Hp} {ds : List D} {xs : List V} (r : RpL K mg w H ds xs) : RpL K mg w H ds.dropLast xs.dropLast := by
  rw [List.dropLast_eq_take, List.dropLast_eq_take, r.length]; exact r.take _
theorem RpL.reverse {w : Wd} {H : Hp} : ∀ {ds : List D} {xs : List V}, RpL K mg w H ds xs → RpL K mg w H ds.reverse xs.reverse
  | [], xs, h => by unfold RpL at h; rw [h]; exact RpL.nil
  | d :: ds, xs, h => by
    unfold RpL at h
    obtain ⟨v, r, e1, h1, h2⟩ := h
    rw [e1, List.reverse_cons, List.reverse_cons]
    exact (RpL.reverse h2).append (RpL.one h1)
theorem append_v [Wo] : MtV K mg rAppend gAppend := by
  intro w S H x xs d ds Q E s r1 r2 h
  unfold gAppend at h
  split at h
  · rename_i n y
    split at h
    · rename_i zs hz
      split at h
      · rename_i hl
        obtain ⟨v, rfl, r3⟩ := r2.one_inv
        obtain ⟨l, vs, e1, t1, q1⟩ := seqM_at (S := S) (d := .loc n) s r1 hz
        exact ⟨l, vs, v, e1, rfl, t1, by rw [← q1.length]; exact hl, wrote s r1 hz (q1.append (RpL.one r3)) rp_n h l e1⟩
      · exact h.elim
    · exact h.elim
  · exact h.elim
theorem extend_v [Wo] : MtV K mg rExtend gExtend := by
  intro w S H x xs d ds Q E s r1 r2 h
  unfold gExtend at h
  split at h
  · rename_i n y
    split at h
    · rename_i zs ys hz hy
      split at h
      · rename_i hl
        obtain ⟨v, rfl, r3⟩ := r2.one_inv
        obtain ⟨l, vs, e1, t1, q1⟩ := seqM_at (S := S) (d := .loc n) s r1 hz
        obtain ⟨b, us, e2, t2, q2⟩ := seqM_at s r3 hy
        exact ⟨l, b, vs, us, e1, by rw [e2], t1, t2, by rw [← q1.length, ← q2.length]; exact hl, wrote s r1 hz (q1.append q2) rp_n h l e1⟩
      · exact h.elim
    · exact h.elim
  · exact h.elim
theorem pop0_v [Wo] : MtV K mg rPop gPop0 := by
  intro w S H x xs d ds Q E s r1 r2 h
  unfold gPop0 at h
  split at h
  · rename_i n
    split at h
    · rename_i zs hz
      split at h
      · rename_i y hy
        obtain ⟨l, vs, e1, t1, q1⟩ := seqM_at (S := S) (d := .loc n) s r1 hz
        obtain ⟨u, h3, h4⟩ := q1.get hy
        unfold RpL at r2
        exact ⟨l, vs, u, e1, r2, t1, by rw [← q1.length]; exact h3, wrote s r1 hz q1.dropLast h4 h l e1⟩
      · exact h.elim
    · exact h.elim
  · exact h.elim
end
/-- o.m(..), o a list -/
def fMth (g : D → List D → Store → RE D) (o : FE) (a : FA) : FE := fun ρ S => (o ρ S).bnd fun x S1 => match seqL S1 x with
  | some _ => (a ρ S1).bnd fun ds S2 => g x ds S2
  | none => .no
section
variable {X : Cx} {W : WX} {o e : Expr} {es : List Expr} {fo : FE} {fs : FA} {name : Str} {apos cpos : Pos} {id : String} {r : V → List V → Hp → VK → Prop} {g : D → List D → Store → RE D}
theorem q_mth [Wo] (slot : Slot "list" name id) (hty : typeOf (.builtin id) = pure (.type "method_descriptor")) (hm : MtR X id r) (hv : MtV X.K X.mg r g) (ho : PE X o (tF X W fo)) (ha : PA X (e :: es) (tA X W fs))
    (hbase : attributeBase o name X.env (eval o X.env) = eval o X.env := by rfl)
    (hfew : ((backTo cpos (starEach (e :: es) X.env)).all (fun x => !x.1) && (backToKw cpos (keywordEach [] X.env)).all (fun x => x.1.isSome)
      && decide ((e :: es).length + ([] : List Keyword).length + (if ([] : List Keyword).isEmpty then 0 else 1) < 30)) = true := by rfl)
    (hline : (apos.endLine == cpos.line) = true := by rfl) (hs : starEach (e :: es) X.env = (false, eval e X.env) :: starEach es X.env := by rfl) (hplain : (backTo cpos (starEach es X.env)).any (·.1) = false := by rfl) :
    PE X (.Call (.Attribute o name apos) (e :: es) [] cpos) (tF X W (fMth g fo fs)) :=
  PE.wk (pe_bm PySem.F.plainAttrs_list slot hty hm ho ha hbase hfew hline hs hplain) fun σ H Q ⟨w, ρ, S, s, en, h⟩ => by
    refine ⟨w, ρ, S, s, en, (End.bind (R := fun w H => Rp X.K X.mg w H) h).imp ?_ (fun _ _ _ z => z)⟩
    rintro x H1 ⟨w1, S1, d, e1, s1, r1, h1⟩
    split at h1
    · rename_i ys hy
      obtain ⟨a, vs, e2, t2, q2⟩ := seqL_at s1 r1 hy
      refine ⟨by rw [e2]; exact .inl ⟨rfl, vs, t2⟩, w1, ρ, S1, s1, en.ext e1, (End.bind (R := fun w H => RpL X.K X.mg w H) h1).imp ?_ (fun _ _ _ z => z)⟩
      rintro us H2 ⟨w2, S2, ds, e3, s2, r2, h2⟩
      exact hv w2 S2 H2 x us d ds Q _ s2 (Rp.ext e3 _ _ r1) r2 h2
    · exact h1.elim
theorem q_mth0 [Wo] (slot : Slot "list" name id) (hty : typeOf (.builtin id) = pure (.type "method_descriptor")) (hm : MtR X id r) (hv : MtV X.K X.mg r g) (ho : PE X o (tF X W fo))
    (hbase : attributeBase o name X.env (eval o X.env) = eval o X.env := by rfl) (hline : (apos.endLine == cpos.line) = true := by rfl) :
    PE X (.Call (.Attribute o name apos) [] [] cpos) (tF X W (fMth g fo fNil)) :=
  PE.wk (pe_bm0 PySem.F.plainAttrs_list slot hty hm ho hbase hline) fun σ H Q ⟨w, ρ, S, s, en, h⟩ => by
    refine ⟨w, ρ, S, s, en, (End.bind (R := fun w H => Rp X.K X.mg w H) h).imp ?_ (fun _ _ _ z => z)⟩
    rintro x H1 ⟨w1, S1, d, e1, s1, r1, h1⟩
    split at h1
    · rename_i ys hy
      obtain ⟨a, vs, e2, t2, q2⟩ := seqL_at s1 r1 hy
      exact ⟨by rw [e2]; exact .inl ⟨rfl, vs, t2⟩, hv w1 S1 H1 x [] d [] Q _ s1 r1 RpL.nil h1⟩
    · exact h1.elim
end
end Kw
namespace Kw
open PySem PySem.Spec PyProof.Rows L2
abbrev FF := List D → Store → RE D
def spF [Wo] (K : PySem.W.Frag) (mg : Str → Option Value) (m : Nat) (f : FF) : Sp := fun vs H Q E => ∃ w S ds, Sto K mg w S H ∧ RpL K mg w H ds vs ∧ ds.length = m ∧ End K mg (fun w H => Rp K mg w H) w H (f ds S) Q E
/-- room, and nothing is being shown -/
structure RoomG (k : Nat) (A : Around) : Prop where
  rm : Room k A
  gd : A.guards = some []
theorem RoomG.down {k : Nat} {A : Around} (r : RoomG (k + 1) A) (env : Env) : RoomG k (A.deeper env) := ⟨r.rm.deeper env, r.gd⟩
/-- a def's promise where nothing is being shown -/
structure FnG (P : Program) (w : World) (K : PySem.W.Frag) (mg : Str → Option Value) (base : Heap) (k : Nat) (a : Addr) (fd : FuncData) (ps : List Str) (sp : Sp) : Prop where
  size : ∀ vs H Q E, sp vs H Q E → vs.length = ps.length
  runs : ∀ (A : Around) (stk : List Env) (s : Shared) (H : Hp) (ar : Args) (us : List Value) (vs : List V) (Q : VK) (E : XK), RoomG k A → Env0 P w K mg base A stk s H → BindsTo s fd ar (ps.zip us) → Vals vs us → sp vs H Q E →
    codeAny (model P w) A (.call (.ref a) ar) (CR (L2.CX P w) stk P w H s Q E) s
theorem FnG.weak {P : Program} {w : World} {K : PySem.W.Frag} {mg : Str → Option Value} {base : Heap} {k : Nat} {a : Addr} {fd : FuncData} {ps : List Str} {sp sp' : Sp} (F : FnG P w K mg base k a fd ps sp) (h : ∀ vs H Q E, sp' vs H Q E → sp vs H Q E) : FnG P w K mg base k a fd ps sp' :=
  ⟨fun vs H Q E q => F.size vs H Q E (h _ _ _ _ q), fun A stk s H ar us vs Q E hr e0 hb hv hs => F.runs A stk s H ar us vs Q E hr e0 hb hv (h _ _ _ _ hs)⟩
/-- the name x stands for a def that computes f -/
def Cal [Wo] (P : Program) (w : World) (K : PySem.W.Frag) (mg : Str → Option Value) (base : Heap) (k : Nat) (x : Str) (f : FF) : Prop :=
  ∃ a fd ps, FnG P w K mg base k a fd ps (spF K mg ps.length f) ∧ mg x = some (.ref a) ∧ PySem.W.keepIn K (.ref a) = true ∧ Binds K fd ps [] ∧ (∀ ds S, ds.length ≠ ps.length → f ds S = .no) ∧ ps = fd.params.args.map (·.arg) ∧ ∃ oc od osl, K.lookup a = some ⟨oc, od, .func fd, osl⟩
section
variable {X : Cx} {W : WX} {e : Expr} {es : List Expr} {fs : FA} {pos : Pos} {k : Nat} {x : Str} {f : FF} {p : Pos}
theorem run_g {a : Addr} {fd : FuncData} {ps : List Str} {sp : Sp} {pins : List (Addr × Obj)} {σ : L2.St} {H : Hp} {s : Shared} {Q : VK} {us : List Value} {vs : List V} (F : FnG X.prog X.w X.K X.mg X.base k a fd ps sp) (hr : RoomG k X.A) (tk : Takes X W)
    (I : Inv X pins σ H s) (r : Vals vs us) (hbd : BindsTo s fd ⟨us, []⟩ (ps.zip us)) (h : sp vs H Q (WE W σ)) : wpAny (model X.prog X.w) X.A (call (.ref a) us) (EP X pins σ Q) X.xe s :=
  wpAny_call (codeAny_mono (F.runs X.A X.stack s H ⟨us, []⟩ us vs Q (WE W σ) hr I.env0 hbd r h) fun res s' hq => by
    match res, hq with
    | .error e, hq => exact passAt tk σ pins H s e s' I hq
    | .ok (.ret u), hq => exact I.after hq
    | .ok .next, hq => exact hq.elim
    | .ok .brk, hq => exact hq.elim
    | .ok .cont, hq => exact hq.elim)
theorem binds0 {K : PySem.W.Frag} {fd : FuncData} {ps : List Str} (hb : Binds K fd ps []) {s : Shared} {us : List Value} (kin : K.In s.heap) (hl : us.length = ps.length) : BindsTo s fd ⟨us, []⟩ (ps.zip us) := by
  have z := hb s us kin (by simpa using hl)
  simpa using z
theorem q_call [Wo] (C : Cal X.prog X.w X.K X.mg X.base k x f) (hr : RoomG k X.A) (tk : Takes X W) (hg : Gl X x) (ha : PA X (e :: es) (tA X W fs)) (hdb : (x == ("__debug__" : Str)) = false := by decide)
    (he : starEach (e :: es) X.env = (false, eval e X.env) :: starEach es X.env := by rfl) (hpl : (backTo pos (starEach es X.env)).any (·.1) = false := by rfl) : PE X (.Call (.Name x p) (e :: es) [] pos) (tF X W (fArg f fs)) := by
  obtain ⟨a, fd, ps, F, hm, hk, hb, ar, _⟩ := C
  refine ⟨fun pins s σ H Q I ⟨w, ρ, S, s0, en, h⟩ => wpAny_Call_Name_kw (ld_glob I hg hm ?_ hdb)⟩
  refine PySem.W.callWith_K (h₀ := X.base) I.ok.mod.kin hk (thn (ha.run pos pins s σ H (fun vs H1 => spF X.K X.mg ps.length f vs H1 Q (WE W σ)) I
    ⟨w, ρ, S, s0, en, (End.bind (R := fun w H => RpL X.K X.mg w H) h).imp ?_ (fun _ _ _ z => z)⟩) fun us s1 ⟨vs, H1, I1, r, q⟩ => ⟨I1.kIn, run_g (us := us) F hr tk I1 r (binds0 (us := us) hb I1.kIn (by rw [← r.length]; exact F.size _ _ _ _ q)) q⟩) he hpl
  rintro vs H1 ⟨w1, S1, ds, e1, s1, r1, h1⟩
  refine ⟨w1, S1, ds, s1, r1, ?_, h1⟩
  apply Classical.byContradiction
  intro hn
  rw [ar ds S1 hn] at h1
  exact h1
end
inductive RS where
  | nx (ρ : FEnv) (S : Store) | rt (d : D) (S : Store) | bk (ρ : FEnv) (S : Store) | ct (ρ : FEnv) (S : Store) | ex (x : Ex) (ρ : FEnv) (S : Store) | no
abbrev FS := FEnv → Store → RS
def RE.toS {α : Type} (m : RE α) (ρ : FEnv) (k : α → Store → RS) : RS := match m with
  | .ok a S => k a S
  | .ex x S => .ex x ρ S
  | .no => .no
def RS.bnd (m : RS) (k : FS) : RS := match m with
  | .nx ρ S => k ρ S
  | r => r
def EndS [Wo] (K : PySem.W.Frag) (mg : Str → Option Value) (w : Wd) (H : Hp) (r : RS) (D : Ends) (W : WX) : Prop := match r with
  | .nx ρ S => ∀ w' H' σ', Ext w H w' H' → Sto K mg w' S H' → EnvR K mg w' H' ρ σ' → D.nx σ' H'
  | .rt d S => ∀ w' H' v, Ext w H w' H' → Sto K mg w' S H' → Rp K mg w' H' d v → D.rt v H'
  | .bk ρ S => ∀ w' H' σ', Ext w H w' H' → Sto K mg w' S H' → EnvR K mg w' H' ρ σ' → D.bk σ' H'
  | .ct ρ S => ∀ w' H' σ', Ext w H w' H' → Sto K mg w' S H' → EnvR K mg w' H' ρ σ' → D.ct σ' H'
  | .ex x ρ S => ∀ w' H' σ' c od, Ext w H w' H' → Sto K mg w' S H' → EnvR K mg w' H' ρ σ' → ExR K mg w' H' x c od → W c od σ' H'
  | .no => False
def tS [Wo] (X : Cx) (W : WX) (f : FS) : TS := fun D σ H => ∃ w ρ S, Sto X.K X.mg w S H ∧ EnvR X.K X.mg w H ρ σ ∧ EndS X.K X.mg w H (f ρ S) D W
section
variable {K : PySem.W.Frag} {mg : Str → Option Value} {w w1 : Wd} {H H1 : Hp} {r : RS} {D D' : Ends} {W W' : WX} {ρ : FEnv} {σ : L2.St} {S : Store}
theorem EndS.on [Wo] (x : Ext w H w1 H1) (h : EndS K mg w H r D W) : EndS K mg w1 H1 r D W := by
  unfold EndS at h ⊢
  split
  · exact fun w' H' b e s k => h w' H' b (x.trans e) s k
  · exact fun w' H' b e s k => h w' H' b (x.trans e) s k
  · exact fun w' H' b e s k => h w' H' b (x.trans e) s k
  · exact fun w' H' b e s k => h w' H' b (x.trans e) s k
  · exact fun w' H' b c od e s k l => h w' H' b c od (x.trans e) s k l
  · exact h
theorem EndS.imp [Wo] (h : EndS K mg w H r D W) (h1 : ∀ σ H, D.nx σ H → D'.nx σ H) (h2 : ∀ v H, D.rt v H → D'.rt v H) (h3 : ∀ σ H, D.bk σ H → D'.bk σ H) (h4 : ∀ σ H, D.ct σ H → D'.ct σ H) (h5 : ∀ c od σ H, W c od σ H → W' c od σ H) : EndS K mg w H r D' W' := by
  unfold EndS at h ⊢
  split
  · exact fun w' H' b e s k => h1 _ _ (h w' H' b e s k)
  · exact fun w' H' b e s k => h2 _ _ (h w' H' b e s k)
  · exact fun w' H' b e s k => h3 _ _ (h w' H' b e s k)
  · exact fun w' H' b e s k => h4 _ _ (h w' H' b e s k)
  · exact fun w' H' b c od e s k l => h5 _ _ _ _ (h w' H' b c od e s k l)
  · exact h
theorem EndS.of [Wo] {α β : Type} {R : Wd → Hp → α → β → Prop} {m : RE α} {k : α → Store → RS} (h : EndS K mg w H (m.toS ρ k) D W) (en : EnvR K mg w H ρ σ) :
    End K mg R w H m (fun b H1 => ∃ w1 S1 a, Ext w H w1 H1 ∧ Sto K mg w1 S1 H1 ∧ R w1 H1 a b ∧ EndS K mg w1 H1 (k a S1) D W) (fun c od H' => W c od σ H') := by
  cases m with
  | ok a S1 =>
    have h' : EndS K mg w H (k a S1) D W := h
    exact fun w' H' b e s kk => ⟨w', S1, a, e, s, kk, h'.on e⟩
  | ex x S1 => exact fun w' H' c od e s kk => h w' H' σ c od e s (en.ext e) kk
  | no => exact h
theorem EndS.bind [Wo] {k : FS} (h : EndS K mg w H (r.bnd k) D W) : EndS K mg w H r { D with nx := fun σ H1 => ∃ w1 ρ1 S1, Sto K mg w1 S1 H1 ∧ EnvR K mg w1 H1 ρ1 σ ∧ EndS K mg w1 H1 (k ρ1 S1) D W } W := by
  cases r with
  | nx ρ1 S1 =>
    have h' : EndS K mg w H (k ρ1 S1) D W := h
    exact fun w' H' b e s kk => ⟨w', ρ1, S1, s, kk, h'.on e⟩
  | _ => exact h
theorem EnvR.set {i : Nat} {d : Kw.D} {v : V} (en : EnvR K mg w H ρ σ) (r : Rp K mg w H d v) : EnvR K mg w H (ρ.set i (some d)) (σ.set i (some v)) := by
  refine ⟨by rw [List.length_set, List.length_set]; exact en.len, fun j d' h => ?_⟩
  by_cases e : j = i
  · subst e
    have hj : j < ρ.length := by
      have := (List.getElem?_eq_some_iff.mp h).1
      rwa [List.length_set] at this
    rw [List.getElem?_set_self hj] at h
    cases h
    exact ⟨v, by rw [List.getElem?_set_self (en.len ▸ hj)], r⟩
  · rw [List.getElem?_set_ne (Ne.symm e)] at h
    obtain ⟨u, h1, h2⟩ := en.at_ j d' h
    exact ⟨u, by rw [List.getElem?_set_ne (Ne.symm e)]; exact h1, h2⟩
theorem EnvR.wipe1 {i : Nat} (en : EnvR K mg w H ρ σ) : EnvR K mg w H (ρ.set i none) (σ.set i none) := by
  refine ⟨by rw [List.length_set, List.length_set]; exact en.len, fun j d' h => ?_⟩
  by_cases e : j = i
  · subst e
    have hj : j < ρ.length := by
      have := (List.getElem?_eq_some_iff.mp h).1
      rwa [List.length_set] at this
    rw [List.getElem?_set_self hj] at h
    cases h
  · rw [List.getElem?_set_ne (Ne.symm e)] at h
    obtain ⟨u, h1, h2⟩ := en.at_ j d' h
    exact ⟨u, by rw [List.getElem?_set_ne (Ne.symm e)]; exact h1, h2⟩
theorem EndS.nx' [Wo] {ρ' : FEnv} {σ' : L2.St} (h : EndS K mg w H (.nx ρ' S) D W) (s : Sto K mg w S H) (en : EnvR K mg w H ρ' σ') : D.nx σ' H := h w H σ' Ext.refl s en
theorem EndS.rt' [Wo] {d : Kw.D} {v : V} (h : EndS K mg w H (.rt d S) D W) (s : Sto K mg w S H) (r : Rp K mg w H d v) : D.rt v H := h w H v Ext.refl s r
end
def sNil : FS := fun ρ S => .nx ρ S
def sSeq (f g : FS) : FS := fun ρ S => (f ρ S).bnd g
def sExp (f : FE) : FS := fun ρ S => (f ρ S).toS ρ fun _ S1 => .nx ρ S1
def sRet (f : FE) : FS := fun ρ S => (f ρ S).toS ρ fun d S1 => .rt d S1
def sRetN : FS := fun _ S => .rt .non S
def sSet (i : Nat) (f : FE) : FS := fun ρ S => (f ρ S).toS ρ fun d S1 => .nx (ρ.set i (some d)) S1
def sIf (c : FT) (a b : FS) : FS := fun ρ S => (c ρ S).toS ρ fun k S1 => match k with
  | true => a ρ S1
  | false => b ρ S1
section
variable {X : Cx} {W : WX} {st : Stmt} {rest : List Stmt} {f g : FS} {e : Expr} {fe : FE} {pos : Pos}
theorem q_snil [Wo] : PSs X [] (tS X W sNil) := PSs.wk pss_nil fun D σ H ⟨w, ρ, S, s, en, h⟩ => h.nx' s en
theorem q_seq [Wo] (h1 : PS X st (tS X W f)) (h2 : PSs X rest (tS X W g)) : PSs X (st :: rest) (tS X W (sSeq f g)) :=
  PSs.wk (pss_cons h1 h2) fun D σ H ⟨w, ρ, S, s, en, h⟩ => ⟨w, ρ, S, s, en, h.bind⟩
theorem q_last [Wo] (h1 : PS X st (tS X W f)) : PSs X [st] (tS X W f) := pss_one h1
theorem q_expr [Wo] (he : PE X e (tF X W fe)) (hs : swapsWith e none pos.line X.env = pure false := by rfl) : PS X (.Expr e pos) (tS X W (sExp fe)) :=
  PS.wk (ps_expr he hs) fun D σ H ⟨w, ρ, S, s, en, h⟩ => ⟨w, ρ, S, s, en, (h.of (R := fun w H => Rp X.K X.mg w H) en).imp (fun v H1 ⟨w1, S1, d, e1, s1, r1, h1⟩ => h1.nx' s1 (en.ext e1)) (fun _ _ _ z => z)⟩
theorem q_ret [Wo] (he : PE X e (tF X W fe)) : PS X (.Return (some e) pos) (tS X W (sRet fe)) :=
  PS.wk (ps_ret he) fun D σ H ⟨w, ρ, S, s, en, h⟩ => ⟨w, ρ, S, s, en, (h.of (R := fun w H => Rp X.K X.mg w H) en).imp (fun v H1 ⟨w1, S1, d, e1, s1, r1, h1⟩ => h1.rt' s1 r1) (fun _ _ _ z => z)⟩
theorem q_set [Wo] {i : Nat} {x : Str} {pos' : Pos} (hN : X.N.Nodup) (hi : X.N[i]? = some x) (hx : Loc X.env.scope x) (he : PE X e (tF X W fe)) (hs : swapsWith e (some (.Name x pos')) pos.line X.env = pure false := by rfl) (hf : X.fn x = true ∨ X.env.scope.names.lookup x = some .local := by first | exact .inl rfl | exact .inr rfl | assumption) :
    PS X (.Assign [.Name x pos'] e pos) (tS X W (sSet i fe)) :=
  PS.wk (ps_set hN hi hx he hs hf) fun D σ H ⟨w, ρ, S, s, en, h⟩ => ⟨w, ρ, S, s, en, (h.of (R := fun w H => Rp X.K X.mg w H) en).imp (fun v H1 ⟨w1, S1, d, e1, s1, r1, h1⟩ => h1.nx' s1 ((en.ext e1).set r1)) (fun _ _ _ z => z)⟩
theorem q_ifS [Wo] {c : Expr} {a b : List Stmt} {tc : FT} (hc : PT X c (tT X W tc)) (ha : PSs X a (tS X W f)) (hb : PSs X b (tS X W g)) : PS X (.If c a b pos) (tS X W (sIf tc f g)) :=
  PS.wk (ps_if hc ha hb) fun D σ H ⟨w, ρ, S, s, en, h⟩ => ⟨w, ρ, S, s, en, (h.of (R := fun _ _ (a b : Bool) => b = a) en).imp (fun v H1 ⟨w1, S1, d, e1, s1, r1, h1⟩ => by
    cases r1
    cases v with
    | true => rw [if_pos rfl]; exact ⟨w1, ρ, S1, s1, en.ext e1, h1⟩
    | false => rw [if_neg (by decide)]; exact ⟨w1, ρ, S1, s1, en.ext e1, h1⟩) (fun _ _ _ z => z)⟩
end
/-- name op= e: two whole numbers -/
def sAug (i : Nat) (g : D → D → Store → RE D) (f : FE) : FS := fun ρ S => match ρ[i]? with
  | some (some x) => (f ρ S).toS ρ fun y S1 => (g x y S1).toS ρ fun z S2 => .nx (ρ.set i (some z)) S2
  | _ => .no
def gIAdd (x y : D) (S : Store) : RE D := match x, y with
  | .int i, .int j => .ok (.int (i + j)) S
  | _, _ => .no
mutual
/-- no cell from n on is in it -/
def D.under (n : Nat) : D → Bool
  | .tup ds => underL n ds
  | .lst ds => underL n ds
  | .fls ds => underL n ds
  | .dic _ ds => underL n ds
  | .ins _ _ ds => underL n ds
  | .exo _ _ ds => underL n ds
  | .loc m => decide (m < n)
  | _ => true
def underL (n : Nat) : List D → Bool
  | [] => true
  | d :: ds => D.under n d && underL n ds
end
def Cell.under (n : Nat) : Cell → Bool
  | .lst ds => underL n ds
  | .frz ds => underL n ds
  | .dead => true
  | .tab _ => true
  | .sys => true
  | .gst ρ _ => ρ.all fun o => match o with
    | some d => d.under n
    | none => true
  | .ob _ _ ds => underL n ds
  | .dct _ ds => underL n ds
mutual
theorem keyOf_under {n : Nat} : ∀ (d : D) {k : NestedKey}, keyOf d = some k → D.under n d = true
  | .non, _, _ => rfl
  | .bl _, _, h => by simp [keyOf] at h
  | .int _, _, _ => rfl
  | .str _, _, _ => rfl
  | .tup ds, k, h => by
    simp only [keyOf, Option.map_eq_some_iff] at h
    obtain ⟨ks, h1, _⟩ := h
    simpa [D.under] using keysOf_under ds h1
  | .lst _, _, h => by simp [keyOf] at h
  | .dic _ _, _, h => by simp [keyOf] at h
  | .ins _ _ _, _, h => by simp [keyOf] at h
  | .loc _, _, h => by simp [keyOf] at h
  | .glo _, _, _ => rfl
  | .fls _, _, h => by simp [keyOf] at h
  | .exn _, _, _ => rfl
  | .exo _ _ _, _, h => by simp [keyOf] at h
  | .lam _ _ _, _, _ => rfl
theorem keysOf_under {n : Nat} : ∀ (ds : List D) {ks : List NestedKey}, keysOf ds = some ks → underL n ds = true
  | [], _, _ => rfl
  | d :: ds, ks, h => by
    simp only [keysOf] at h
    split at h
    · rename_i k r h1 h2
      simp [underL, keyOf_under d h1, keysOf_under ds h2]
    · cases h
end
/-- the cells ahead of S's end are as they were, or have nothing that was made since -/
def CutOk (S S' : Store) : Prop := S.length ≤ S'.length ∧ ∀ (i : Nat) c, i < S.length → S'[i]? = some c → S[i]? = some c ∨ c.under S.length = true
open Classical in
noncomputable def cutR (S : Store) (r : RE D) : RE D := match r with
  | .ok d S' => if d.under S.length = true ∧ CutOk S S' then .ok d (S'.take S.length) else .no
  | .ex x S' => if underL S.length x.ds = true ∧ CutOk S S' then .ex x (S'.take S.length) else .no
  | .no => .no
def RS.fin (r : RS) : RE D := match r with
  | .nx _ S => .ok .non S
  | .rt d S => .ok d S
  | .ex x _ S => .ex x S
  | _ => .no
/-- a def with m parameters, n names -/
def fnB (m n : Nat) (b : FS) : FF := fun ds S => if ds.length = m then (b (ds.map some ++ List.replicate (n - m) none) S).fin else .no
/-- .. that throws its cells away -/
noncomputable def fnC (m n : Nat) (b : FS) : FF := fun ds S => cutR S (fnB m n b ds S)
section
variable {K : PySem.W.Frag} {mg : Str → Option Value} {w : Wd} {H : Hp} {S S' : Store}
theorem getElem?_of_take {α : Type} {l : List α} {n m : Nat} {x : α} (h : (l.take n)[m]? = some x) : l[m]? = some x ∧ m < n := by
  by_cases e : m < n
  · rw [List.getElem?_take_of_lt e] at h; exact ⟨h, e⟩
  · rw [List.getElem?_eq_none (by rw [List.length_take]; omega)] at h; exact (nomatch h)
def Wd.cut (w : Wd) (n : Nat) : Wd := ⟨w.φ.take n, w.hd⟩
theorem Wd.off_cut {n : Nat} {a : Addr} (h : w.Off a) : (w.cut n).Off a := ⟨fun z => h.1 (List.mem_of_mem_take z), h.2⟩
theorem Tp.cut {n : Nat} {a : Addr} {xs : List V} (h : Tp K w H a xs) : Tp K (w.cut n) H a xs := by
  rcases h with ⟨h, k⟩ | h
  · exact .inl ⟨h, Wd.off_cut k⟩
  · exact .inr h
theorem Fp.cut {n : Nat} {a : Addr} {xs : List V} (h : Fp K w H a xs) : Fp K (w.cut n) H a xs := by
  rcases h with ⟨o, h, k⟩ | h
  · exact .inl ⟨o, h, Wd.off_cut k⟩
  · exact .inr h
mutual
theorem Rp.cut {n : Nat} (hn : n ≤ w.φ.length) : ∀ (d : D) (v : V), d.under n = true → Rp K mg w H d v → Rp K mg (w.cut n) H d v
  | .non, _, _, h => by unfold Rp at h ⊢; exact h
  | .bl _, _, _, h => by unfold Rp at h ⊢; exact h
  | .int _, _, _, h => by unfold Rp at h ⊢; exact h
  | .str _, _, _, h => by unfold Rp at h ⊢; exact h
  | .tup ds, v, b, h => by
    unfold Rp at h ⊢
    obtain ⟨a, xs, e1, t, r⟩ := h
    exact ⟨a, xs, e1, t.cut, RpL.cutW hn ds xs (by simpa [D.under] using b) r⟩
  | .lst ds, v, b, h => by
    unfold Rp at h ⊢
    obtain ⟨a, xs, e1, t, o, r⟩ := h
    exact ⟨a, xs, e1, t, Wd.off_cut o, RpL.cutW hn ds xs (by simpa [D.under] using b) r⟩
  | .dic ks ds, v, b, h => by
    unfold Rp at h ⊢
    obtain ⟨a, vs, e1, t, o, l, r⟩ := h
    exact ⟨a, vs, e1, t, Wd.off_cut o, l, RpL.cutW hn ds vs (by simpa [D.under] using b) r⟩
  | .ins c fs ds, v, b, h => by
    unfold Rp at h ⊢
    obtain ⟨a, C, dx, vs, e1, m, t, o, l, r⟩ := h
    exact ⟨a, C, dx, vs, e1, m, t, Wd.off_cut o, l, RpL.cutW hn ds vs (by simpa [D.under] using b) r⟩
  | .loc m, v, b, h => by
    have hm : m < n := by simpa [D.under] using b
    unfold Rp at h ⊢
    refine ⟨?_, fun a q => h.2 a ?_⟩
    · show m < (w.φ.take n).length
      rw [List.length_take]; omega
    · have q' : (w.φ.take n)[m]? = some (some a) := q
      exact (getElem?_of_take q').1
  | .glo _, _, _, h => by unfold Rp at h ⊢; exact h
  | .exn _, _, _, h => by unfold Rp at h ⊢; exact h
  | .lam i q ob, v, b, h => by
    unfold Rp at h ⊢
    obtain ⟨f, c', pm, ctv, e1, t, o, t2, o2⟩ := h
    exact ⟨f, c', pm, ctv, e1, t, Wd.off_cut o, t2, Wd.off_cut o2⟩
  | .exo c ns ds, v, b, h => by
    unfold Rp at h ⊢
    obtain ⟨a, C, od, vs, e1, m, t, o, z, q, l, r⟩ := h
    exact ⟨a, C, od, vs, e1, m, t, Wd.off_cut o, z, fun d hd => ⟨(q d hd).1, Wd.off_cut (q d hd).2⟩, l, RpL.cutW hn ds vs (by simpa [D.under] using b) r⟩
  | .fls ds, v, b, h => by
    unfold Rp at h ⊢
    obtain ⟨a, xs, e1, t, r⟩ := h
    exact ⟨a, xs, e1, t.cut, RpL.cutW hn ds xs (by simpa [D.under] using b) r⟩
theorem RpL.cutW {n : Nat} (hn : n ≤ w.φ.length) : ∀ (ds : List D) (vs : List V), underL n ds = true → RpL K mg w H ds vs → RpL K mg (w.cut n) H ds vs
  | [], _, _, h => by unfold RpL at h ⊢; exact h
  | d :: ds, vs, b, h => by
    have b' : d.under n = true ∧ underL n ds = true := by simpa [underL] using b
    unfold RpL at h ⊢
    obtain ⟨v, r, e1, h1, h2⟩ := h
    exact ⟨v, r, e1, Rp.cut hn d v b'.1 h1, RpL.cutW hn ds r b'.2 h2⟩
end
mutual
theorem Rp.isUnder : ∀ (d : D) (v : V), Rp K mg w H d v → d.under w.φ.length = true
  | .non, _, h => rfl
  | .bl _, _, h => rfl
  | .int _, _, h => rfl
  | .str _, _, h => rfl
  | .tup ds, v, h => by
    unfold Rp at h
    obtain ⟨a, xs, e1, t, r⟩ := h
    simpa [D.under] using RpL.isUnder ds xs r
  | .lst ds, v, h => by
    unfold Rp at h
    obtain ⟨a, xs, e1, t, o, r⟩ := h
    simpa [D.under] using RpL.isUnder ds xs r
  | .dic ks ds, v, h => by
    unfold Rp at h
    obtain ⟨a, vs, e1, t, o, l, r⟩ := h
    simpa [D.under] using RpL.isUnder ds vs r
  | .ins c fs ds, v, h => by
    unfold Rp at h
    obtain ⟨a, C, dx, vs, e1, m, t, o, l, r⟩ := h
    simpa [D.under] using RpL.isUnder ds vs r
  | .loc m, v, h => by
    unfold Rp at h
    simpa [D.under] using h.1
  | .glo _, _, h => rfl
  | .exn _, _, h => rfl
  | .lam _ _ _, _, h => rfl
  | .exo c ns ds, v, h => by
    unfold Rp at h
    obtain ⟨a, C, od, vs, e1, m, t, o, z, q, l, r⟩ := h
    simpa [D.under] using RpL.isUnder ds vs r
  | .fls ds, v, h => by
    unfold Rp at h
    obtain ⟨a, xs, e1, t, r⟩ := h
    simpa [D.under] using RpL.isUnder ds xs r
theorem RpL.isUnder : ∀ (ds : List D) (vs : List V), RpL K mg w H ds vs → underL w.φ.length ds = true
  | [], _, h => rfl
  | d :: ds, vs, h => by
    unfold RpL at h
    obtain ⟨v, r, e1, h1, h2⟩ := h
    simp [underL, Rp.isUnder d v h1, RpL.isUnder ds r h2]
end
theorem CellR.isUnder [Wo] {c : Cell} {n : Nat} (h : CellR K mg w H c n) : c.under w.φ.length = true := by
  unfold CellR at h
  split at h
  · obtain ⟨_, _, _, _, h⟩ := h; exact RpL.isUnder _ _ h
  · obtain ⟨_, _, _, _, _, h⟩ := h; exact RpL.isUnder _ _ h
  · rfl
  · rfl
  · rfl
  · rename_i ρ σ
    show (ρ.all fun o => match o with
      | some d => D.under w.φ.length d
      | none => true) = true
    rw [List.all_eq_true]
    intro o ho
    cases o with
    | none => rfl
    | some d =>
      obtain ⟨i, hi, e⟩ := List.mem_iff_getElem.mp ho
      obtain ⟨v, _, r⟩ := h.2.at_ i d (by rw [List.getElem?_eq_getElem hi, e])
      exact Rp.isUnder _ _ r
  · obtain ⟨_, _, _, _, _, _, _, _, h⟩ := h; exact RpL.isUnder _ _ h
  · obtain ⟨_, _, _, _, _, _, _, h⟩ := h; exact RpL.isUnder _ _ h
theorem CellR.cut [Wo] {c : Cell} {m n : Nat} (hn : n ≤ w.φ.length) (hm : m < n) (b : c.under n = true) (h : CellR K mg w H c m) : CellR K mg (w.cut n) H c m := by
  have g : (w.cut n).φ[m]? = w.φ[m]? := by
    show (w.φ.take n)[m]? = _
    rw [List.getElem?_take, if_pos hm]
  unfold CellR at h ⊢
  split at h
  · obtain ⟨a, xs, h1, h2, h3⟩ := h; exact ⟨a, xs, by rw [g]; exact h1, h2, RpL.cutW hn _ _ (by simpa [Cell.under] using b) h3⟩
  · obtain ⟨a, xs, o, h1, h2, h3⟩ := h; exact ⟨a, xs, o, by rw [g]; exact h1, h2, RpL.cutW hn _ _ (by simpa [Cell.under] using b) h3⟩
  · show _ = _; rw [g]; exact h
  · obtain ⟨c0, P, ht, h1, ps, h2, h3, h4⟩ := h
    refine ⟨c0, P, ht, by rw [g]; exact h1, ps, h2, h3, fun pos cv hc => ?_⟩
    obtain ⟨c, e1, e2, e3⟩ := h4 pos cv hc
    exact ⟨c, e1, e2, fun z => e3.1 (List.mem_of_mem_take z), e3.2⟩
  · exact ⟨by rw [g]; exact h.1, h.2.1, fun z => h.2.2.1 (List.mem_of_mem_take z), h.2.2.2⟩
  · refine ⟨by rw [g]; exact h.1, h.2.len, fun i d q => ?_⟩
    obtain ⟨v, h1, h2⟩ := h.2.at_ i d q
    have b' := List.all_eq_true.mp b (some d) (List.mem_of_getElem? q)
    exact ⟨v, h1, Rp.cut hn _ _ b' h2⟩
  · obtain ⟨a, C, dx, vs, h1, h2, h3, h4, h5⟩ := h; exact ⟨a, C, dx, vs, by rw [g]; exact h1, h2, h3, h4, RpL.cutW hn _ _ (by simpa [Cell.under] using b) h5⟩
  · obtain ⟨a, es, h1, h2, h3, h4, h5, h6⟩ := h
    exact ⟨a, es, by rw [g]; exact h1, h2, h3, h4, fun x hx => ⟨(h5 x hx).1, let ⟨d, q1, q2⟩ := (h5 x hx).2; ⟨d, q1, Rp.cut hn _ _ (keyOf_under d q1) q2⟩⟩, RpL.cutW hn _ _ (by simpa [Cell.under] using b) h6⟩
theorem Sto.cut [Wo] {w0 : Wd} {H0 : Hp} (s0 : Sto K mg w0 S H0) (s : Sto K mg w S' H) (h : CutOk S S') : Sto K mg (w.cut S.length) (S'.take S.length) H := by
  have hl : S.length ≤ w.φ.length := by rw [s.len]; exact h.1
  refine ⟨by show (w.φ.take _).length = _; rw [List.length_take, List.length_take, s.len], fun m n a h1 h2 => ?_, fun a ha => ⟨(s.ap a ha).1, fun z => (s.ap a ha).2 (List.mem_of_mem_take z)⟩, fun n c hc => ?_⟩
  · have k : ∀ m : Nat, (w.φ.take S.length)[m]? = some (some a) → w.φ[m]? = some (some a) := fun m q => by
      rw [List.getElem?_take] at q
      split at q
      · exact q
      · cases q
    exact s.nd m n a (k m h1) (k n h2)
  · rw [List.getElem?_take] at hc
    split at hc
    · rename_i hn
      have c0 := s.cell n c hc
      refine CellR.cut hl hn ?_ c0
      rcases h.2 n c hn hc with z | z
      · have := (s0.cell n c z).isUnder
        rw [s0.len] at this; exact this
      · exact z
    · cases hc
theorem Ext.cut {w0 : Wd} {H0 : Hp} (e : Ext w0 H0 w H) : Ext w0 H0 (w.cut w0.φ.length) H where
  fr := e.fr
  ln := by show _ ≤ (w.φ.take _).length; rw [List.length_take]; have := e.ln; omega
  ph := fun n a h l => by
    have q : (w.φ.take w0.φ.length)[n]? = some (some a) := h
    exact e.ph n a (getElem?_of_take q).1 l
  nw := fun a h => e.nw a (List.mem_of_mem_take h)
  hd := e.hd
theorem ExR.cutX {n : Nat} {x : Ex} {c : Value} {od : Option Addr} (hn : n ≤ w.φ.length) (b : underL n x.ds = true) (h : ExR K mg w H x c od) : ExR K mg (w.cut n) H x c od := by
  obtain ⟨h1, h2⟩ := h
  refine ⟨h1, ?_⟩
  rcases h2 with h2 | ⟨d, vs, a0, a1, a2, a3, a4, a5⟩
  · exact .inl h2
  · exact .inr ⟨d, vs, a0, a1, a2, Wd.off_cut a3, a4, RpL.cutW hn _ _ b a5⟩
/-- the cells that were made since are thrown away -/
theorem End.cutE [Wo] {Q : VK} {E : Value → Option Addr → Hp → Prop} {r : RE D} (s : Sto K mg w S H) (h : End K mg (fun w H => Rp K mg w H) w H (cutR S r) Q E) : End K mg (fun w H => Rp K mg w H) w H r Q E := by
  cases r with
  | ok d S' =>
    have h' : End K mg (fun w H => Rp K mg w H) w H (cutR S (.ok d S')) Q E := h
    unfold cutR at h'
    simp only at h'
    split at h'
    · rename_i hc
      intro w1 H1 v e s1 r1
      have hl : S.length ≤ w1.φ.length := by rw [s1.len]; exact hc.2.1
      refine h' (w1.cut S.length) H1 v (s.len ▸ e.cut) (Sto.cut s s1 hc.2) (Rp.cut hl d v hc.1 r1)
    · exact h'.elim
  | ex x S' =>
    have h' : End K mg (fun w H => Rp K mg w H) w H (cutR S (.ex x S')) Q E := h
    unfold cutR at h'
    simp only at h'
    split at h'
    · rename_i hc
      intro w1 H1 c od e s1 r1
      have hl : S.length ≤ w1.φ.length := by rw [s1.len]; exact hc.2.1
      refine h' (w1.cut S.length) H1 c od (s.len ▸ e.cut) (Sto.cut s s1 hc.2) (ExR.cutX hl hc.1 r1)
    · exact h'.elim
  | no => exact h
end
theorem envStart {K : PySem.W.Frag} {mg : Str → Option Value} {w : Wd} {H : Hp} {ds : List D} {vs : List V} {N : List Str} (r : RpL K mg w H ds vs) : EnvR K mg w H (ds.map some ++ List.replicate (N.length - ds.length) none) (L2.start N vs) := by
  unfold L2.start
  refine ⟨by simp [r.length], fun i d h => ?_⟩
  by_cases hi : i < ds.length
  · rw [List.getElem?_append_left (by rw [List.length_map]; exact hi), List.getElem?_map] at h
    cases e : ds[i]? with
    | none => rw [e] at h; cases h
    | some d' =>
      rw [e] at h
      have ed : d' = d := by simpa using h
      subst ed
      obtain ⟨v, h1, h2⟩ := r.get e
      refine ⟨v, ?_, h2⟩
      rw [List.getElem?_append_left (by rw [List.length_map, ← r.length]; exact hi), List.getElem?_map, h1]
      rfl
  · rw [List.getElem?_append_right (by rw [List.length_map]; omega)] at h
    have := List.mem_of_getElem? h
    have := List.eq_of_mem_replicate this
    cases this
section
variable {P : Program} {w : World} {K : PySem.W.Frag} {mg : Str → Option Value} {base : Heap}
/-- a def by its body -/
theorem fn_g {x qual : Str} {st : Stmt} {f : Addr} {fd : FuncData} {N ps : List Str} {k : Nat} {sp : Sp} (F : Fun K x qual st f fd) (S : FnScope N ps (defScope st)) (size : ∀ vs H Q E, sp vs H Q E → vs.length = ps.length)
    (hb : ∀ (cdv : Value) (A : Around) (stk : List Env) (s : Shared) (H : Hp) (vs : List V) (Q : VK) (E : XK), RoomG k (A.deeper (envOfC qual (defScope st) s.heap.objs.size f cdv)) → sp vs H Q E →
      ∃ t, PSs (cxOf (L2.CX P w) P w K mg base N qual (defScope st) f cdv A stk s H E) (defBody st) t ∧ t { nx := fun _ H' => Q .non H', rt := Q } (L2.start N vs) H) : FnG P w K mg base (k + 1) f fd ps sp := by
  obtain ⟨oc, od, kV, doc, pm, an, cdv, ct, osl, rfl, lk, hcd⟩ := F.ex
  refine ⟨size, fun A stk s H ar us vs Q E hr e0 hbd hv hsp => ?_⟩
  have up : ∀ b o, base.get? b = some o → s.heap.get? b = some o := fun b o z => (e0.bs b o z).1
  have KX : K.In s.heap := e0.mod.kin.keeps up
  refine codeAny_call_function hr.rm.depth (KX _ _ lk) rfl S.co S.gen rfl (PySem.W.codeRec_of KX hcd) (hbd _ _ _ _ (wpAny_newFunctionEnv_cells S.kind (fun ⟨n, v⟩ hn => ?par) fun env he s1 x => ?run))
  case par =>
    have hn' := S.par n (List.of_mem_zip hn).1
    exact hn'.imp id fun z => ⟨z, PySem.W.cellsFrom_some _ _ _ (.inl z)⟩
  case run =>
    subst he
    obtain ⟨t, ht, hq⟩ := hb cdv A stk s H vs Q E (hr.down _) hsp
    have I0 := inv_start (CX := L2.CX P w) (E := E) S hr.rm.hd e0 (size _ _ _ _ hsp) hv x
    refine ⟨(e0.mod.nolimit.keeps up).keeps x.toInCall.keep, codeAny_func (wpAny_mono (ht.run [] s1 (L2.start N vs) H _ I0 hq) (fun fl s' hs => ?_) fun e s' hs => hs)⟩
    match fl, hs with
    | .ret u, ⟨v, σ', H', J, rv, q⟩ => exact ⟨v, H', J.os, J.bare, J.base, J.hok, rv, q⟩
    | .next, ⟨σ', H', J, q⟩ => exact ⟨.non, H', J.os, J.bare, J.base, J.hok, rfl, q⟩
    | .brk, ⟨_, _, _, q⟩ => exact q.elim
    | .cont, ⟨_, _, _, q⟩ => exact q.elim
theorem fn_ok [Wo] {x qual : Str} {st : Stmt} {f : Addr} {fd : FuncData} {N ps : List Str} {k : Nat} {b : FS} (F : Fun K x qual st f fd) (S : FnScope N ps (defScope st))
    (hb : ∀ (cdv : Value) (A : Around) (outer : List Env) (s : Shared) (H : Hp) (E : XK), RoomG k (A.deeper (envOfC qual (defScope st) s.heap.objs.size f cdv)) →
      PSs (cxOf (L2.CX P w) P w K mg base N qual (defScope st) f cdv A outer s H E) (defBody st) (tS (cxOf (L2.CX P w) P w K mg base N qual (defScope st) f cdv A outer s H E) (fun c d _ H => E c d H) b)) :
    FnG P w K mg base (k + 1) f fd ps (spF K mg ps.length (fnB ps.length N.length b)) := by
  refine fn_g F S (fun vs H Q E ⟨w, st, ds, s, r, l, h⟩ => by rw [← r.length]; exact l) fun cdv A outer s H vs Q E hr ⟨w1, S1, ds, s1, r1, l, h⟩ => ⟨_, hb cdv A outer s H E hr, w1, _, S1, s1, envStart (N := N) r1, ?_⟩
  unfold fnB at h
  rw [if_pos l] at h
  rw [l]
  revert h
  cases hbb : b (ds.map some ++ List.replicate (N.length - ps.length) none) S1 with
  | nx ρ S2 => exact fun h w' H' σ' e s' en => h w' H' _ e s' rp_n
  | rt d S2 => exact fun h w' H' v e s' r' => h w' H' v e s' r'
  | ex x ρ S2 => exact fun h w' H' σ' c od e s' en ex => h w' H' c od e s' ex
  | bk ρ S2 => exact fun h => h.elim
  | ct ρ S2 => exact fun h => h.elim
  | no => exact fun h => h.elim
theorem fun_look {x qual : Str} {st : Stmt} {f : Addr} {fd : FuncData} (F : Fun K x qual st f fd) : ∃ oc od osl, K.lookup f = some ⟨oc, od, .func fd, osl⟩ := by
  obtain ⟨oc, od, kV, doc, pm, an, cdv, ct, osl, rfl, lk, hcd⟩ := F.ex
  exact ⟨oc, od, osl, lk⟩
theorem fun_names {x qual : Str} {st : Stmt} {f : Addr} {fd : FuncData} (F : Fun K x qual st f fd) : fd.params.args.map (·.arg) = (defArgs st).args.map (·.arg) := by
  obtain ⟨oc, od, kV, doc, pm, an, cdv, ct, osl, rfl, lk, hcd⟩ := F.ex
  rfl
theorem spF_cut [Wo] {m : Nat} {f : FF} {k : Nat} {a : Addr} {fd : FuncData} {ps : List Str} (F : FnG P w K mg base k a fd ps (spF K mg m f)) : FnG P w K mg base k a fd ps (spF K mg m (fun ds S => cutR S (f ds S))) :=
  F.weak fun vs H Q E ⟨w1, S1, ds, s1, r1, l, h⟩ => ⟨w1, S1, ds, s1, r1, l, h.cutE s1⟩
theorem fnB_ar {m n : Nat} {b : FS} : ∀ ds S, ds.length ≠ m → fnB m n b ds S = .no := fun ds S h => by unfold fnB; rw [if_neg h]
theorem fnC_ar {m n : Nat} {b : FS} : ∀ ds S, ds.length ≠ m → fnC m n b ds S = .no := fun ds S h => by unfold fnC; rw [fnB_ar ds S h]; rfl
theorem cal_B [Wo] {x : Str} {st : Stmt} {f : Addr} {fd : FuncData} {N ps : List Str} {k : Nat} {b : FS} (F : Fun K x x st f fd) (S : FnScope N ps (defScope st)) (hm : mg x = some (.ref f)) (hbd : Binds K fd ps []) (hps : ps = (defArgs st).args.map (·.arg))
    (hb : ∀ (cdv : Value) (A : Around) (outer : List Env) (s : Shared) (H : Hp) (E : XK), RoomG k (A.deeper (envOfC x (defScope st) s.heap.objs.size f cdv)) →
      PSs (cxOf (L2.CX P w) P w K mg base N x (defScope st) f cdv A outer s H E) (defBody st) (tS (cxOf (L2.CX P w) P w K mg base N x (defScope st) f cdv A outer s H E) (fun c d _ H => E c d H) b)) :
    Cal P w K mg base (k + 1) x (fnB ps.length N.length b) := ⟨f, fd, ps, fn_ok F S hb, hm, F.kp, hbd, fnB_ar, hps.trans (fun_names F).symm, fun_look F⟩
theorem cal_C [Wo] {x : Str} {st : Stmt} {f : Addr} {fd : FuncData} {N ps : List Str} {k : Nat} {b : FS} (F : Fun K x x st f fd) (S : FnScope N ps (defScope st)) (hm : mg x = some (.ref f)) (hbd : Binds K fd ps []) (hps : ps = (defArgs st).args.map (·.arg))
    (hb : ∀ (cdv : Value) (A : Around) (outer : List Env) (s : Shared) (H : Hp) (E : XK), RoomG k (A.deeper (envOfC x (defScope st) s.heap.objs.size f cdv)) →
      PSs (cxOf (L2.CX P w) P w K mg base N x (defScope st) f cdv A outer s H E) (defBody st) (tS (cxOf (L2.CX P w) P w K mg base N x (defScope st) f cdv A outer s H E) (fun c d _ H => E c d H) b)) :
    Cal P w K mg base (k + 1) x (fnC ps.length N.length b) := ⟨f, fd, ps, spF_cut (fn_ok F S hb), hm, F.kp, hbd, fnC_ar, hps.trans (fun_names F).symm, fun_look F⟩
end
end Kw
namespace Kw
open PySem PySem.Spec PyProof.Rows L2
structure Mv (w : Wd) (H : Hp) (w' : Wd) (H' : Hp) : Prop where
  fr : ∀ a o, H a = some o → w.Off a → H' a = some o ∧ w'.Off a
  ln : w.φ.length ≤ w'.φ.length
  ph : ∀ (n : Nat) a, w'.φ[n]? = some (some a) → n < w.φ.length → w.φ[n]? = some (some a)
section
variable {K : PySem.W.Frag} {mg : Str → Option Value} {w w' w'' : Wd} {H H' H'' : Hp} {S : Store}
mutual
theorem Rp.mv (e : Mv w H w' H') : ∀ (d : D) (v : V), Rp K mg w H d v → Rp K mg w' H' d v
  | .non, _, h => by unfold Rp at h ⊢; exact h
  | .bl _, _, h => by unfold Rp at h ⊢; exact h
  | .int _, _, h => by unfold Rp at h ⊢; exact h
  | .str _, _, h => by unfold Rp at h ⊢; exact h
  | .tup ds, v, h => by
    unfold Rp at h ⊢
    obtain ⟨a, xs, e1, t, r⟩ := h
    refine ⟨a, xs, e1, ?_, RpL.mv e ds xs r⟩
    rcases t with ⟨t, n⟩ | t
    · exact .inl (e.fr _ _ t n)
    · exact .inr t
  | .lst ds, v, h => by
    unfold Rp at h ⊢
    obtain ⟨a, xs, e1, t, n, r⟩ := h
    exact ⟨a, xs, e1, (e.fr _ _ t n).1, (e.fr _ _ t n).2, RpL.mv e ds xs r⟩
  | .dic ks ds, v, h => by
    unfold Rp at h ⊢
    obtain ⟨a, vs, e1, t, n, l, r⟩ := h
    exact ⟨a, vs, e1, (e.fr _ _ t n).1, (e.fr _ _ t n).2, l, RpL.mv e ds vs r⟩
  | .ins c fs ds, v, h => by
    unfold Rp at h ⊢
    obtain ⟨a, C, dx, vs, e1, m, t, n, l, r⟩ := h
    exact ⟨a, C, dx, vs, e1, m, (e.fr _ _ t n).1, (e.fr _ _ t n).2, l, RpL.mv e ds vs r⟩
  | .loc n, v, h => by
    unfold Rp at h ⊢
    exact ⟨Nat.lt_of_lt_of_le h.1 e.ln, fun a q => h.2 a (e.ph n a q h.1)⟩
  | .glo _, _, h => by unfold Rp at h ⊢; exact h
  | .exn _, _, h => by unfold Rp at h ⊢; exact h
  | .lam i q ob, v, h => by
    unfold Rp at h ⊢
    obtain ⟨f, c', pm, ctv, e1, t, n, t2, n2⟩ := h
    exact ⟨f, c', pm, ctv, e1, (e.fr _ _ t n).1, (e.fr _ _ t n).2, (e.fr _ _ t2 n2).1, (e.fr _ _ t2 n2).2⟩
  | .exo c ns ds, v, h => by
    unfold Rp at h ⊢
    obtain ⟨a, C, od, vs, e1, m, t, n, z, q, l, r⟩ := h
    exact ⟨a, C, od, vs, e1, m, (e.fr _ _ t n).1, (e.fr _ _ t n).2, z, fun d hd => ⟨(e.fr _ _ (q d hd).1 (q d hd).2).1, (e.fr _ _ (q d hd).1 (q d hd).2).2⟩, l, RpL.mv e ds vs r⟩
  | .fls ds, v, h => by
    unfold Rp at h ⊢
    obtain ⟨a, xs, e1, t, r⟩ := h
    refine ⟨a, xs, e1, ?_, RpL.mv e ds xs r⟩
    rcases t with ⟨o, t, n⟩ | t
    · exact .inl ⟨o, e.fr _ _ t n⟩
    · exact .inr t
theorem RpL.mv (e : Mv w H w' H') : ∀ (ds : List D) (vs : List V), RpL K mg w H ds vs → RpL K mg w' H' ds vs
  | [], _, h => by unfold RpL at h ⊢; exact h
  | d :: ds, vs, h => by
    unfold RpL at h ⊢
    obtain ⟨v, r, e1, h1, h2⟩ := h
    exact ⟨v, r, e1, Rp.mv e d v h1, RpL.mv e ds r h2⟩
end
theorem EnvR.mv {ρ : FEnv} {σ : L2.St} (e : Mv w H w' H') (h : EnvR K mg w H ρ σ) : EnvR K mg w' H' ρ σ := ⟨h.len, fun i d q => by
  obtain ⟨v, h1, h2⟩ := h.at_ i d q
  exact ⟨v, h1, Rp.mv e _ _ h2⟩⟩
theorem TabW.mv {P : Addr} {q : Str} (m : Mv w H w' H') (hP : H' P = H P) (h : TabW w H P q) : TabW w' H' P q := by
  obtain ⟨ps, h1, h2, h3⟩ := h
  refine ⟨ps, by rw [hP]; exact h1, h2, fun pos cv hc => ?_⟩
  obtain ⟨c, e1, e2, e3⟩ := h3 pos cv hc
  exact ⟨c, e1, m.fr _ _ e2 e3⟩
theorem dct_mv {es : DEnt} (e : Mv w H w' H') (h : ∀ x ∈ es, x.1.depth ≤ 8 ∧ ∃ d, keyOf d = some x.1 ∧ Rp K mg w H d x.2.1) : ∀ x ∈ es, x.1.depth ≤ 8 ∧ ∃ d, keyOf d = some x.1 ∧ Rp K mg w' H' d x.2.1 := fun x hx =>
  ⟨(h x hx).1, let ⟨d, q1, q2⟩ := (h x hx).2; ⟨d, q1, Rp.mv e _ _ q2⟩⟩
theorem Ext.mv (e : Ext w H w' H') : Mv w H w' H' := ⟨fun a o h n => ⟨e.fr a o h n.1, e.out h n⟩, e.ln, e.ph⟩
theorem Mv.trans (a : Mv w H w' H') (b : Mv w' H' w'' H'') : Mv w H w'' H'' :=
  ⟨fun c o h n => b.fr c o (a.fr c o h n).1 (a.fr c o h n).2, Nat.le_trans a.ln b.ln, fun n c h l => a.ph n c (b.ph n c h (Nat.lt_of_lt_of_le l a.ln)) l⟩
theorem Mv.refl : Mv w H w H := Ext.refl.mv
/-- the object at C is built, hidden -/
structure ExtD (C : Addr) (w : Wd) (H : Hp) (w' : Wd) (H' : Hp) : Prop where
  c0 : H C = none
  fr : ∀ a o, a ≠ C → H a = some o → some a ∉ w.φ → H' a = some o
  ln : w.φ.length ≤ w'.φ.length
  ph : ∀ (n : Nat) a, w'.φ[n]? = some (some a) → n < w.φ.length → w.φ[n]? = some (some a)
  nw : ∀ a, some a ∈ w'.φ → some a ∈ w.φ ∨ H a = none
  hd : w'.hd = C :: w.hd
theorem ExtD.step {C : Addr} (a : ExtD C w H w' H') (b : Ext w' H' w'' H'') : ExtD C w H w'' H'' where
  c0 := a.c0
  fr := fun c o hc h n => b.fr c o (a.fr c o hc h n) fun z => by
    rcases a.nw c z with z | z
    · exact n z
    · rw [h] at z; cases z
  ln := Nat.le_trans a.ln b.ln
  ph := fun n c h l => a.ph n c (b.ph n c h (Nat.lt_of_lt_of_le l a.ln)) l
  nw := fun c h => by
    rcases b.nw c h with z | z
    · exact a.nw c z
    · by_cases q : some c ∈ w.φ
      · exact .inl q
      · cases e : H c with
        | none => exact .inr rfl
        | some o =>
          have hc : c ≠ C := fun z => by subst z; rw [a.c0] at e; cases e
          rw [a.fr c o hc e q] at z; cases z
  hd := b.hd.trans a.hd
theorem ExtD.poke {C : Addr} {o : HO} (a : ExtD C w H w' H') : ExtD C w H w' (upd H' C o) := ⟨a.c0, fun c u hc h n => by rw [upd_ne hc]; exact a.fr c u hc h n, a.ln, a.ph, a.nw, a.hd⟩
theorem ExtD.mv {C : Addr} (a : ExtD C w H w' H') : Mv w H w' H' := ⟨fun c o h n => by
  have hc : c ≠ C := fun z => by subst z; rw [a.c0] at h; cases h
  refine ⟨a.fr c o hc h n.1, fun z => ?_, fun z => ?_⟩
  · rcases a.nw c z with z | z
    · exact n.1 z
    · rw [h] at z; cases z
  · rw [a.hd] at z
    rcases List.mem_cons.mp z with z | z
    · exact hc z
    · exact n.2 z, a.ln, a.ph⟩
theorem ExtD.begin_ {C : Addr} {o : HO} (hC : H C = none) : ExtD C w H ⟨w.φ, C :: w.hd⟩ (upd H C o) := ⟨hC, fun a u e h _ => by rw [upd_ne e]; exact h, Nat.le_refl _, fun _ _ h _ => h, fun _ h => .inl h, rfl⟩
theorem ExtD.done {C : Addr} (a : ExtD C w H w' H') : Ext w H ⟨w'.φ, w.hd⟩ H' := ⟨fun c o h n => a.fr c o (fun z => by subst z; rw [a.c0] at h; cases h) h n, a.ln, a.ph, a.nw, rfl⟩
theorem Sto.mvd [Wo] {C : Addr} (s : Sto K mg w S H) (hC : H C = none) {o : HO} : Sto K mg ⟨w.φ, C :: w.hd⟩ S (upd H C o) := by
  have m : Mv w H ⟨w.φ, C :: w.hd⟩ (upd H C o) := (ExtD.begin_ hC).mv
  refine ⟨s.len, s.nd, fun a ha => ?_, fun n c hc => ?_⟩
  · rcases List.mem_cons.mp ha with e | ha
    · subst e; exact ⟨by rw [upd_same]; exact fun z => (nomatch z), (s.new hC).1⟩
    · exact ⟨upd_some (s.ap a ha).1, (s.ap a ha).2⟩
  · have c0 := s.cell n c hc
    have ne : ∀ a, w.φ[n]? = some (some a) → upd H C o a = H a := fun a ha => upd_ne fun z => by subst z; exact (s.new hC).1 (List.mem_of_getElem? ha)
    unfold CellR at c0 ⊢
    split at c0
    · obtain ⟨b, xs, h2, h3, h4⟩ := c0; exact ⟨b, xs, h2, by rw [ne b h2]; exact h3, RpL.mv m _ _ h4⟩
    · obtain ⟨b, xs, o', h2, h3, h4⟩ := c0; exact ⟨b, xs, o', h2, by rw [ne b h2]; exact h3, RpL.mv m _ _ h4⟩
    · exact c0
    · obtain ⟨c1, P, ht, t1, t2⟩ := c0; exact ⟨c1, P, ht, t1, TabW.mv m (ne _ t1) t2⟩
    · obtain ⟨h1, h2, h3, ⟨φ, h4, h6⟩, h5⟩ := c0
      exact ⟨h1, List.mem_cons_of_mem _ h2, h3, ⟨φ, by rw [upd_ne (fun z => by rw [z, hC] at h4; cases h4)]; exact h4, h6⟩, h5⟩
    · exact ⟨c0.1, EnvR.mv m c0.2⟩
    · obtain ⟨b, C1, dx, vs, h2, h3, h4, h5, h6⟩ := c0; exact ⟨b, C1, dx, vs, h2, h3, by rw [ne b h2]; exact h4, h5, RpL.mv m _ _ h6⟩
    · obtain ⟨b, es, h2, h3, h4, h5, h6, h7⟩ := c0; exact ⟨b, es, h2, by rw [ne b h2]; exact h3, h4, h5, dct_mv m h6, RpL.mv m _ _ h7⟩
theorem Mv.poke {C : Addr} {o : HO} (hC : C ∈ w.hd) : Mv w H w (upd H C o) := ⟨fun a u h n => ⟨by rw [upd_ne (fun z => by subst z; exact n.2 hC)]; exact h, n⟩, Nat.le_refl _, fun _ _ h _ => h⟩
theorem Sto.poke [Wo] {C : Addr} {o : HO} (s : Sto K mg w S H) (hC : C ∈ w.hd) (hx : ∃ xs, H C = some (.lst xs)) : Sto K mg w S (upd H C o) := by
  have m : Mv w H w (upd H C o) := Mv.poke hC
  refine ⟨s.len, s.nd, fun a ha => ⟨upd_some (s.ap a ha).1, (s.ap a ha).2⟩, fun n c hc => ?_⟩
  have c0 := s.cell n c hc
  have ne : ∀ a, w.φ[n]? = some (some a) → upd H C o a = H a := fun a ha => upd_ne fun z => by subst z; exact (s.ap a hC).2 (List.mem_of_getElem? ha)
  unfold CellR at c0 ⊢
  split at c0
  · obtain ⟨b, xs, h2, h3, h4⟩ := c0; exact ⟨b, xs, h2, by rw [ne b h2]; exact h3, RpL.mv m _ _ h4⟩
  · obtain ⟨b, xs, o', h2, h3, h4⟩ := c0; exact ⟨b, xs, o', h2, by rw [ne b h2]; exact h3, RpL.mv m _ _ h4⟩
  · exact c0
  · obtain ⟨c1, P, ht, t1, t2⟩ := c0; exact ⟨c1, P, ht, t1, TabW.mv m (ne _ t1) t2⟩
  · obtain ⟨h1, h2, h3, ⟨φ, h4, h6⟩, h5⟩ := c0
    obtain ⟨xs, hx⟩ := hx
    exact ⟨h1, h2, h3, ⟨φ, by rw [upd_ne (fun z => by rw [z, hx] at h4; cases h4)]; exact h4, h6⟩, h5⟩
  · exact ⟨c0.1, EnvR.mv m c0.2⟩
  · obtain ⟨b, C1, dx, vs, h2, h3, h4, h5, h6⟩ := c0; exact ⟨b, C1, dx, vs, h2, h3, by rw [ne b h2]; exact h4, h5, RpL.mv m _ _ h6⟩
  · obtain ⟨b, es, h2, h3, h4, h5, h6, h7⟩ := c0; exact ⟨b, es, h2, by rw [ne b h2]; exact h3, h4, h5, dct_mv m h6, RpL.mv m _ _ h7⟩
theorem Mv.show {C : Addr} {h0 : List Addr} (e : w.hd = C :: h0) : Mv w H ⟨w.φ, h0⟩ H := ⟨fun a o h n => ⟨h, n.1, fun z => n.2 (by rw [e]; exact List.mem_cons_of_mem _ z)⟩, Nat.le_refl _, fun _ _ h _ => h⟩
theorem Sto.show [Wo] {C : Addr} {h0 : List Addr} (s : Sto K mg w S H) (e : w.hd = C :: h0) (hx : ∃ xs, H C = some (.lst xs)) : Sto K mg ⟨w.φ, h0⟩ S H := by
  have m : Mv w H ⟨w.φ, h0⟩ H := Mv.show e
  refine ⟨s.len, s.nd, fun a ha => s.ap a (by rw [e]; exact List.mem_cons_of_mem _ ha), fun n c hc => ?_⟩
  have c0 := s.cell n c hc
  unfold CellR at c0 ⊢
  split at c0
  · obtain ⟨b, xs, h2, h3, h4⟩ := c0; exact ⟨b, xs, h2, h3, RpL.mv m _ _ h4⟩
  · obtain ⟨b, xs, o', h2, h3, h4⟩ := c0; exact ⟨b, xs, o', h2, h3, RpL.mv m _ _ h4⟩
  · exact c0
  · obtain ⟨c1, P, ht, t1, t2⟩ := c0; exact ⟨c1, P, ht, t1, TabW.mv m rfl t2⟩
  · obtain ⟨h1, h2, h3, ⟨φ, h4, h6⟩, h5⟩ := c0
    obtain ⟨xs, hx⟩ := hx
    refine ⟨h1, ?_, h3, ⟨φ, h4, h6⟩, h5⟩
    rw [e] at h2
    rcases List.mem_cons.mp h2 with z | z
    · rw [z, hx] at h4; cases h4
    · exact z
  · exact ⟨c0.1, EnvR.mv m c0.2⟩
  · obtain ⟨b, C1, dx, vs, h2, h3, h4, h5, h6⟩ := c0; exact ⟨b, C1, dx, vs, h2, h3, h4, h5, RpL.mv m _ _ h6⟩
  · obtain ⟨b, es, h2, h3, h4, h5, h6, h7⟩ := c0; exact ⟨b, es, h2, h3, h4, h5, dct_mv m h6, RpL.mv m _ _ h7⟩
end
abbrev FG := D → FEnv → Store → Option (FEnv × Store)
abbrev FGs := List D → FEnv → Store → Option (FEnv × Store)
def GOk [Wo] (X : Cx) (w : Wd) (H : Hp) (sl : List Nat) (σ : L2.St) (r : Option (FEnv × Store)) (Q : L2.St → Hp → Prop) : Prop := match r with
  | some (ρ', S') => ∀ w' H' σ', Ext w H w' H' → Sto X.K X.mg w' S' H' → EnvR X.K X.mg w' H' ρ' σ' → (∀ i, i ∉ sl → σ'[i]? = σ[i]?) → σ'.length = σ.length → Q σ' H'
  | none => False
def tG [Wo] (X : Cx) (sl : List Nat) (g : FG) : TG := fun v σ H Q => ∃ w ρ S d, Sto X.K X.mg w S H ∧ EnvR X.K X.mg w H ρ σ ∧ Rp X.K X.mg w H d v ∧ GOk X w H sl σ (g d ρ S) Q
def tGs [Wo] (X : Cx) (sl : List Nat) (g : FGs) : TGs := fun vs σ H Q => ∃ w ρ S ds, Sto X.K X.mg w S H ∧ EnvR X.K X.mg w H ρ σ ∧ RpL X.K X.mg w H ds vs ∧ GOk X w H sl σ (g ds ρ S) Q
theorem PG.wk {X : Cx} {e : Expr} {t t' : TG} (h : PG X e t) (m : ∀ v σ H Q, t' v σ H Q → t v σ H Q) : PG X e t' := ⟨fun pins s σ H v u Q I r k => h.run pins s σ H v u Q I r (m v σ H Q k)⟩
theorem PGs.wk {X : Cx} {e : List Expr} {t t' : TGs} (h : PGs X e t) (m : ∀ v σ H Q, t' v σ H Q → t v σ H Q) : PGs X e t' := ⟨fun pins s σ H v u Q I r k => h.run pins s σ H v u Q I r (m v σ H Q k)⟩
def gN (i : Nat) : FG := fun d ρ S => some (ρ.set i (some d), S)
def gsNil : FGs := fun ds ρ S => match ds with
  | [] => some (ρ, S)
  | _ => none
def gsCons (g : FG) (gs : FGs) : FGs := fun ds ρ S => match ds with
  | d :: r => (match g d ρ S with
    | some (ρ1, S1) => gs r ρ1 S1
    | none => none)
  | [] => none
def gTu (n : Nat) (gs : FGs) : FG := fun d ρ S => match d with
  | .tup ds => if ds.length = n then gs ds ρ S else none
  | _ => none
def gSetI (o i d : D) (S : Store) : Option Store := match o, i with
  | .loc n, .int k => (match cellM S n with
    | some xs => (match ixN xs.length k with
      | some j => some (S.set n (.lst (xs.set j d)))
      | none => none)
    | none => none)
  | _, _ => none
def gSb (fo fi : FE) : FG := fun d ρ S => match fo ρ S with
  | .ok o S1 => (match fi ρ S1 with
    | .ok i S2 => (match gSetI o i d S2 with
      | some S3 => some (ρ, S3)
      | none => none)
    | _ => none)
  | _ => none
section
variable {X : Cx} {W : WX} {pos : Pos} {e : Expr} {es : List Expr}
theorem GOk.imp [Wo] {w : Wd} {H : Hp} {sl sl' : List Nat} {σ : L2.St} {r : Option (FEnv × Store)} {Q Q' : L2.St → Hp → Prop} (h : GOk X w H sl σ r Q) (hs : ∀ i, i ∉ sl → i ∉ sl') (hq : ∀ σ H, Q σ H → Q' σ H) : GOk X w H sl' σ r Q' := by
  unfold GOk at h ⊢
  split
  · intro w' H' σ' e s en k l
    exact hq _ _ (h w' H' σ' e s en (fun i hi => k i (hs i hi)) l)
  · exact h
theorem q_gn [Wo] {i : Nat} {x : Str} (hN : X.N.Nodup) (hi : X.N[i]? = some x) (hx : Loc X.env.scope x) (hf : X.fn x = true ∨ X.env.scope.names.lookup x = some .local := by first | exact .inl rfl | exact .inr rfl | assumption) : PG X (.Name x pos) (tG X [i] (gN i)) :=
  PG.wk (pg_name hN hi hx hf) fun v σ H Q ⟨w, ρ, S, d, s, en, r, h⟩ => h w H _ Ext.refl s (en.set r) (fun j hj => by
    rw [List.getElem?_set_ne (fun z => hj (by rw [z]; exact List.mem_singleton.mpr rfl))]) (by rw [List.length_set])
theorem q_gsnil [Wo] : PGs X [] (tGs X [] gsNil) := PGs.wk pgs_nil fun v σ H Q ⟨w, ρ, S, ds, s, en, r, h⟩ => by
  unfold gsNil at h
  split at h
  · unfold RpL at r
    exact ⟨r, h w H σ Ext.refl s en (fun _ _ => rfl) rfl⟩
  · exact h.elim
theorem q_gscons [Wo] {g : FG} {gs : FGs} {sl sl2 : List Nat} (h1 : PG X e (tG X sl g)) (h2 : PGs X es (tGs X sl2 gs)) (hs : (assignEach (e :: es) X.env).map (·.2) = assign e X.env :: (assignEach es X.env).map (·.2) := by rfl) : PGs X (e :: es) (tGs X (sl ++ sl2) (gsCons g gs)) :=
  PGs.wk (pgs_cons h1 h2 hs) fun vs σ H Q ⟨w, ρ, S, ds, s, en, r, h⟩ => by
    unfold gsCons at h
    split at h
    · rename_i d ds'
      unfold RpL at r
      obtain ⟨v, vs', e1, r1, r2⟩ := r
      refine ⟨v, vs', e1, w, ρ, S, d, s, en, r1, ?_⟩
      split at h
      · rename_i ρ1 S1 hg
        rw [hg]
        intro w' H' σ' ex s' en' k l
        refine ⟨w', ρ1, S1, ds', s', en', RpL.ext ex _ _ r2, ?_⟩
        unfold GOk at h ⊢
        split at h
        · intro w2 H2 σ2 ex2 s2 en2 k2 l2
          exact h w2 H2 σ2 (ex.trans ex2) s2 en2 (fun i hi => by
            rw [k2 i (fun z => hi (List.mem_append_right _ z)), k i (fun z => hi (List.mem_append_left _ z))]) (l2.trans l)
        · exact h
      · exact h.elim
    · exact h.elim
theorem q_gtu [Wo] {k n : Nat} {gs : FGs} {sl : List Nat} (hc : X.calm = true) (h : PGs X es (tGs X sl gs)) (hn : (assignEach es X.env).length = n := by rfl) (hst : (assignEach es X.env).findIdx? (·.1) = none := by rfl) : PG X (.Tuple es k pos) (tG X sl (gTu n gs)) :=
  PG.wk (pg_tup hc h hn hst) fun v σ H Q ⟨w, ρ, S, d, s, en, r, h⟩ => by
    unfold gTu at h
    split at h
    · rename_i ds
      split at h
      · rename_i hl
        obtain ⟨a, xs, e1, t1, q1⟩ := tup_at r
        exact ⟨a, xs, e1, t1, by rw [← q1.length]; exact hl, w, ρ, S, ds, s, en, q1, h⟩
      · exact h.elim
    · exact h.elim
theorem setI_at [Wo] {w : Wd} {S S' : Store} {H : Hp} {o i d : D} {ov iv v : V} (s : Sto X.K X.mg w S H) (ro : Rp X.K X.mg w H o ov) (ri : Rp X.K X.mg w H i iv) (rd : Rp X.K X.mg w H d v) (h : gSetI o i d S = some S') {Q : Hp → Prop} (hq : ∀ H', Ext w H w H' → Sto X.K X.mg w S' H' → Q H') : rSetL ov iv v H Q := by
  unfold gSetI at h
  split at h
  · rename_i n k
    split at h
    · rename_i xs hx
      split at h
      · rename_i j hj
        cases h
        obtain ⟨a, vs, h1, h2, h3⟩ := cellM_at s hx
        unfold Rp at ro
        refine ⟨a, vs, k, j, ro.2 a h1, rp_int ri, h2, by rw [← h3.length]; exact hj, hq _ (Ext.write h1) (s.write h1 (cellM_lt hx) (h3.set j rd))⟩
      · cases h
    · cases h
  · cases h
theorem q_gsb [Wo] {o i : Expr} {fo fi : FE} (ho : PE X o (tF X W fo)) (hi : PE X i (tF X W fi)) (ha : ∀ v, assign (.Subscript o i pos) X.env v = (do
      let ov ← holding [v] (eval o X.env)
      let iv ← holding [v, ov] (eval i X.env)
      standAt pos
      holding [v, ov, iv] (setItem ov iv v)
      release [v, ov, iv] []) := by intro _; rfl) : PG X (.Subscript o i pos) (tG X [] (gSb fo fi)) :=
  PG.wk (pg_sub ho hi set_list ha) fun v σ H Q ⟨w, ρ, S, d, s, en, r, h⟩ => by
    unfold gSb at h
    split at h
    · rename_i od S1 h1
      split at h
      · rename_i id S2 h2
        split at h
        · rename_i S3 h3
          refine ⟨w, ρ, S, s, en, ?_⟩
          rw [h1]
          intro w1 H1 ov e1 s1 r1
          refine ⟨w1, ρ, S1, s1, en.ext e1, ?_⟩
          rw [h2]
          intro w2 H2 iv e2 s2 r2
          have ex := e1.trans e2
          refine setI_at s2 (Rp.ext e2 _ _ r1) r2 (Rp.ext ex _ _ r) h3 fun H3 e3 s3 => ?_
          exact h w2 H3 σ (ex.trans e3) s3 (en.ext (ex.trans e3)) (fun _ _ => rfl) rfl
        · exact h.elim
      · exact h.elim
    · exact h.elim
/-- target = value -/
def sAsg (f : FE) (g : FG) : FS := fun ρ S => (f ρ S).toS ρ fun d S1 => match g d ρ S1 with
  | some (ρ', S') => .nx ρ' S'
  | none => .no
theorem q_asg [Wo] {tg : Expr} {fe : FE} {g : FG} {sl : List Nat} (he : PE X e (tF X W fe)) (hg : PG X tg (tG X sl g)) (hs : swapsWithSole [tg] e pos.line X.env = pure false := by rfl) (hw : swappedStores [tg] e X.env = pure none := by rfl) (h1 : (assignEach [tg] X.env).map (·.2) = [assign tg X.env] := by rfl) : PS X (.Assign [tg] e pos) (tS X W (sAsg fe g)) :=
  PS.wk (ps_asg he hg hs hw h1) fun D σ H ⟨w, ρ, S, s, en, h⟩ => ⟨w, ρ, S, s, en, (h.of (R := fun w H => Rp X.K X.mg w H) en).imp (fun v H1 ⟨w1, S1, d, e1, s1, r1, h1⟩ => by
    refine ⟨w1, ρ, S1, d, s1, en.ext e1, r1, ?_⟩
    split at h1
    · rename_i ρ' S' hg'
      rw [hg']
      intro w2 H2 σ2 e2 s2 en2 _ _
      exact h1 w2 H2 σ2 e2 s2 en2
    · exact h1.elim) (fun _ _ _ z => z)⟩
/-- a, b = x, y -/
def sPar (i j : Nat) (f : FA) : FS := fun ρ S => (f ρ S).toS ρ fun ds S1 => match ds with
  | [x, y] => .nx ((ρ.set i (some x)).set j (some y)) S1
  | _ => .no
end
abbrev Its' := List D × Option (Nat × List D)
/-- the list that is walked is as it was -/
def gd (g : Option (Nat × List D)) (S : Store) : Prop := match g with
  | none => True
  | some (n, ds) => cellOf S n = some ds
open Classical in
noncomputable def gchk (g : Option (Nat × List D)) (S : Store) {α : Type} (a b : α) : α := if gd g S then a else b
def ItOk [Wo] (K : PySem.W.Frag) (mg : Str → Option Value) (w : Wd) (H : Hp) (p : Its') (J : It) : Prop :=
  ∀ w' S' H', Mv w H w' H' → Sto K mg w' S' H' → gd p.2 S' → (∀ i, p.1.length ≤ i → J.stop i H') ∧ ∀ i d, p.1[i]? = some d → J.go i H' ∧ ∀ x H'', J.yld i H' x H'' → Ext w' H' w' H'' ∧ Sto K mg w' S' H'' ∧ Rp K mg w' H'' d x
abbrev FI := FEnv → Store → RE Its'
def tI [Wo] (X : Cx) (W : WX) (f : FI) : TI := fun σ H R => ∃ w ρ S, Sto X.K X.mg w S H ∧ EnvR X.K X.mg w H ρ σ ∧ End X.K X.mg (ItOk X.K X.mg) w H (f ρ S) R (fun c od H' => W c od σ H')
theorem PI.wk {X : Cx} {tg e : Expr} {t t' : TI} (h : PI X tg e t) (m : ∀ σ H R, t' σ H R → t σ H R) : PI X tg e t' := ⟨fun pins s σ H R I k => h.run pins s σ H R I (m σ H R k)⟩
/-- a list or a tuple -/
def iSeq (S : Store) : D → Option Its'
  | .lst ds => some (ds, none)
  | .fls ds => some (ds, none)
  | .loc n => (cellOf S n).map fun ds => (ds, some (n, ds))
  | _ => none
def fiL (f : FE) : FI := fun ρ S => (f ρ S).bnd fun x S1 => match iSeq S1 x with
  | some p => .ok p S1
  | none => .no
def fiT (f : FE) : FI := fun ρ S => (f ρ S).bnd fun x S1 => match x with
  | .tup ds => .ok (ds, none) S1
  | _ => .no
def chrs (z : Str) : List D := z.cps.toList.map fun c => .str ⟨#[c]⟩
def fiS (f : FE) : FI := fun ρ S => (f ρ S).bnd fun x S1 => match x with
  | .str z => .ok (chrs z, none) S1
  | _ => .no
def rngD (lo : Int) : Nat → List D
  | 0 => []
  | n + 1 => .int lo :: rngD (lo + 1) n
def fiR1 (f : FA) : FI := fun ρ S => (f ρ S).bnd fun ds S1 => match ds with
  | [.int j] => if -(2 ^ 62) ≤ j ∧ j < 2 ^ 62 then .ok (rngD 0 j.toNat, none) S1 else .no
  | _ => .no
def enumD : Nat → List D → List D
  | _, [] => []
  | i, d :: r => .tup [.int i, d] :: enumD (i + 1) r
def fiE (f : FA) : FI := fun ρ S => (f ρ S).bnd fun ds S1 => match ds with
  | [x] => (match iSeq S1 x with
    | some (xs, g) => .ok (enumD 0 xs, g) S1
    | none => .no)
  | _ => .no
section
variable {K : PySem.W.Frag} {mg : Str → Option Value} {w w' : Wd} {H H' : Hp} {S S' : Store}
/-- a walked list, at any later time -/
theorem iSeq_at [Wo] {x : D} {v : V} {p : Its'} (s : Sto K mg w S H) (r : Rp K mg w H x v) (h : iSeq S x = some p) : ∃ a, v = .ref a ∧ (∃ xs, SqL K H a xs) ∧
    ∀ w' S' H', Mv w H w' H' → Sto K mg w' S' H' → gd p.2 S' → ∃ xs, SqL K H' a xs ∧ RpL K mg w' H' p.1 xs := by
  cases x <;> simp only [iSeq] at h <;> try (cases h; done)
  · cases h
    unfold Rp at r
    obtain ⟨a, xs, e, t, o, q⟩ := r
    refine ⟨a, e, ⟨xs, .of t⟩, fun w' S' H' m s' _ => ?_⟩
    obtain ⟨t', o'⟩ := m.fr a _ t o
    exact ⟨xs, .of t', RpL.mv m _ _ q⟩
  · rename_i n
    simp only [Option.map_eq_some_iff] at h
    obtain ⟨ds, h1, h2⟩ := h
    subst h2
    obtain ⟨a, xs, h3, h4, h5⟩ := cellOf_at s h1
    unfold Rp at r
    refine ⟨a, r.2 a h3, ⟨xs, .inl h4⟩, fun w' S' H' m s' g => ?_⟩
    obtain ⟨b, ys, k3, k4, k5⟩ := cellOf_at s' (show cellOf S' n = some ds from g)
    have := m.ph n b k3 r.1
    rw [h3] at this
    cases this
    exact ⟨ys, .inl k4, k5⟩
  · cases h
    unfold Rp at r
    obtain ⟨a, xs, e, t, q⟩ := r
    refine ⟨a, e, ⟨xs, t.sq⟩, fun w' S' H' m s' _ => ?_⟩
    have t' : Fp K w' H' a xs := by
      rcases t with ⟨o, t, n⟩ | t
      · exact .inl ⟨o, m.fr _ _ t n⟩
      · exact .inr t
    exact ⟨xs, t'.sq, RpL.mv m _ _ q⟩
theorem Rd.inj {a : Addr} {u u' : HO} (h : Rd H a u) (h' : Rd H a u') (n : ∀ o q, u ≠ .frz o q) (n' : ∀ o q, u' ≠ .frz o q) : u = u' := by
  rcases h with h | ⟨o, h⟩ <;> rcases h' with h' | ⟨o', h'⟩
  · rw [h] at h'; cases h'; rfl
  · rw [h] at h'; cases h'; exact absurd rfl (n _ _)
  · rw [h] at h'; cases h'; exact absurd rfl (n' _ _)
  · rw [h] at h'; cases h'; rfl
theorem itl_ok [Wo] {x : D} {v : V} {p : Its'} (s : Sto K mg w S H) (r : Rp K mg w H x v) (h : iSeq S x = some p) {R : It → Hp → Prop} {E : Value → Option Addr → Hp → Prop} (he : End K mg (ItOk K mg) w H (.ok p S) R E) : ∃ a, v = .ref a ∧ (∃ xs, SqL K H a xs) ∧ R (Itl K a) H := by
  obtain ⟨a, e, ex, k⟩ := iSeq_at s r h
  refine ⟨a, e, ex, he w H _ Ext.refl s fun w' S' H' m s' g => ?_⟩
  obtain ⟨xs, q1, q2⟩ := k w' S' H' m s' g
  refine ⟨fun i hi => ⟨xs, q1, by rw [← q2.length]; exact hi⟩, fun i d hd => ?_⟩
  obtain ⟨u, h1, h2⟩ := q2.get hd
  refine ⟨⟨xs, u, q1, h1⟩, fun y H'' hy => ?_⟩
  obtain ⟨rfl, hy⟩ := hy
  have := hy xs q1
  rw [h1] at this
  cases this
  exact ⟨Ext.refl, s', h2⟩
theorem enumD_get : ∀ (l : List D) (k i : Nat) (d : D), (enumD k l)[i]? = some d → ∃ y, l[i]? = some y ∧ d = .tup [.int ((k + i : Nat) : Int), y]
  | [], k, i, d, h => by simp [enumD] at h
  | y :: l, k, 0, d, h => by simp [enumD] at h; exact ⟨y, rfl, by rw [← h]; rfl⟩
  | y :: l, k, i + 1, d, h => by
    simp only [enumD, List.getElem?_cons_succ] at h
    obtain ⟨z, h1, h2⟩ := enumD_get l (k + 1) i d h
    exact ⟨z, by simpa using h1, by rw [h2]; rw [show k + 1 + i = k + (i + 1) by omega]⟩
theorem enumD_len : ∀ (l : List D) (k : Nat), (enumD k l).length = l.length
  | [], _ => rfl
  | _ :: l, k => by simp [enumD, enumD_len l (k + 1)]
theorem pair_new [Wo] {p : Addr} {d e : D} {x y : V} (s : Sto K mg w S H) (np : H p = none) (r1 : Rp K mg w H d x) (r2 : Rp K mg w H e y) : Ext w H w (upd H p (.tup [x, y])) ∧ Sto K mg w S (upd H p (.tup [x, y])) ∧ Rp K mg w (upd H p (.tup [x, y])) (.tup [d, e]) (.ref p) := by
  have ex : Ext w H w (upd H p (.tup [x, y])) := Ext.new np
  refine ⟨ex, s.beside np, ?_⟩
  unfold Rp
  exact ⟨p, _, rfl, .inl ⟨upd_same, s.new np⟩, RpL.cons (Rp.ext ex _ _ r1) (RpL.one (Rp.ext ex _ _ r2))⟩
end
section
variable {X : Cx} {W : WX} {tg e e2 : Expr} {fe : FE} {fa : FA} {p pos : Pos}
theorem qi_list [Wo] (he : PE X e (tF X W fe)) : PI X tg e (tI X W (fiL fe)) := PI.wk (pi_list he) fun σ H R ⟨w, ρ, S, s, en, h⟩ =>
  ⟨w, ρ, S, s, en, (End.bind (R := fun w H => Rp X.K X.mg w H) h).imp (fun v H1 ⟨w1, S1, d, e1, s1, r1, h1⟩ => by
    split at h1
    · rename_i q hq; exact itl_ok s1 r1 hq h1
    · exact h1.elim) (fun _ _ _ z => z)⟩
theorem qi_tup [Wo] (he : PE X e (tF X W fe)) : PI X tg e (tI X W (fiT fe)) := PI.wk (pi_tup he) fun σ H R ⟨w, ρ, S, s, en, h⟩ =>
  ⟨w, ρ, S, s, en, (End.bind (R := fun w H => Rp X.K X.mg w H) h).imp (fun v H1 ⟨w1, S1, d, e1, s1, r1, h1⟩ => by
    split at h1
    · rename_i ds
      have r1' := r1
      unfold Rp at r1'
      obtain ⟨a, xs, e, t, q⟩ := r1'
      refine ⟨a, e, ⟨xs, t.sq⟩, h1 w1 H1 _ Ext.refl s1 fun w' S' H' m s' g => ?_⟩
      have t' : SqT X.K H' a xs := by
        rcases t with ⟨t, o⟩ | t
        · exact .of (m.fr a _ t o).1
        · exact .inr t
      have q' := RpL.mv m _ _ q
      refine ⟨fun i hi => ⟨xs, t', by rw [← q.length]; exact hi⟩, fun i d hd => ?_⟩
      obtain ⟨u, k1, k2⟩ := q'.get hd
      refine ⟨⟨xs, u, t', k1⟩, fun y H'' hy => ?_⟩
      obtain ⟨rfl, hy⟩ := hy
      have := hy xs t'
      rw [k1] at this
      cases this
      exact ⟨Ext.refl, s', k2⟩
    · exact h1.elim) (fun _ _ _ z => z)⟩
theorem rngD_len : ∀ (n : Nat) (lo : Int), (rngD lo n).length = n
  | 0, _ => rfl
  | n + 1, lo => by simp [rngD, rngD_len n (lo + 1)]
theorem rngD_get : ∀ (n : Nat) (lo : Int) (i : Nat) (d : D), (rngD lo n)[i]? = some d → i < n ∧ d = .int (lo + i)
  | 0, lo, i, d, h => by simp [rngD] at h
  | n + 1, lo, 0, d, h => by simp [rngD] at h; exact ⟨Nat.succ_pos _, by rw [← h]; simp⟩
  | n + 1, lo, i + 1, d, h => by
    simp only [rngD, List.getElem?_cons_succ] at h
    obtain ⟨h1, h2⟩ := rngD_get n (lo + 1) i d h
    exact ⟨Nat.succ_lt_succ h1, by rw [h2]; congr 1; omega⟩
theorem rng_ok [Wo] {K : PySem.W.Frag} {mg : Str → Option Value} {w : Wd} {H : Hp} (lo : Int) (n : Nat) : ItOk K mg w H (rngD lo n, none) (Itr lo n) := by
  intro w' S' H' m s' g
  refine ⟨fun i hi => (show n ≤ i by have h2 : (rngD lo n).length ≤ i := hi; rw [rngD_len] at h2; exact h2), fun i d hd => ?_⟩
  obtain ⟨h1, rfl⟩ := rngD_get n lo i d hd
  refine ⟨h1, fun y H'' hy => ?_⟩
  obtain ⟨rfl, rfl⟩ := hy
  exact ⟨Ext.refl, s', rp_i⟩
theorem qi_range1 [Wo] (hg : Gl X "range") (hm : X.mg "range" = none) (ha : PA X [e] (tA X W fa)) (hs : starEach [e] X.env = [(false, eval e X.env)] := by rfl) : PI X tg (.Call (.Name "range" p) [e] [] pos) (tI X W (fiR1 fa)) := PI.wk (pi_range1 hg hm ha hs) fun σ H R ⟨w, ρ, S, s, en, h⟩ =>
  ⟨w, ρ, S, s, en, (End.bind (R := fun w H => RpL X.K X.mg w H) h).imp (fun vs H1 ⟨w1, S1, ds, e1, s1, r1, h1⟩ => by
    split at h1
    · split at h1
      · rename_i j hj
        obtain ⟨v, rfl, r2⟩ := r1.one_inv
        exact ⟨j, by rw [rp_int r2], hj.1, hj.2, h1.ret s1 (rng_ok 0 _)⟩
      · exact h1.elim
    · exact h1.elim) (fun _ _ _ z => z)⟩
theorem qi_enum [Wo] {elts : List Expr} {kk : Nat} {tpos : Pos} (hg : Gl X "enumerate") (hm : X.mg "enumerate" = none) (ha : PA X [e] (tA X W fa)) (hs : starEach [e] X.env = [(false, eval e X.env)] := by rfl) : PI X (.Tuple elts kk tpos) (.Call (.Name "enumerate" p) [e] [] pos) (tI X W (fiE fa)) := PI.wk (pi_enum hg hm ha hs) fun σ H R ⟨w, ρ, S, s, en, h⟩ =>
  ⟨w, ρ, S, s, en, (End.bind (R := fun w H => RpL X.K X.mg w H) h).imp (fun vs H1 ⟨w1, S1, ds, e1, s1, r1, h1⟩ => by
    split at h1
    · rename_i x
      split at h1
      · rename_i xs g hx
        obtain ⟨v, rfl, r2⟩ := r1.one_inv
        obtain ⟨a, e, ⟨ys, ey⟩, k⟩ := iSeq_at s1 r2 hx
        refine ⟨a, ys, by rw [e], ey, h1.ret s1 fun w' S' H' m s' g' => ?_⟩
        obtain ⟨zs, q1, q2⟩ := k w' S' H' m s' g'
        refine ⟨fun i hi => ⟨zs, q1, ?_⟩, fun i d hd => ?_⟩
        · have h2 : (enumD 0 xs).length ≤ i := hi
          rw [enumD_len] at h2
          rw [← q2.length]; exact h2
        · obtain ⟨y, k1, k2⟩ := enumD_get _ _ _ _ hd
          obtain ⟨u, k3, k4⟩ := q2.get k1
          refine ⟨⟨zs, u, q1, k3⟩, fun z H'' hz => ?_⟩
          obtain ⟨T, x', rfl, nT, rfl, hx'⟩ := hz
          have := hx' zs q1
          rw [k3] at this
          cases this
          subst k2
          have pr := pair_new (d := .int ((0 + i : Nat) : Int)) s' nT rp_i k4
          rw [Nat.zero_add] at pr ⊢
          exact pr
      · exact h1.elim
    · exact h1.elim) (fun _ _ _ z => z)⟩
end
noncomputable def forL (tg : FG) (b : FS) (g : Option (Nat × List D)) : List D → FS
  | [] => fun ρ S => gchk g S (.nx ρ S) .no
  | d :: r => fun ρ S => gchk g S (match tg d ρ S with
    | some (ρ1, S1) => (match b ρ1 S1 with
      | .nx ρ2 S2 => forL tg b g r ρ2 S2
      | .ct ρ2 S2 => forL tg b g r ρ2 S2
      | .bk ρ2 S2 => .nx ρ2 S2
      | z => z)
    | none => .no) .no
noncomputable def sFor (fi : FI) (tg : FG) (b : FS) : FS := fun ρ S => (fi ρ S).toS ρ fun p S1 => forL tg b p.2 p.1 ρ S1
theorem gchk_in [Wo] {K : PySem.W.Frag} {mg : Str → Option Value} {w : Wd} {H : Hp} {D : Ends} {W : WX} {g : Option (Nat × List Kw.D)} {S : Store} {r : RS} (h : EndS K mg w H (gchk g S r .no) D W) : gd g S ∧ EndS K mg w H r D W := by
  unfold gchk at h
  split at h
  · rename_i k; exact ⟨k, h⟩
  · exact h.elim
section
variable {X : Cx} {W : WX} {tg iter : Expr} {body : List Stmt} {fi : FI} {g : FG} {sl : List Nat} {b : FS} {pos : Pos}
theorem q_for [Wo] (hp : PassesOwn (model X.prog X.w) X.A X.env X.xe) (hc : X.calm = true) (hi : PI X tg iter (tI X W fi)) (hg : PG X tg (tG X sl g)) (hb : PSs X body (tS X W b)) (hs : ∀ x, foldedSetIterable iter X.env x = pure x := by intro _; rfl) : PS X (.For tg iter body [] pos) (tS X W (sFor fi g b)) :=
  PS.wk (ps_for hp hc hi hg hb hs) fun D σ H ⟨w, ρ, S, s, en, h⟩ => by
    refine ⟨w, ρ, S, s, en, (h.of (R := ItOk X.K X.mg) en).imp ?_ (fun _ _ _ z => z)⟩
    rintro J H1 ⟨w1, S1, ⟨items, gu⟩, e1, s1, J1, h1⟩
    refine ⟨fun i m σ' H' => ∃ w' ρ' S', i + m = items.length ∧ Ext w1 H1 w' H' ∧ Sto X.K X.mg w' S' H' ∧ EnvR X.K X.mg w' H' ρ' σ' ∧ EndS X.K X.mg w' H' (forL g b gu (items.drop i) ρ' S') D W, ⟨items.length, w1, ρ, S1, by omega, Ext.refl, s1, en.ext e1, h1⟩, ?_⟩
    rintro i m σ' H' ⟨w', ρ', S', hm, ex, s', en', h2⟩
    cases hd : items.drop i with
    | nil =>
      rw [hd] at h2
      unfold forL at h2
      obtain ⟨gd1, h3⟩ := gchk_in h2
      have hl : items.length ≤ i := List.drop_eq_nil_iff.mp hd
      exact .inl ⟨(J1 w' S' H' ex.mv s' gd1).1 i hl, h3.nx' s' en'⟩
    | cons d r =>
      rw [hd] at h2
      unfold forL at h2
      obtain ⟨gd1, h3⟩ := gchk_in h2
      have hi' : items[i]? = some d := by
        have := congrArg (·[0]?) hd
        simpa using this
      have hr : items.drop (i + 1) = r := by
        have := congrArg List.tail hd
        simpa using this
      have hlt : i < items.length := (List.getElem?_eq_some_iff.mp hi').1
      obtain ⟨j1, j2⟩ := (J1 w' S' H' ex.mv s' gd1).2 i d hi'
      refine .inr ⟨j1, fun σ2 H2 => ∃ w2 ρ2 S2, Ext w1 H1 w2 H2 ∧ Sto X.K X.mg w2 S2 H2 ∧ EnvR X.K X.mg w2 H2 ρ2 σ2 ∧ EndS X.K X.mg w2 H2 (forL g b gu r ρ2 S2) D W, ?_, ?_⟩
      · rintro σ2 H2 ⟨w2, ρ2, S2, a1, a2, a3, a4⟩
        exact ⟨m - 1, by omega, w2, ρ2, S2, by omega, a1, a2, a3, by rw [hr]; exact a4⟩
      · intro x H'' hy
        obtain ⟨j3, j4, j5⟩ := j2 x H'' hy
        have h3' := h3.on j3
        refine ⟨w', ρ', S', d, j4, en'.ext j3, j5, ?_⟩
        split at h3'
        · rename_i ρ1 S1' hg1
          rw [hg1]
          intro w2 H2 σ2 e2 s2 en2 _ _
          have h4 := h3'.on e2
          have ex2 : Ext w1 H1 w2 H2 := (ex.trans j3).trans e2
          refine ⟨w2, ρ1, S1', s2, en2, ?_⟩
          revert h4
          cases b ρ1 S1' with
          | nx ρ3 S3 => exact fun h4 w3 H3 σ3 e3 s3 en3 => ⟨w3, ρ3, S3, ex2.trans e3, s3, en3, h4.on e3⟩
          | ct ρ3 S3 => exact fun h4 w3 H3 σ3 e3 s3 en3 => ⟨w3, ρ3, S3, ex2.trans e3, s3, en3, h4.on e3⟩
          | bk ρ3 S3 => exact fun h4 => h4
          | rt d S3 => exact fun h4 => h4
          | ex x ρ3 S3 => exact fun h4 => h4
          | no => exact fun h4 => h4
        · exact h3'.elim
end
def wLoop (c : FT) (b : FS) : Nat → FS
  | 0 => fun _ _ => .no
  | n + 1 => fun ρ S => (c ρ S).toS ρ fun k S1 => match k with
    | true => (match b ρ S1 with
      | .nx ρ2 S2 => wLoop c b n ρ2 S2
      | .ct ρ2 S2 => wLoop c b n ρ2 S2
      | .bk ρ2 S2 => .nx ρ2 S2
      | z => z)
    | false => .nx ρ S1
open Classical in
noncomputable def sWhile (c : FT) (b : FS) : FS := fun ρ S => if h : ∃ n, wLoop c b n ρ S ≠ .no then wLoop c b (choose h) ρ S else .no
theorem wLoop_mono {c : FT} {b : FS} : ∀ {n m : Nat} {ρ : FEnv} {S : Store}, n ≤ m → wLoop c b n ρ S ≠ .no → wLoop c b m ρ S = wLoop c b n ρ S
  | 0, _, _, _, _, h => absurd rfl h
  | n + 1, 0, _, _, l, _ => absurd l (by omega)
  | n + 1, m + 1, ρ, S, l, h => by
    unfold wLoop at h ⊢
    cases hc : c ρ S with
    | ok k S1 =>
      rw [hc] at h
      cases k with
      | true =>
        simp only [RE.toS] at h ⊢
        cases hb : b ρ S1 with
        | nx ρ2 S2 =>
          rw [hb] at h
          exact wLoop_mono (Nat.le_of_succ_le_succ l) h
        | ct ρ2 S2 =>
          rw [hb] at h
          exact wLoop_mono (Nat.le_of_succ_le_succ l) h
        | _ => rfl
      | false => rfl
    | _ => rfl
theorem sWhile_eq {c : FT} {b : FS} {n : Nat} {ρ : FEnv} {S : Store} (h : wLoop c b n ρ S ≠ .no) : sWhile c b ρ S = wLoop c b n ρ S := by
  unfold sWhile
  have hx : ∃ n, wLoop c b n ρ S ≠ .no := ⟨n, h⟩
  rw [dif_pos hx]
  have hk := Classical.choose_spec hx
  rcases Nat.le_total n (Classical.choose hx) with l | l
  · exact wLoop_mono l h
  · exact (wLoop_mono l hk).symm
/-- one turn -/
theorem sWhile_step (c : FT) (b : FS) (ρ : FEnv) (S : Store) : sWhile c b ρ S = (c ρ S).toS ρ fun k S1 => match k with
    | true => (match b ρ S1 with
      | .nx ρ2 S2 => sWhile c b ρ2 S2
      | .ct ρ2 S2 => sWhile c b ρ2 S2
      | .bk ρ2 S2 => .nx ρ2 S2
      | z => z)
    | false => .nx ρ S1 := by
  by_cases hx : ∃ n, wLoop c b n ρ S ≠ .no
  · obtain ⟨n, hn⟩ := hx
    cases n with
    | zero => exact absurd rfl hn
    | succ n =>
      rw [sWhile_eq hn]
      unfold wLoop at hn ⊢
      cases hc : c ρ S with
      | ok k S1 =>
        rw [hc] at hn
        cases k with
        | true =>
          simp only [RE.toS] at hn ⊢
          cases hb : b ρ S1 with
          | nx ρ2 S2 => rw [hb] at hn; exact (sWhile_eq hn).symm
          | ct ρ2 S2 => rw [hb] at hn; exact (sWhile_eq hn).symm
          | _ => rfl
        | false => rfl
      | _ => rfl
  · have e0 : sWhile c b ρ S = .no := by unfold sWhile; rw [dif_neg hx]
    rw [e0]
    have key : ∀ n, wLoop c b n ρ S = .no := fun n => Classical.byContradiction fun z => hx ⟨n, z⟩
    cases hc : c ρ S with
    | ok k S1 =>
      cases k with
      | true =>
        simp only [RE.toS]
        have k1 : ∀ n, (match b ρ S1 with
            | .nx ρ2 S2 => wLoop c b n ρ2 S2
            | .ct ρ2 S2 => wLoop c b n ρ2 S2
            | .bk ρ2 S2 => .nx ρ2 S2
            | z => z) = RS.no := fun n => by
          have := key (n + 1)
          unfold wLoop at this
          rw [hc] at this
          exact this
        cases hb : b ρ S1 with
        | nx ρ2 S2 =>
          simp only [hb] at k1
          show RS.no = sWhile c b ρ2 S2
          unfold sWhile
          rw [dif_neg (fun ⟨n, hn⟩ => hn (k1 n))]
        | ct ρ2 S2 =>
          simp only [hb] at k1
          show RS.no = sWhile c b ρ2 S2
          unfold sWhile
          rw [dif_neg (fun ⟨n, hn⟩ => hn (k1 n))]
        | rt d1 S2 => have z := k1 0; rw [hb] at z; exact (nomatch z)
        | ex d1 ρ2 S2 => have z := k1 0; rw [hb] at z; exact (nomatch z)
        | bk ρ2 S2 => have z := k1 0; rw [hb] at z; exact (nomatch z)
        | no => rfl
      | false =>
        have := key 1
        unfold wLoop at this
        rw [hc] at this
        exact this.symm
    | ex x S1 =>
      have := key 1
      unfold wLoop at this
      rw [hc] at this
      exact this.symm
    | no => rfl
section
variable {X : Cx} {W : WX} {c : Expr} {body : List Stmt} {tc : FT} {b : FS} {pos : Pos}
theorem q_while [Wo] (hp : PassesOwn (model X.prog X.w) X.A X.env X.xe) (hc : PT X c (tT X W tc)) (hb : PSs X body (tS X W b)) : PS X (.While c body [] pos) (tS X W (sWhile tc b)) :=
  PS.wk (ps_while hp hc hb) fun D σ H ⟨w, ρ, S, s, en, h⟩ => by
    refine ⟨fun m σ' H' => ∃ w' ρ' S', Sto X.K X.mg w' S' H' ∧ EnvR X.K X.mg w' H' ρ' σ' ∧ EndS X.K X.mg w' H' (wLoop tc b m ρ' S') D W, ?_, ?_⟩
    · unfold sWhile at h
      split at h
      · exact ⟨_, w, ρ, S, s, en, h⟩
      · exact h.elim
    · rintro m σ' H' ⟨w', ρ', S', s', en', h'⟩
      cases m with
      | zero => exact h'.elim
      | succ n =>
        unfold wLoop at h'
        refine ⟨w', ρ', S', s', en', (h'.of (R := fun _ _ (a b : Bool) => b = a) en').imp ?_ (fun _ _ _ z => z)⟩
        rintro k H1 ⟨w1, S1, k', e1, s1, rfl, h1⟩
        cases k with
        | false => rw [if_neg (by decide)]; exact h1.nx' s1 (en'.ext e1)
        | true =>
          rw [if_pos rfl]
          refine ⟨fun σ2 H2 => ∃ w2 ρ2 S2, Sto X.K X.mg w2 S2 H2 ∧ EnvR X.K X.mg w2 H2 ρ2 σ2 ∧ EndS X.K X.mg w2 H2 (wLoop tc b n ρ2 S2) D W, fun σ2 H2 h2 => ⟨n, Nat.lt_succ_self n, h2⟩, w1, ρ', S1, s1, en'.ext e1, ?_⟩
          revert h1
          cases b ρ' S1 with
          | nx ρ3 S3 => exact fun h4 w3 H3 σ3 e3 s3 en3 => ⟨w3, ρ3, S3, s3, en3, h4.on e3⟩
          | ct ρ3 S3 => exact fun h4 w3 H3 σ3 e3 s3 en3 => ⟨w3, ρ3, S3, s3, en3, h4.on e3⟩
          | bk ρ3 S3 => exact fun h4 => h4
          | rt d S3 => exact fun h4 => h4
          | ex x ρ3 S3 => exact fun h4 => h4
          | no => exact fun h4 => h4
end
def wipeR (ρ : FEnv) : List Nat → FEnv
  | [] => ρ
  | v :: vs => (wipeR ρ vs).set v none
noncomputable def compL (tg : FG) (tt : FT) (te : FE) (g : Option (Nat × List D)) (ρ : FEnv) : List D → List D → Store → RE (List D)
  | [], acc, S => gchk g S (.ok acc S) .no
  | d :: r, acc, S => gchk g S (match tg d ρ S with
    | some (ρ1, S1) => (match tt ρ1 S1 with
      | .ok true S2 => (match te ρ1 S2 with
        | .ok y S3 => if acc.length < sizeLine then compL tg tt te g ρ r (acc ++ [y]) S3 else .no
        | _ => .no)
      | .ok false S2 => compL tg tt te g ρ r acc S2
      | _ => .no)
    | none => .no) .no
/-- c: the list is a cell -/
noncomputable def fLc (c : Bool) (fi : FI) (tg : FG) (tt : FT) (te : FE) (vs : List Nat) : FE := fun ρ S => (fi ρ S).bnd fun p S1 => match compL tg tt te p.2 (wipeR ρ vs) p.1 [] S1 with
  | .ok acc S2 => if c then .ok (.loc S2.length) (S2 ++ [.lst acc]) else .ok (.lst acc) S2
  | _ => .no
def fYes : FT := fun _ S => .ok true S
abbrev W0 : WX := fun _ _ _ _ => False
theorem wipe_eq {σ σ' : L2.St} {vs : List Nat} (hl : σ'.length = σ.length) (h : ∀ i, i ∉ vs → σ'[i]? = σ[i]?) : wipe σ' vs = wipe σ vs := by
  have len : ∀ (σ : L2.St) (vs : List Nat), (wipe σ vs).length = σ.length := fun σ vs => wipe_length σ vs
  have at1 : ∀ (σ : L2.St) (vs : List Nat) (i : Nat), i < σ.length → (wipe σ vs)[i]? = if i ∈ vs then some none else σ[i]? := by
    intro σ vs
    induction vs with
    | nil => intro i _; rw [if_neg (by simp)]; rfl
    | cons v vs ih =>
      intro i hi
      show ((wipe σ vs).set v none)[i]? = _
      by_cases e : i = v
      · subst e
        rw [List.getElem?_set_self (by rw [len]; exact hi), if_pos (by simp)]
      · rw [List.getElem?_set_ne (Ne.symm e), ih i hi]
        by_cases m : i ∈ vs
        · rw [if_pos m, if_pos (List.mem_cons_of_mem _ m)]
        · rw [if_neg m, if_neg (by simp [e, m])]
  refine List.ext_getElem? fun i => ?_
  by_cases hi : i < σ.length
  · rw [at1 σ' vs i (hl ▸ hi), at1 σ vs i hi]
    split
    · rfl
    · rename_i m; exact h i m
  · rw [List.getElem?_eq_none (by rw [len, hl]; omega), List.getElem?_eq_none (by rw [len]; omega)]
theorem EnvR.wipe {K : PySem.W.Frag} {mg : Str → Option Value} {w : Wd} {H : Hp} {ρ : FEnv} {σ : L2.St} (en : EnvR K mg w H ρ σ) : ∀ vs : List Nat, EnvR K mg w H (wipeR ρ vs) (L2.wipe σ vs)
  | [] => en
  | v :: vs => (EnvR.wipe en vs).wipe1
theorem wipe_wipe (σ : L2.St) (vs : List Nat) : L2.wipe (L2.wipe σ vs) vs = L2.wipe σ vs := wipe_eq (wipe_length σ vs) fun i hi => wipe_out hi
section
variable {X : Cx} {W : WX} {elt tg iter : Expr} {ifs : List Expr} {scope : Scope} {own : List (Str × Nat)} {pos : Pos} {fi : FI} {g : FG} {sl : List Nat} {tt : FT} {te : FE}
theorem qts_nil [Wo] : PTs X [] (tT X W fYes) := ⟨fun pins s σ H Q I ⟨w, ρ, S, st, en, h⟩ => pts_nil.run pins s σ H Q I (h.ret st rfl)⟩
/-- the reading of a comprehension -/
theorem lc_core' [Wo] {σ : L2.St} {H : Hp} {Q : VK} {c : Bool} {vs : List Nat} (hsl : ∀ i ∈ sl, i ∈ vs) (h : tF X W (fLc c fi g tt te vs) σ H Q) : tLc (tI X W fi) (tG X sl g) (tT X W0 tt) (tF X W0 te) vs σ H Q := by
  obtain ⟨w, ρ, S, s, en, h⟩ := h
  refine ⟨w, ρ, S, s, en, (End.bind (R := ItOk X.K X.mg) h).imp ?_ (fun _ _ _ z => z)⟩
  rintro J H1 ⟨w1, S1, ⟨items, gu⟩, e1, s1, J1, h1⟩ C hC
  have enw : EnvR X.K X.mg w1 H1 (wipeR ρ vs) (wipe σ vs) := (en.ext e1).wipe vs
  -- what is left to do, from the items, the list so far and the store
  let fin : RE (List D) → RE D := fun r => match r with
    | .ok acc S2 => if c then .ok (.loc S2.length) (S2 ++ [.lst acc]) else .ok (.lst acc) S2
    | _ => .no
  have h1' : End X.K X.mg (fun w H => Rp X.K X.mg w H) w1 H1 (fin (compL g tt te gu (wipeR ρ vs) items [] S1)) Q (fun c od H' => W c od σ H') := h1
  let G : Hp → List D → Store → RE (List D) → Prop := fun H' acc S' r => ∃ w' xs, ExtD C w1 H1 w' H' ∧ Sto X.K X.mg w' S' H' ∧ H' C = some (.lst xs) ∧ RpL X.K X.mg w' H' acc xs ∧ ∃ r0, fin r = r0 ∧ End X.K X.mg (fun w H => Rp X.K X.mg w H) w1 H1 r0 Q (fun c od H' => W c od σ H')
  refine ⟨fun i m H' => ∃ acc S', i + m = items.length ∧ G H' acc S' (compL g tt te gu (wipeR ρ vs) (items.drop i) acc S'), ⟨items.length, [], S1, by omega, ⟨w1.φ, C :: w1.hd⟩, [], ExtD.begin_ hC, s1.mvd hC, upd_same, RpL.nil, _, rfl, h1'⟩, ?_⟩
  rintro i m H' ⟨acc, S', hm, w', xs, ed, s', hx, ra, r0, hr0, he⟩
  have hCin : C ∈ w'.hd := by rw [ed.hd]; exact List.mem_cons_self
  have no_end : ∀ {r : RE D}, r = .no → End X.K X.mg (fun w H => Rp X.K X.mg w H) w1 H1 r Q (fun c od H' => W c od σ H') → False := fun e h => by rw [e] at h; exact h
  cases hd : items.drop i with
  | nil =>
    rw [hd] at hr0
    unfold compL at hr0
    unfold gchk at hr0
    split at hr0
    · rename_i gd1
      have hl : items.length ≤ i := List.drop_eq_nil_iff.mp hd
      refine .inl ⟨(J1 w' S' H' ed.mv s' gd1).1 i hl, ?_⟩
      have hout : some C ∉ w'.φ := (s'.ap C hCin).2
      have hnh : C ∉ w1.hd := fun z => (s1.ap C z).1 hC
      have mv := Mv.show (H := H') ed.hd
      have s3 := s'.show ed.hd ⟨xs, hx⟩
      have ra3 := RpL.mv mv _ _ ra
      subst hr0
      cases c with
      | false =>
        refine he ⟨w'.φ, w1.hd⟩ H' (.ref C) ed.done s3 ?_
        show Rp _ _ _ _ _ _
        unfold Rp
        exact ⟨C, xs, rfl, hx, ⟨hout, hnh⟩, ra3⟩
      | true =>
        -- the new list becomes a cell
        have ph : ∀ (n : Nat) a, (w'.φ ++ [some C])[n]? = some (some a) → (w'.φ[n]? = some (some a) ∧ n < w'.φ.length) ∨ (n = w'.φ.length ∧ a = C) := fun n a hk => by
          by_cases hl : n < w'.φ.length
          · rw [List.getElem?_append_left hl] at hk; exact .inl ⟨hk, hl⟩
          · have hl' : w'.φ.length ≤ n := Nat.le_of_not_lt hl
            rw [List.getElem?_append_right hl'] at hk
            have : n - w'.φ.length = 0 := by
              cases e : n - w'.φ.length with
              | zero => rfl
              | succ j => rw [e] at hk; simp at hk
            rw [this] at hk; simp at hk
            exact .inr ⟨by omega, hk.symm⟩
        have mv2 : Mv w' H' ⟨w'.φ ++ [some C], w1.hd⟩ H' := ⟨fun a o h n => by
          have hne : a ≠ C := fun z => by subst z; exact n.2 hCin
          refine ⟨h, fun z => ?_, fun z => n.2 (by rw [ed.hd]; exact List.mem_cons_of_mem _ z)⟩
          rcases List.mem_append.mp (show some a ∈ w'.φ ++ [some C] from z) with z | z
          · exact n.1 z
          · simp at z; exact hne z, by show _ ≤ (w'.φ ++ [some C]).length; rw [List.length_append]; omega, fun n a h l => by
          rcases ph n a h with z | z
          · exact z.1
          · omega⟩
        have ex2 : Ext w1 H1 ⟨w'.φ ++ [some C], w1.hd⟩ H' := ⟨ed.done.fr, Nat.le_trans ed.ln mv2.ln, fun n a h l => by
          rcases ph n a h with z | z
          · exact ed.ph n a z.1 l
          · have := ed.ln; omega, fun a h => by
          rcases List.mem_append.mp (show some a ∈ w'.φ ++ [some C] from h) with z | z
          · exact ed.nw a z
          · simp at z; subst z; exact .inr hC, rfl⟩
        have ra4 := RpL.mv mv2 _ _ ra
        have s4 : Sto X.K X.mg ⟨w'.φ ++ [some C], w1.hd⟩ (S' ++ [.lst acc]) H' := by
          refine ⟨by show (w'.φ ++ [some C]).length = _; rw [List.length_append, List.length_append, s'.len]; rfl, fun m n a q1 q2 => ?_, fun a ha => ⟨(s3.ap a ha).1, fun z => ?_⟩, fun n cc hc => ?_⟩
          · rcases ph m a q1 with ⟨z1, z2⟩ | ⟨z1, z2⟩ <;> rcases ph n a q2 with ⟨y1, y2⟩ | ⟨y1, y2⟩
            · exact s'.nd m n a z1 y1
            · subst y2; exact absurd (List.mem_of_getElem? z1) hout
            · subst z2; exact absurd (List.mem_of_getElem? y1) hout
            · omega
          · rcases List.mem_append.mp (show some a ∈ w'.φ ++ [some C] from z) with z | z
            · exact (s3.ap a ha).2 z
            · simp at z; subst z; exact hnh ha
          · by_cases hl : n < S'.length
            · rw [List.getElem?_append_left hl] at hc
              have c0 := s'.cell n cc hc
              have gl : (w'.φ ++ [some C])[n]? = w'.φ[n]? := List.getElem?_append_left (s'.len ▸ hl)
              unfold CellR at c0 ⊢
              split at c0
              · obtain ⟨b, ys, h2, h3, h4⟩ := c0; exact ⟨b, ys, by rw [← gl] at h2; exact h2, h3, RpL.mv mv2 _ _ h4⟩
              · obtain ⟨b, ys, o', h2, h3, h4⟩ := c0; exact ⟨b, ys, o', by rw [← gl] at h2; exact h2, h3, RpL.mv mv2 _ _ h4⟩
              · rw [← gl] at c0; exact c0
              · obtain ⟨c1, P, ht, t1, t2⟩ := c0; exact ⟨c1, P, ht, by rw [gl]; exact t1, TabW.mv mv2 rfl t2⟩
              · obtain ⟨y1, y2, y3, ⟨φ, y4, y6⟩, y5⟩ := c0
                refine ⟨by rw [gl]; exact y1, ?_, fun z => ?_, ⟨φ, y4, y6⟩, y5⟩
                · rw [ed.hd] at y2
                  rcases List.mem_cons.mp y2 with z | z
                  · rw [z, hx] at y4; cases y4
                  · exact z
                · rcases List.mem_append.mp (show some sysModules ∈ w'.φ ++ [some C] from z) with z | z
                  · exact y3 z
                  · simp at z; rw [z, hx] at y4; cases y4
              · exact ⟨by rw [gl]; exact c0.1, EnvR.mv mv2 c0.2⟩
              · obtain ⟨b, C1, dx, vs', h2, h3, h4, h5, h6⟩ := c0; exact ⟨b, C1, dx, vs', by rw [gl]; exact h2, h3, h4, h5, RpL.mv mv2 _ _ h6⟩
              · obtain ⟨b, es, h2, h3, h4, h5, h6, h7⟩ := c0; exact ⟨b, es, by rw [gl]; exact h2, h3, h4, h5, dct_mv mv2 h6, RpL.mv mv2 _ _ h7⟩
            · have hl' : S'.length ≤ n := Nat.le_of_not_lt hl
              rw [List.getElem?_append_right hl'] at hc
              have e0 : n - S'.length = 0 := by
                cases e : n - S'.length with
                | zero => rfl
                | succ j => rw [e] at hc; simp at hc
              rw [e0] at hc; simp at hc; subst hc
              have en' : n = w'.φ.length := by rw [s'.len]; omega
              subst en'
              exact ⟨C, xs, by show (w'.φ ++ [some C])[w'.φ.length]? = _; rw [List.getElem?_append_right (Nat.le_refl _), Nat.sub_self]; rfl, hx, ra4⟩
        refine he ⟨w'.φ ++ [some C], w1.hd⟩ H' (.ref C) ex2 s4 ?_
        show Rp _ _ _ _ _ _
        unfold Rp
        refine ⟨by show S'.length < (w'.φ ++ [some C]).length; rw [List.length_append, s'.len]; exact Nat.lt_succ_self _, fun a ha => ?_⟩
        have ha' : (w'.φ ++ [some C])[S'.length]? = some (some a) := ha
        rw [← s'.len, List.getElem?_append_right (Nat.le_refl _), Nat.sub_self] at ha'
        simp at ha'; rw [ha']
    · exact (no_end hr0.symm he).elim
  | cons d r =>
    rw [hd] at hr0
    unfold compL at hr0
    unfold gchk at hr0
    split at hr0
    · rename_i gd1
      have hi' : items[i]? = some d := by
        have := congrArg (·[0]?) hd
        simpa using this
      have hr : items.drop (i + 1) = r := by
        have := congrArg List.tail hd
        simpa using this
      have hlt : i < items.length := (List.getElem?_eq_some_iff.mp hi').1
      obtain ⟨j1, j2⟩ := (J1 w' S' H' ed.mv s' gd1).2 i d hi'
      refine .inr ⟨j1, fun H2 => ∃ acc2 S2, G H2 acc2 S2 (compL g tt te gu (wipeR ρ vs) r acc2 S2), fun H2 ⟨acc2, S2, z⟩ => ⟨m - 1, by omega, acc2, S2, by omega, by rw [hr]; exact z⟩, ?_⟩
      intro x H'' hy
      obtain ⟨j3, j4, j5⟩ := j2 x H'' hy
      have enw' : EnvR X.K X.mg w' H'' (wipeR ρ vs) (wipe σ vs) := (enw.mv ed.mv).ext j3
      refine ⟨w', wipeR ρ vs, S', d, j4, enw', j5, ?_⟩
      split at hr0
      · rename_i ρ1 S1' hg1
        rw [hg1]
        intro w2 H2 σ2 e2 s2 en2 k2 l2
        have hw : wipe σ2 vs = wipe σ vs := by
          rw [← wipe_wipe σ vs]
          exact wipe_eq l2 fun i hi => k2 i (fun z => hi (hsl i z))
        refine ⟨hw, w2, ρ1, S1', s2, en2, ?_⟩
        have ed2 : ExtD C w1 H1 w2 H2 := (ed.step j3).step e2
        split at hr0
        · rename_i S2' ht
          rw [ht]
          intro w3 H3 b e3 s3 hb
          cases hb
          rw [if_pos rfl]
          refine ⟨w3, ρ1, S2', s3, en2.ext e3, ?_⟩
          split at hr0
          · rename_i y S3' hy'
            rw [hy']
            intro w4 H4 u e4 s4 r4
            have ed4 : ExtD C w1 H1 w4 H4 := (ed2.step e3).step e4
            have hC4 : C ∈ w4.hd := by rw [ed4.hd]; exact List.mem_cons_self
            have exx : Ext w' H' w4 H4 := ((j3.trans e2).trans e3).trans e4
            have hx4 : H4 C = some (.lst xs) := exx.fr C _ hx (s'.ap C hCin).2
            have ra4 := RpL.ext exx _ _ ra
            split at hr0
            · rename_i hlen
              refine ⟨xs, hx4, by rw [← ra.length]; exact hlen, acc ++ [y], S3', w4, xs ++ [u], ed4.poke, s4.poke hC4 ⟨xs, hx4⟩, upd_same, ?_, _, hr0, he⟩
              exact (RpL.mv (Mv.poke hC4) _ _ ra4).append (RpL.one (Rp.mv (Mv.poke hC4) _ _ r4))
            · exact (no_end hr0.symm he).elim
          · exact (no_end hr0.symm he).elim
        · rename_i S2' ht
          rw [ht]
          intro w3 H3 b e3 s3 hb
          cases hb
          rw [if_neg (by decide)]
          have exx : Ext w' H' w3 H3 := (j3.trans e2).trans e3
          exact ⟨acc, S2', w3, xs, ed2.step e3, s3, exx.fr C _ hx (s'.ap C hCin).2, RpL.ext exx _ _ ra, _, hr0, he⟩
        · exact (no_end hr0.symm he).elim
      · exact (no_end hr0.symm he).elim
    · exact (no_end hr0.symm he).elim
theorem q_lc [Wo] {c : Bool} (hc : X.calm = true) (hN : X.N.Nodup) (hi : PI X tg iter (tI X W fi)) (ok : BlkOk X.N X.env.scope scope own) (hsl : ∀ i ∈ sl, i ∈ own.map (·.2))
    (hg : ∀ (s : Shared) (H : Hp) (C : Addr) (cl : List (Str × Addr)) (fp : List Addr), PG (X.blk s H scope (compEnvC scope cl C X.env) fp) tg (tG (X.blk s H scope (compEnvC scope cl C X.env) fp) sl g)) (ht : ∀ (s : Shared) (H : Hp) (C : Addr) (cl : List (Str × Addr)) (fp : List Addr), PTs (X.blk s H scope (compEnvC scope cl C X.env) fp) ifs (tT (X.blk s H scope (compEnvC scope cl C X.env) fp) W0 tt))
    (he : ∀ (s : Shared) (H : Hp) (C : Addr) (cl : List (Str × Addr)) (fp : List Addr), PE (X.blk s H scope (compEnvC scope cl C X.env) fp) elt (tF (X.blk s H scope (compEnvC scope cl C X.env) fp) W0 te)) (hs : ∀ x, foldedSetIterable iter X.env x = pure x := by intro _; rfl) :
    PE X (.ListComp elt [⟨tg, iter, ifs, 0⟩] scope pos) (tF X W (fLc c fi g tt te (own.map (·.2)))) :=
  PE.wk (pe_lc (g := tG X sl g) (tt := tT X W0 tt) (te := tF X W0 te) hc hN hi ok hg ht he hs) fun σ H Q h => lc_core' hsl h
theorem q_setLc [Wo] {c : Bool} {i : Nat} {y : Str} {py spos : Pos} (hc : X.calm = true) (hN : X.N.Nodup) (hy : X.N[i]? = some y) (hyl : X.env.scope.names.lookup y = some .local)
    (hsw : swapsWith (.ListComp elt [⟨tg, iter, ifs, 0⟩] scope pos) (some (.Name y py)) spos.line X.env = pure true) (hi : PI X tg iter (tI X W fi)) (ok : BlkOk X.N X.env.scope scope own) (hsl : ∀ i ∈ sl, i ∈ own.map (·.2))
    (hg : ∀ (s : Shared) (H : Hp) (C : Addr) (cl : List (Str × Addr)) (fp : List Addr), PG (X.blk s H scope (compEnvC scope cl C X.env) fp) tg (tG (X.blk s H scope (compEnvC scope cl C X.env) fp) sl g)) (ht : ∀ (s : Shared) (H : Hp) (C : Addr) (cl : List (Str × Addr)) (fp : List Addr), PTs (X.blk s H scope (compEnvC scope cl C X.env) fp) ifs (tT (X.blk s H scope (compEnvC scope cl C X.env) fp) W0 tt))
    (he : ∀ (s : Shared) (H : Hp) (C : Addr) (cl : List (Str × Addr)) (fp : List Addr), PE (X.blk s H scope (compEnvC scope cl C X.env) fp) elt (tF (X.blk s H scope (compEnvC scope cl C X.env) fp) W0 te)) (hs : ∀ x, foldedSetIterable iter X.env x = pure x := by intro _; rfl) :
    PS X (.Assign [.Name y py] (.ListComp elt [⟨tg, iter, ifs, 0⟩] scope pos) spos) (tS X W (sSet i (fLc c fi g tt te (own.map (·.2))))) :=
  PS.wk (ps_setLc (g := tG X sl g) (tt := tT X W0 tt) (te := tF X W0 te) hc hN hy hyl hsw hi ok hg ht he hs) fun D σ H ⟨w, ρ, S, s, en, h⟩ => by
    refine lc_core' (Q := fun x H1 => gName i x σ H1 D.nx) hsl ⟨w, ρ, S, s, en, (h.of (R := fun w H => Rp X.K X.mg w H) en).imp (fun v H1 ⟨w1, S1, d, e1, s1, r1, h1⟩ => h1.nx' s1 ((en.ext e1).set r1)) (fun _ _ _ z => z)⟩
end
end Kw
namespace Kw
open PySem PySem.Spec PyProof.Rows L2
/-- a constant's value -/
def CV (d : D) (v : V) : Prop := match d with
  | .int i => v = .int i
  | .str z => v = .str z
  | _ => False
theorem CV.rp {K : PySem.W.Frag} {mg : Str → Option Value} {w : Wd} {H : Hp} {d : D} {v : V} (h : CV d v) : Rp K mg w H d v := by
  cases d <;> first | (exact h.elim) | (have h' := h; unfold CV at h'; subst h'; unfold Rp; rfl)
/-- the name x holds the constant d -/
def GC (mg : Str → Option Value) (x : Str) (d : D) : Prop := ∃ v u, mg x = some u ∧ RelV v u ∧ CV d v
/-- .. a dict with text keys and constants -/
def GD (K : PySem.W.Frag) (P : Params) (mg : Str → Option Value) (x : Str) (kvs : List (Str × D)) : Prop :=
  ∃ a es n, mg x = some (.ref a) ∧ K.lookup a = some ⟨.type "dict", none, .dict es n, #[]⟩ ∧ PySem.W.KeysLit P es.toList ∧ (a == sysModules) = false ∧
    ∀ z, match kvs.lookup z with
      | some d => ∃ u v, PySem.W.nsIn K a z = some (some u) ∧ RelV v u ∧ CV d v
      | none => PySem.W.nsIn K a z = some none
inductive Ents : List DictEntry → List (Str × D) → Prop
  | nil : Ents [] []
  | cons {h : Int} {k : Str} {t : Tok} {u : Value} {v : V} {d : D} {es : List DictEntry} {kvs : List (Str × D)} (r : RelV v u) (c : CV d v) (rest : Ents es kvs) : Ents (⟨h, .str k t, u⟩ :: es) ((k, d) :: kvs)
theorem Ents.find {es : List DictEntry} {kvs : List (Str × D)} (e : Ents es kvs) (z : Str) : match kvs.lookup z with
      | some d => ∃ en v, es.find? (·.key.isStr z) = some en ∧ RelV v en.val ∧ CV d v
      | none => es.find? (·.key.isStr z) = none := by
  induction e with
  | nil => rfl
  | @cons h k t u v d es kvs r c rest ih =>
    by_cases hz : z = k
    · subst hz
      have e1 : List.lookup z ((z, d) :: kvs) = some d := by simp [List.lookup]
      rw [e1]
      refine ⟨⟨h, .str z t, u⟩, v, ?_, r, c⟩
      rw [List.find?_cons_of_pos]
      simp [PySem.W.isStr_of, Value.isStrOf]
    · have e1 : List.lookup z ((k, d) :: kvs) = List.lookup z kvs := by
        have : (z == k) = false := by simpa using hz
        simp [List.lookup, this]
      rw [e1]
      have e2 : List.find? (·.key.isStr z) ((⟨h, .str k t, u⟩ : DictEntry) :: es) = List.find? (·.key.isStr z) es := by
        rw [List.find?_cons_of_neg]
        simp [PySem.W.isStr_of, Value.isStrOf]
        exact fun q => hz q.symm
      rw [e2]; exact ih
theorem Ents.noRef {es : List DictEntry} {kvs : List (Str × D)} (e : Ents es kvs) : es.any (·.refKey) = false := by
  induction e with
  | nil => rfl
  | cons r c rest ih => rw [List.any_cons, ih]; rfl
theorem GD.of {K : PySem.W.Frag} {P : Params} {mg : Str → Option Value} {x : Str} {kvs : List (Str × D)} {a : Addr} {es : Array DictEntry} {n : Nat} (m : mg x = some (.ref a)) (l : K.lookup a = some ⟨.type "dict", none, .dict es n, #[]⟩) (k : PySem.W.KeysLit P es.toList) (s : (a == sysModules) = false) (e : Ents es.toList kvs) : GD K P mg x kvs := by
  refine ⟨a, es, n, m, l, k, s, fun z => ?_⟩
  have f := e.find z
  have u : PySem.W.nsIn K a z = match es.toList.find? (·.key.isStr z) with
      | some e => some (some e.val)
      | none => if es.toList.any (·.refKey) then none else some none := by unfold PySem.W.nsIn; rw [l]; rfl
  split at f
  · obtain ⟨en, v, f1, f2, f3⟩ := f
    exact ⟨en.val, v, by rw [u, f1], f2, f3⟩
  · rw [u, f, e.noRef]; rfl
theorem RpL.ints {K : PySem.W.Frag} {mg : Str → Option Value} {w : Wd} {H : Hp} : ∀ ns : List Int, RpL K mg w H (ns.map D.int) (ns.map V.int)
  | [] => RpL.nil
  | i :: r => RpL.cons (by unfold Rp; rfl) (RpL.ints r)
def gInG (neg : Bool) (n : Str) (kvs : List (Str × D)) (x y : D) (S : Store) : RE D := match x, y with
  | .str z, .glo m => if m = n then .ok (.bl (xor neg (kvs.lookup z).isSome)) S else .no
  | _, _ => .no
def gIxG (n : Str) (kvs : List (Str × D)) (x y : D) (S : Store) : RE D := match x, y with
  | .glo m, .str z => if m = n then (match kvs.lookup z with
    | some d => .ok d S
    | none => .no) else .no
  | _, _ => .no
def gNeg (x : D) (S : Store) : RE D := match x with
  | .int i => .ok (.int (-i)) S
  | _ => .no
section
variable {X : Cx} {W : WX} {a b e : Expr} {es : List Expr} {fa fb : FE} {fs : FA} {pos : Pos} {x : Str} {kvs : List (Str × D)} {d : D}
theorem q_gc [Wo] (h : GC X.mg x d) (hg : Gl X x) (hd : (x == ("__debug__" : Str)) = false := by decide) : PE X (.Name x pos) (tF X W (fC d)) := by
  obtain ⟨v, u, m, r, c⟩ := h
  exact q_const (fun w H => c.rp) (pe_glob hg m r hd)
theorem q_gd [Wo] (h : GD X.K X.w.params X.mg x kvs) (hg : Gl X x) (hd : (x == ("__debug__" : Str)) = false := by decide) : PE X (.Name x pos) (tF X W (fC (.glo x))) := by
  obtain ⟨a, es, n, m, _⟩ := h
  exact q_const (v := .ref a) (fun w H => by unfold Rp; exact ⟨a, rfl, m⟩) (pe_glob hg m rfl hd)
theorem op_inG [Wo] {neg : Bool} {op : CmpOp} (ho : op = if neg then .NotIn else .In) (h : GD X.K X.w.params X.mg x kvs) : ∃ r, OpR X (compareOp op) r ∧ OpV X.K X.mg r (gInG neg x kvs) := by
  obtain ⟨a, es, n, m, l, k, s, f⟩ := h
  have D : KDict X.K X.w a es n := ⟨l, k, s⟩
  have key : ∀ z, PySem.W.nsIn X.K a z = some (match kvs.lookup z with
      | some d => PySem.W.nsIn X.K a z |>.getD none
      | none => none) ∧ ((match kvs.lookup z with
      | some d => PySem.W.nsIn X.K a z |>.getD none
      | none => none).isSome = (kvs.lookup z).isSome) := fun z => by
    have fz := f z
    split at fz
    · rename_i d hd
      obtain ⟨u, v, f1, _, _⟩ := fz
      rw [hd, f1]; exact ⟨rfl, rfl⟩
    · rename_i hd
      rw [hd]; exact ⟨fz, rfl⟩
  have body : ∀ (w : Wd) (S : Store) (H : Hp) (x' y : V) (d e : Kw.D) (Q : VK) (E : Value → Option Addr → Hp → Prop), Sto X.K X.mg w S H → Rp X.K X.mg w H d x' → Rp X.K X.mg w H e y → End X.K X.mg (fun w H => Rp X.K X.mg w H) w H (gInG neg x kvs d e S) Q E → ∃ (z : Str) (r : Option Value), x' = .str z ∧ y = .ref a ∧ PySem.W.nsIn X.K a z = some r ∧ Q (.bl (xor neg r.isSome)) H := by
    intro w S H x' y d e Q E st r1 r2 h
    cases d <;> cases e <;> simp only [gInG] at h <;> try exact h.elim
    rename_i z m'
    split at h
    · rename_i em
      subst em
      unfold Rp at r2
      obtain ⟨b, e1, e2⟩ := r2
      rw [m] at e2; cases e2
      obtain ⟨k1, k2⟩ := key z
      exact ⟨z, _, rp_str r1, e1, k1, by rw [k2]; exact h.ret st rp_b⟩
    · exact h.elim
  cases neg with
  | false =>
    subst ho
    refine ⟨_, op_in_kd D, fun w S H x' y d e Q E st r1 r2 h => ?_⟩
    obtain ⟨z, r, h1, h2, h3, h4⟩ := body w S H x' y d e Q E st r1 r2 h
    exact ⟨z, r, h1, h2, h3, by simpa using h4⟩
  | true =>
    subst ho
    refine ⟨_, op_notIn_kd D, fun w S H x' y d e Q E st r1 r2 h => ?_⟩
    obtain ⟨z, r, h1, h2, h3, h4⟩ := body w S H x' y d e Q E st r1 r2 h
    exact ⟨z, r, h1, h2, h3, by simpa using h4⟩
theorem qt_inG [Wo] (h : GD X.K X.w.params X.mg x kvs) (ha : PE X a (tF X W fa)) (hb : PE X b (tF X W fb)) (hm : behindInMarks .In b = false := by rfl) : PT X (.Compare a [.In] [b] pos) (tT X W (fB (f2 (gInG false x kvs) fa fb))) := by
  obtain ⟨r, h1, h2⟩ := op_inG (neg := false) (op := .In) rfl h
  exact qt_cmp h1 h2 ha hb hm
theorem q_neg [Wo] (ha : PE X a (tF X W fa)) : PE X (.UnaryOp .USub a pos) (tF X W (f1 gNeg fa)) := PE.wk (pe_un un_neg ha) fun σ H Q ⟨w, ρ, S, s, en, h⟩ =>
  ⟨w, ρ, S, s, en, (End.bind (R := fun w H => Rp X.K X.mg w H) h).imp (fun v H1 ⟨w1, S1, d, e1, s1, r1, h1⟩ => by
    cases d <;> simp only [gNeg] at h1 <;> try exact h1.elim
    exact ⟨_, rp_int r1, h1.ret s1 rp_i⟩) (fun _ _ _ z => z)⟩
end
def ExcF (K : PySem.W.Frag) (mg : Str → Option Value) (x : Str) : Prop := ∃ C, mg x = some (.ref C) ∧ PySem.W.excIn K C [.type "ValueError", .type "Exception", .type "BaseException", .type "object"] "ValueError.__new__" = true ∧
  PySem.W.keepIn K (.ref C) = true ∧ PySem.W.subIn K (.ref C) (.type "BaseException") = some true ∧ PySem.W.typeIn K (.ref C) = some (.type "type")
def sRaise (x : Str) : FS := fun ρ S => .ex ⟨x, [], []⟩ ρ S
def RS.noX (r : RS) : RS := match r with
  | .ex _ _ _ => .no
  | r => r
section
variable {X : Cx} {W : WX} {x m : Str} {j : Nat} {p p2 pos pos' : Pos}
theorem q_raise [Wo] (hc : X.calm = true) (tk : Takes X W) (h : ExcF X.K X.mg x) (hg : Gl X x) (hdb : (x == ("__debug__" : Str)) = false := by decide) : PS X (.Raise (some (.Call (.Name x p) [.Constant (.str m) j p2] [] pos)) none pos') (tS X W (sRaise x)) := by
  obtain ⟨C, gC, xC, kC, bC, tC⟩ := h
  refine PS.wk (ps_raise hc tk (pmk_own PySem.F.excBase_ValueError xC gC kC (raises_own bC tC) hg hdb)) fun D σ H ⟨w, ρ, S, s, en, h⟩ => ?_
  exact h w H σ (.ref C) none Ext.refl s en ⟨gC, .inl ⟨rfl, rfl, rfl⟩⟩
end
end Kw
namespace Kw
open PySem PySem.Spec PyProof.Rows L2
/-- the def x stands at the module's top -/
def TF (K : PySem.W.Frag) (mg : Str → Option Value) (x : Str) (st : Stmt) (ps : List Str) : Prop := ∃ f fd, Fun K x x st f fd ∧ mg x = some (.ref f) ∧ Binds K fd ps []
section
variable {K : PySem.W.Frag} {mg : Str → Option Value} {h : Heap}
theorem tf_mk {x : Str} {st : Stmt} {ps : List Str} {f : Addr} {oc : Value} {od an : Option Addr} {osl : Array (Option Value)} {kV doc pm cdv ct : Value} (X : K.In h) (G : h.Ns mainGlobals mg) (a : PySem.W.nsIn K mainGlobals x = some (some (.ref f)))
    (l : K.lookup f = some ⟨oc, od, .func (PySem.W.fnOf x x (defArgs st) (defBody st) (defScope st) .none kV doc pm an cdv ct), osl⟩) (c : PySem.W.codeIn K cdv x = true) (k : PySem.W.keepIn K (.ref f) = true)
    (hb : ∀ (kV doc pm : Value) (an : Option Addr) (cdv ct : Value) (us : List Value), us.length = ps.length → bindArgs (PySem.W.fnOf x x (defArgs st) (defBody st) (defScope st) .none kV doc pm an cdv ct) ⟨us, []⟩ = pure (ps.zip us)) : TF K mg x st ps :=
  ⟨f, _, fun_mk l c k, PySem.W.mg_of X G a, (fun_mk l c k).binds hb⟩
theorem bl_mk {x : Str} (X : K.In h) (G : h.Ns mainGlobals mg) (z : PySem.W.nsIn K mainGlobals x = some none) : mg x = none := PySem.W.mg_none_of X G z
theorem gc_int {x : Str} {i : Int} {t : Tok} (X : K.In h) (G : h.Ns mainGlobals mg) (z : PySem.W.nsIn K mainGlobals x = some (some (.int i t))) : GC mg x (.int i) := ⟨.int i, _, PySem.W.mg_of X G z, ⟨t, rfl⟩, rfl⟩
theorem gc_str {x : Str} {i : Str} {t : Tok} (X : K.In h) (G : h.Ns mainGlobals mg) (z : PySem.W.nsIn K mainGlobals x = some (some (.str i t))) : GC mg x (.str i) := ⟨.str i, _, PySem.W.mg_of X G z, ⟨t, rfl⟩, rfl⟩
theorem gd_mk {P : Params} {x : Str} {kvs : List (Str × D)} {a : Addr} {es : Array DictEntry} {n : Nat} (X : K.In h) (G : h.Ns mainGlobals mg) (z : PySem.W.nsIn K mainGlobals x = some (some (.ref a))) (l : K.lookup a = some ⟨.type "dict", none, .dict es n, #[]⟩) (k : PySem.W.KeysLit P es.toList) (s : (a == sysModules) = false) (e : Ents es.toList kvs) : GD K P mg x kvs :=
  GD.of (PySem.W.mg_of X G z) l k s e
theorem exc_mk {x : Str} {C : Addr} (X : K.In h) (G : h.Ns mainGlobals mg) (z : PySem.W.nsIn K mainGlobals x = some (some (.ref C))) (h1 : PySem.W.excIn K C [.type "ValueError", .type "Exception", .type "BaseException", .type "object"] "ValueError.__new__" = true)
    (h2 : PySem.W.keepIn K (.ref C) = true) (h3 : PySem.W.subIn K (.ref C) (.type "BaseException") = some true) (h4 : PySem.W.typeIn K (.ref C) = some (.type "type")) : ExcF K mg x := ⟨C, PySem.W.mg_of X G z, h1, h2, h3, h4⟩
end
section
variable {P : Program} {w : World} {K : PySem.W.Frag} {mg : Str → Option Value} {base : Heap}
theorem cal_zero [Wo] {x : Str} {st : Stmt} {ps : List Str} (T : TF K mg x st ps) (hps : ps = (defArgs st).args.map (·.arg) := by rfl) : Cal P w K mg base 0 x (fun _ _ => .no) := by
  obtain ⟨f, fd, F, m, b⟩ := T
  exact ⟨f, fd, ps, ⟨fun vs H Q E ⟨w, S, ds, s, r, l, h⟩ => by rw [← r.length]; exact l, fun A outer s H args us vs Q E _ _ _ _ ⟨w, S, ds, st, r, l, h⟩ => h.elim⟩, m, F.kp, b, fun _ _ _ => rfl, hps.trans (fun_names F).symm, fun_look F⟩
theorem calB [Wo] {x : Str} {st : Stmt} {N ps : List Str} {k : Nat} {b : FS} (T : TF K mg x st ps) (S : FnScope N ps (defScope st))
    (hb : ∀ (f : Addr) (cdv : Value) (A : Around) (outer : List Env) (s : Shared) (H : Hp) (E : XK), RoomG k (A.deeper (envOfC x (defScope st) s.heap.objs.size f cdv)) →
      PSs (cxOf (L2.CX P w) P w K mg base N x (defScope st) f cdv A outer s H E) (defBody st) (tS (cxOf (L2.CX P w) P w K mg base N x (defScope st) f cdv A outer s H E) (fun c d _ H => E c d H) b)) (hps : ps = (defArgs st).args.map (·.arg) := by rfl) :
    Cal P w K mg base (k + 1) x (fnB ps.length N.length b) := by
  obtain ⟨f, fd, F, m, bd⟩ := T
  exact cal_B F S m bd hps (hb f)
theorem calC [Wo] {x : Str} {st : Stmt} {N ps : List Str} {k : Nat} {b : FS} (T : TF K mg x st ps) (S : FnScope N ps (defScope st))
    (hb : ∀ (f : Addr) (cdv : Value) (A : Around) (outer : List Env) (s : Shared) (H : Hp) (E : XK), RoomG k (A.deeper (envOfC x (defScope st) s.heap.objs.size f cdv)) →
      PSs (cxOf (L2.CX P w) P w K mg base N x (defScope st) f cdv A outer s H E) (defBody st) (tS (cxOf (L2.CX P w) P w K mg base N x (defScope st) f cdv A outer s H E) (fun c d _ H => E c d H) b)) (hps : ps = (defArgs st).args.map (·.arg) := by rfl) :
    Cal P w K mg base (k + 1) x (fnC ps.length N.length b) := by
  obtain ⟨f, fd, F, m, bd⟩ := T
  exact cal_C F S m bd hps (hb f)
end
theorem hu2 {A : Around} {k : Nat} (hr : RoomG k A) : A.units + 200 < cLine := by have := hr.rm.un; omega
section
variable {K : PySem.W.Frag} {mg : Str → Option Value}
/-- the heap in which nothing is told but the script -/
def scrO (vs : List Value) : Obj := { cls := .type "list", data := .seq vs.toArray }
theorem cx_no {P : Program} {w : World} {H : Hp} {s s' : Shared} {e : Value} (h : L2.CX P w [] H s (fun _ _ _ => False) e s') : False := by
  obtain ⟨_, _, _, _, _, _, _, _, _, _, _, _, z⟩ := h
  exact z
end
end Kw
namespace Kw
open PySem PySem.Spec PyProof.Rows L2
def fDic (ks : List Key) (ds : List D) : FE := fun _ S => .ok (.dic ks ds) S
def lookK (k : Key) : List Key → List D → Option D
  | a :: ks, d :: ds => if a = k then some d else lookK k ks ds
  | _, _ => none
/-- a dict that is asked -/
def gIxD (x y : D) (S : Store) : RE D := match x with
  | .dic ks ds => (match y with
    | .str z => (match lookK (.inr z) ks ds with
      | some d => .ok d S
      | none => .no)
    | .int i => (match lookK (.inl i) ks ds with
      | some d => .ok d S
      | none => .no)
    | _ => .no)
  | _ => .no
section
variable {X : Cx} {W : WX} {a b : Expr} {fa fb : FE} {pos : Pos}
theorem new_dic [Wo] {w : Wd} {S : Store} {H : Hp} {Q : VK} {E : Value → Option Addr → Hp → Prop} {ks : List Key} {ds : List D} {vs : List V} {p : Addr} (s : Sto X.K X.mg w S H) (np : H p = none) (hl : ks.length = vs.length) (r : RpL X.K X.mg w H ds vs)
    (h : End X.K X.mg (fun w H => Rp X.K X.mg w H) w H (.ok (.dic ks ds) S) Q E) : Q (.ref p) (upd H p (.dK (ks.zip vs))) := by
  refine h w _ _ (Ext.new np) (s.beside np) ?_
  show Rp _ _ _ _ _ _
  unfold Rp
  exact ⟨p, vs, rfl, upd_same, s.new np, hl, RpL.ext (Ext.new np) _ _ r⟩
theorem q_dic0 [Wo] : PE X (.Dict [] [] pos) (tF X W (fDic [] [])) := PE.wk pe_dnewK fun σ H Q ⟨w, ρ, S, s, en, h⟩ => fun p np => new_dic (ks := []) (vs := []) s np rfl RpL.nil h
end
end Kw
namespace Kw
open PySem PySem.Spec PyProof.Rows L2
theorem ofString_inj {a b : String} (h : Str.ofString a = Str.ofString b) : a = b := by
  have h1 : (Str.ofString a).cps.toList = (Str.ofString b).cps.toList := by rw [h]
  have key : ∀ s : String, (Str.ofString s).cps.toList = s.toList.map Char.toNat := fun s => by
    show ((cpsOfBytes 0 0 s.toByteArray.data.toList).toArray).toList = _
    rw [cpsOfBytes_string]
  rw [key, key] at h1
  have inj : ∀ {l m : List Char}, l.map Char.toNat = m.map Char.toNat → l = m := fun {l m} h => List.map_inj_right (fun x y e => Char.toNat_inj.mp e) |>.mp h
  have h2 := inj h1
  rw [← String.ofList_toList (s := a), ← String.ofList_toList (s := b), h2]
@[simp] theorem ofString_eq {a b : String} : (Str.ofString a = Str.ofString b) ↔ a = b := ⟨ofString_inj, fun h => by rw [h]⟩
@[simp] theorem ofString_beq {a b : String} : (Str.ofString a == Str.ofString b) = decide (a = b) := by
  by_cases h : a = b
  · subst h; simp
  · have : Str.ofString a ≠ Str.ofString b := fun q => h (ofString_inj q)
    simp [h, this]
@[simp] theorem strOk_of (a : String) : PyData.strOk (Str.ofString a) = true := by
  have key : (Str.ofString a).cps.toList = a.toList.map Char.toNat := by
    show ((cpsOfBytes 0 0 a.toByteArray.data.toList).toArray).toList = _
    rw [cpsOfBytes_string]
  unfold PyData.strOk
  rw [← Array.all_toList, key, List.all_map, List.all_eq_true]
  intro c _
  have h := c.valid
  simp only [UInt32.isValidChar, Nat.isValidChar] at h
  show decide (c.toNat < 1114112) = true
  rw [decide_eq_true_eq]
  show c.val.toNat < 1114112
  omega
section
variable {α β : Type} {a : α} {S : Store} {x : Ex} {f : α → Store → RE β} {ρ : FEnv} {k : α → Store → RS}
@[simp] theorem bnd_ok : (RE.ok a S).bnd f = f a S := rfl
@[simp] theorem bnd_ex : (RE.ex x S : RE α).bnd f = .ex x S := rfl
@[simp] theorem bnd_no : (RE.no : RE α).bnd f = .no := rfl
@[simp] theorem toS_ok : (RE.ok a S).toS ρ k = k a S := rfl
@[simp] theorem toS_ex : (RE.ex x S : RE α).toS ρ k = .ex x ρ S := rfl
@[simp] theorem toS_no : (RE.no : RE α).toS ρ k = .no := rfl
variable {g : FS} {d : D} {ρ' : FEnv}
@[simp] theorem sb_nx : (RS.nx ρ S).bnd g = g ρ S := rfl
@[simp] theorem sb_rt : (RS.rt d S).bnd g = .rt d S := rfl
@[simp] theorem sb_bk : (RS.bk ρ S).bnd g = .bk ρ S := rfl
@[simp] theorem sb_ct : (RS.ct ρ S).bnd g = .ct ρ S := rfl
@[simp] theorem sb_ex : (RS.ex x ρ S).bnd g = .ex x ρ S := rfl
@[simp] theorem sb_no : (RS.no).bnd g = .no := rfl
@[simp] theorem fin_nx : (RS.nx ρ S).fin = .ok .non S := rfl
@[simp] theorem fin_rt : (RS.rt d S).fin = .ok d S := rfl
@[simp] theorem fin_ex : (RS.ex x ρ S).fin = .ex x S := rfl
end
section
variable {ρ : FEnv} {S : Store} {d e : D} {x : Option D} {i : Nat} {a b c : FE} {fs : FA} {ta tb : FT}
@[simp] theorem fVar_z : fVar 0 (some d :: ρ) S = .ok d S := rfl
@[simp] theorem fVar_s : fVar (i + 1) (x :: ρ) S = fVar i ρ S := rfl
@[simp] theorem fC_ap : fC d ρ S = .ok d S := rfl
@[simp] theorem f1_ap {g : D → Store → RE D} : f1 g a ρ S = (a ρ S).bnd g := rfl
@[simp] theorem f2_ap {g : D → D → Store → RE D} : f2 g a b ρ S = (a ρ S).bnd fun x S1 => (b ρ S1).bnd fun y S2 => g x y S2 := rfl
@[simp] theorem fNil_ap : fNil ρ S = .ok [] S := rfl
@[simp] theorem fCons_ap : fCons a fs ρ S = (a ρ S).bnd fun x S1 => (fs ρ S1).bnd fun xs S2 => .ok (x :: xs) S2 := rfl
@[simp] theorem fArg_ap {g : FF} : fArg g fs ρ S = (fs ρ S).bnd g := rfl
def toB (d : D) (S : Store) : RE Bool := match d with
  | .bl k => .ok k S
  | _ => .no
@[simp] theorem toB_bl {k : Bool} : toB (.bl k) S = .ok k S := rfl
@[simp] theorem fB_ap : fB a ρ S = (a ρ S).bnd toB := rfl
def brB (d : D) (S : Store) (t f : RE D) : RE D := match d with
  | .bl k => if k then t else f
  | _ => .no
@[simp] theorem brB_bl {k : Bool} {t f : RE D} : brB (.bl k) S t f = if k then t else f := rfl
@[simp] theorem fChain_ap {g g' : D → D → Store → RE D} : fChain g g' a b c ρ S = (a ρ S).bnd fun x S1 => (b ρ S1).bnd fun y S2 => (g x y S2).bnd fun k S3 => brB k S3 ((c ρ S3).bnd fun z S4 => g' y z S4) (.ok (.bl false) S3) := by
  unfold fChain
  congr; funext x S1; congr; funext y S2; congr; funext k S3
  cases k <;> try rfl
  rename_i k; cases k <;> rfl
@[simp] theorem fAnd_ap : fAnd ta tb ρ S = (ta ρ S).bnd fun k S1 => if k then tb ρ S1 else .ok false S1 := by
  unfold fAnd; congr; funext k S1; cases k <;> rfl
@[simp] theorem fOr_ap : fOr ta tb ρ S = (ta ρ S).bnd fun k S1 => if k then .ok true S1 else tb ρ S1 := by
  unfold fOr; congr; funext k S1; cases k <;> rfl
@[simp] theorem fNot_ap : fNot ta ρ S = (ta ρ S).bnd fun k S1 => .ok (!k) S1 := rfl
@[simp] theorem fIf_ap : fIf ta a b ρ S = (ta ρ S).bnd fun k S1 => if k then a ρ S1 else b ρ S1 := by
  unfold fIf; congr; funext k S1; cases k <;> rfl
@[simp] theorem fAndV_ap : fAndV a b ρ S = (a ρ S).bnd fun k S1 => brB k S1 (b ρ S1) (.ok (.bl false) S1) := by
  unfold fAndV; congr; funext k S1; cases k <;> try rfl
  rename_i k; cases k <;> rfl
@[simp] theorem fOrV_ap : fOrV a b ρ S = (a ρ S).bnd fun k S1 => brB k S1 (.ok (.bl true) S1) (b ρ S1) := by
  unfold fOrV; congr; funext k S1; cases k <;> try rfl
  rename_i k; cases k <;> rfl
def truR (d : D) (S : Store) : RE Bool := match truD S d with
  | some k => .ok k S
  | none => .no
@[simp] theorem truR_bl {k : Bool} : truR (.bl k) S = .ok k S := rfl
@[simp] theorem truR_int {k : Int} : truR (.int k) S = .ok (k != 0) S := rfl
@[simp] theorem truR_non : truR .non S = .ok false S := rfl
@[simp] theorem truR_lst {ds : List D} : truR (.lst ds) S = .ok (!ds.isEmpty) S := rfl
@[simp] theorem truR_tup {ds : List D} : truR (.tup ds) S = .ok (!ds.isEmpty) S := rfl
@[simp] theorem fTru_ap : fTru a ρ S = (a ρ S).bnd truR := rfl
@[simp] theorem fNotV_ap : fNotV a ρ S = (a ρ S).bnd fun x S1 => (truR x S1).bnd fun k S2 => .ok (.bl (!k)) S2 := by
  unfold fNotV; congr; funext x S1; unfold truR; cases truD S1 x <;> rfl
def isiR (T : String) (d : D) (S : Store) : RE D := match tyD S d with
  | some t => .ok (.bl (isiB t T)) S
  | none => .no
@[simp] theorem fIsi_ap {T : String} : fIsi T a ρ S = (a ρ S).bnd (isiR T) := rfl
@[simp] theorem isi_int {T : String} {i : Int} : isiR T (.int i) S = .ok (.bl (decide (T = "int"))) S := by
  have : (isiB "int" T) = decide (T = "int") := by
    unfold isiB
    by_cases h : T = "int"
    · subst h; rfl
    · have h' : ¬ "int" = T := fun z => h z.symm
      simp [h, h']
  show RE.ok (D.bl (isiB "int" T)) S = _
  rw [this]
@[simp] theorem isi_bl {T : String} {i : Bool} : isiR T (.bl i) S = .ok (.bl (decide (T = "bool") || decide (T = "int"))) S := by
  have : (isiB "bool" T) = (decide (T = "bool") || decide (T = "int")) := by
    unfold isiB
    by_cases h : T = "bool"
    · subst h; rfl
    · have h' : ¬ "bool" = T := fun z => h z.symm
      by_cases h2 : T = "int"
      · subst h2; rfl
      · simp [h, h', h2]
  show RE.ok (D.bl (isiB "bool" T)) S = _
  rw [this]
theorem isiB_other {t T : String} (h : t ≠ "bool") : isiB t T = decide (T = t) := by
  unfold isiB
  by_cases e : T = t
  · subst e; simp
  · have e' : ¬ t = T := fun z => e z.symm
    simp [h, e, e']
@[simp] theorem isi_str {T : String} {i : Str} : isiR T (.str i) S = .ok (.bl (decide (T = "str"))) S := by
  show RE.ok (D.bl (isiB "str" T)) S = _
  rw [isiB_other (by decide)]
@[simp] theorem isi_non {T : String} : isiR T .non S = .ok (.bl (decide (T = "NoneType"))) S := by
  show RE.ok (D.bl (isiB "NoneType" T)) S = _
  rw [isiB_other (by decide)]
@[simp] theorem isi_tup {T : String} {ds : List D} : isiR T (.tup ds) S = .ok (.bl (decide (T = "tuple"))) S := by
  show RE.ok (D.bl (isiB "tuple" T)) S = _
  rw [isiB_other (by decide)]
@[simp] theorem isi_lst {T : String} {ds : List D} : isiR T (.lst ds) S = .ok (.bl (decide (T = "list"))) S := by
  show RE.ok (D.bl (isiB "list" T)) S = _
  rw [isiB_other (by decide)]
@[simp] theorem isi_dic {T : String} {ks : List Key} {ds : List D} : isiR T (.dic ks ds) S = .ok (.bl (decide (T = "dict"))) S := by
  show RE.ok (D.bl (isiB "dict" T)) S = _
  rw [isiB_other (by decide)]
theorem isi_loc {T : String} {n : Nat} {ds : List D} (h : cellOf S n = some ds) : isiR T (.loc n) S = .ok (.bl (decide (T = "list"))) S := by
  show (match (cellOf S n).map (fun _ => "list") with | some t => RE.ok (D.bl (isiB t T)) S | none => .no) = _
  rw [h]
  show RE.ok (D.bl (isiB "list" T)) S = _
  rw [isiB_other (by decide)]
end
section
variable {ρ : FEnv} {S : Store} {f g : FS} {fe : FE} {tc : FT} {i : Nat} {fa : FA}
@[simp] theorem sNil_ap : sNil ρ S = .nx ρ S := rfl
@[simp] theorem sSeq_ap : sSeq f g ρ S = (f ρ S).bnd g := rfl
@[simp] theorem sExp_ap : sExp fe ρ S = (fe ρ S).toS ρ fun _ S1 => .nx ρ S1 := rfl
@[simp] theorem sRet_ap : sRet fe ρ S = (fe ρ S).toS ρ fun d S1 => .rt d S1 := rfl
@[simp] theorem sRetN_ap : sRetN ρ S = .rt .non S := rfl
@[simp] theorem sSet_ap : sSet i fe ρ S = (fe ρ S).toS ρ fun d S1 => .nx (ρ.set i (some d)) S1 := rfl
@[simp] theorem sIf_ap : sIf tc f g ρ S = (tc ρ S).toS ρ fun k S1 => if k then f ρ S1 else g ρ S1 := by
  unfold sIf; congr; funext k S1; cases k <;> rfl
@[simp] theorem sRaise_ap {x : Str} : sRaise x ρ S = .ex ⟨x, [], []⟩ ρ S := rfl
def gRes (r : Option (FEnv × Store)) : RS := match r with
  | some (ρ', S') => .nx ρ' S'
  | none => .no
@[simp] theorem gRes_some {ρ' : FEnv} {S' : Store} : gRes (some (ρ', S')) = .nx ρ' S' := rfl
@[simp] theorem sAsg_ap {g : FG} : sAsg fe g ρ S = (fe ρ S).toS ρ fun d S1 => gRes (g d ρ S1) := rfl
@[simp] theorem gN_ap {d : D} : gN i d ρ S = some (ρ.set i (some d), S) := rfl
@[simp] theorem gsNil_ap : gsNil [] ρ S = some (ρ, S) := rfl
def gBnd (r : Option (FEnv × Store)) (k : FEnv → Store → Option (FEnv × Store)) : Option (FEnv × Store) := match r with
  | some (ρ', S') => k ρ' S'
  | none => none
@[simp] theorem gBnd_some {ρ' : FEnv} {S' : Store} {k : FEnv → Store → Option (FEnv × Store)} : gBnd (some (ρ', S')) k = k ρ' S' := rfl
@[simp] theorem gsCons_ap {g : FG} {gs : FGs} {d : D} {r : List D} : gsCons g gs (d :: r) ρ S = gBnd (g d ρ S) (gs r) := rfl
@[simp] theorem gTu_ap {n : Nat} {gs : FGs} {ds : List D} : gTu n gs (.tup ds) ρ S = if ds.length = n then gs ds ρ S else none := rfl
def par2 (i j : Nat) (ρ : FEnv) (ds : List D) (S : Store) : RS := match ds with
  | [x, y] => .nx ((ρ.set i (some x)).set j (some y)) S
  | _ => .no
@[simp] theorem par2_ap {j : Nat} {x y : D} : par2 i j ρ [x, y] S = .nx ((ρ.set i (some x)).set j (some y)) S := rfl
@[simp] theorem sPar_ap' {j : Nat} : sPar i j fa ρ S = (fa ρ S).toS ρ (par2 i j ρ) := rfl
def augR (i : Nat) (g : D → D → Store → RE D) (x : Option (Option D)) (f : FE) (ρ : FEnv) (S : Store) : RS := match x with
  | some (some x) => (f ρ S).toS ρ fun y S1 => (g x y S1).toS ρ fun z S2 => .nx (ρ.set i (some z)) S2
  | _ => .no
@[simp] theorem augR_ap {g : D → D → Store → RE D} {x : D} : augR i g (some (some x)) fe ρ S = (fe ρ S).toS ρ fun y S1 => (g x y S1).toS ρ fun z S2 => .nx (ρ.set i (some z)) S2 := rfl
@[simp] theorem sAug_ap {g : D → D → Store → RE D} : sAug i g fe ρ S = augR i g ρ[i]? fe ρ S := rfl
end
section
variable {S : Store} {i j : Int} {a b : Str} {c : Bool} {xs ys ds : List D} {k : Bool} {d e : D}
@[simp] theorem gAdd_ii : gAdd c (.int i) (.int j) S = .ok (.int (i + j)) S := rfl
@[simp] theorem gAdd_ss : gAdd c (.str a) (.str b) S = if a.length + b.length ≤ sizeLine then .ok (.str (a ++ b)) S else .no := rfl
@[simp] theorem gAdd_tt : gAdd c (.tup xs) (.tup ys) S = mkTup (xs ++ ys) S := rfl
@[simp] theorem gAdd_ll : gAdd false (.lst xs) (.lst ys) S = mkLst (xs ++ ys) S := rfl
@[simp] theorem gSub_ii : Kw.gSub (.int i) (.int j) S = .ok (.int (i - j)) S := rfl
@[simp] theorem gMul_ii : gMul c (.int i) (.int j) S = if CMul i j ∨ CMulW i j then .ok (.int (i * j)) S else .no := rfl
@[simp] theorem gMod_ii : gMod (.int i) (.int j) S = if 0 < j then .ok (.int (i % j)) S else .no := rfl
@[simp] theorem gDiv_ii : gDiv (.int i) (.int j) S = if 0 < j ∧ j.natAbs.log2 < 9000 then .ok (.int (i / j)) S else .no := rfl
@[simp] theorem gPow_ii : gPow (.int i) (.int j) S = if 0 ≤ j ∧ j ≤ 1000000 ∧ i.natAbs < 2 ^ 64 then .ok (.int (i ^ j.toNat)) S else .no := rfl
@[simp] theorem gIAdd_ii : gIAdd (.int i) (.int j) S = .ok (.int (i + j)) S := rfl
@[simp] theorem gNeg_i : gNeg (.int i) S = .ok (.int (-i)) S := rfl
@[simp] theorem gCmp_ii {p : Int → Int → Bool} : gCmp p (.int i) (.int j) S = .ok (.bl (p i j)) S := rfl
@[simp] theorem gEq_ss : gEq (.str a) (.str b) S = .ok (.bl (a == b)) S := rfl
@[simp] theorem gNe_ss : gNe (.str a) (.str b) S = .ok (.bl (!(a == b))) S := rfl
@[simp] theorem gEq_ii : gEq (.int i) (.int j) S = .ok (.bl (i == j)) S := by
  simp [gEq, eqE, pyS, okPy, PyData.canLay0, PyData.depth, PyData.eqv]
@[simp] theorem gNe_ii : gNe (.int i) (.int j) S = .ok (.bl (!(i == j))) S := by
  simp [gNe, eqE, pyS, okPy, PyData.canLay0, PyData.depth, PyData.eqv]
@[simp] theorem gEq_bb {i j : Bool} : gEq (.bl i) (.bl j) S = .ok (.bl (i == j)) S := by
  simp [gEq, eqE, pyS, okPy, PyData.canLay0, PyData.depth, PyData.eqv]
@[simp] theorem gNe_bb {i j : Bool} : gNe (.bl i) (.bl j) S = .ok (.bl (!(i == j))) S := by
  simp [gNe, eqE, pyS, okPy, PyData.canLay0, PyData.depth, PyData.eqv]
@[simp] theorem gLen_tup : gLen [.tup ds] S = .ok (.int ds.length) S := rfl
@[simp] theorem gLen_lst : gLen [.lst ds] S = .ok (.int ds.length) S := rfl
@[simp] theorem gLen_fls : gLen [.fls ds] S = .ok (.int ds.length) S := rfl
@[simp] theorem gLen_str : gLen [.str a] S = if a.length ≤ sizeLine then .ok (.int a.length) S else .no := rfl
@[simp] theorem gInt_i : gInt [.int i] S = .ok (.int i) S := rfl
@[simp] theorem gInt_b : gInt [.bl k] S = .ok (.int (if k then 1 else 0)) S := rfl
@[simp] theorem gTuple_lst : gTuple [.lst ds] S = .ok (.tup ds) S := rfl
@[simp] theorem gTuple_tup : gTuple [.tup ds] S = .ok (.tup ds) S := rfl
@[simp] theorem gList_lst : gList false [.lst ds] S = .ok (.lst ds) S := rfl
@[simp] theorem gList_tup : gList false [.tup ds] S = .ok (.lst ds) S := rfl
@[simp] theorem gIs_nn : gIs c .non .non S = .ok (.bl (xor c true)) S := rfl
@[simp] theorem gIs_tn : gIs c (.tup ds) .non S = .ok (.bl (xor c false)) S := rfl
@[simp] theorem gIs_ln : gIs c (.lst ds) .non S = .ok (.bl (xor c false)) S := rfl
@[simp] theorem gIs_in : gIs c (.int i) .non S = .ok (.bl (xor c false)) S := rfl
@[simp] theorem gIs_sn : gIs c (.str a) .non S = .ok (.bl (xor c false)) S := rfl
@[simp] theorem gIs_bn : gIs c (.bl k) .non S = .ok (.bl (xor c false)) S := rfl
@[simp] theorem gIs_bb {l : Bool} : gIs c (.bl k) (.bl l) S = .ok (.bl (xor c (decide (k = l)))) S := rfl
def ixR (ds : List D) (i : Int) (S : Store) : RE D := match L2.atI ds i with
  | some d => .ok d S
  | none => .no
@[simp] theorem ixR_nat {n : Nat} : ixR ds (n : Int) S = match ds[n]? with
  | some d => .ok d S
  | none => .no := by
  unfold ixR
  cases h : ds[n]? with
  | some d => rw [atI_nat h]
  | none =>
    have hl : ds.length ≤ n := List.getElem?_eq_none_iff.mp h
    have : L2.atI ds (n : Int) = none := by
      unfold L2.atI ixN
      rw [if_pos (by omega), if_neg (by omega)]; rfl
    rw [this]
@[simp] theorem ixR_0 : ixR (d :: ds) 0 S = .ok d S := by
  have := ixR_nat (ds := d :: ds) (n := 0) (S := S)
  simpa using this
@[simp] theorem ixR_1 : ixR (d :: e :: ds) 1 S = .ok e S := by
  have := ixR_nat (ds := d :: e :: ds) (n := 1) (S := S)
  simpa using this
@[simp] theorem ixR_2 {e' : D} : ixR (d :: e :: e' :: ds) 2 S = .ok e' S := by
  have := ixR_nat (ds := d :: e :: e' :: ds) (n := 2) (S := S)
  simpa using this
@[simp] theorem gIx_tup : gIx (.tup ds) (.int i) S = ixR ds i S := rfl
@[simp] theorem gIx_lst : gIx (.lst ds) (.int i) S = ixR ds i S := rfl
@[simp] theorem gIx_fls : gIx (.fls ds) (.int i) S = ixR ds i S := rfl
theorem gIx_loc {n : Nat} (h : cellOf S n = some ds) : gIx (.loc n) (.int i) S = ixR ds i S := by
  show (match cellOf S n with | some ds => ixR ds i S | none => .no) = _
  rw [h]
end
@[simp] theorem short2 {n : Nat} (h : n ≤ 1000) : (n ≤ sizeLine) = True := eq_true (Nat.le_trans h (by decide))
theorem sz : sizeLine = 16777216 := rfl
section
variable {S : Store} {ds : List D}
@[simp] theorem mkTup_ap : mkTup ds S = if ds.length ≤ sizeLine then .ok (.tup ds) S else .no := rfl
@[simp] theorem mkLst_ap : mkLst ds S = if ds.length ≤ sizeLine then .ok (.lst ds) S else .no := rfl
@[simp] theorem mkCel_ap : mkCel ds S = if ds.length ≤ sizeLine then .ok (.loc S.length) (S ++ [.lst ds]) else .no := rfl
section
variable {n : Nat} {b : FS} {a1 a2 a3 a4 a5 : D}
@[simp] theorem fnB_0 : fnB 0 n b [] S = (b (List.replicate n none) S).fin := rfl
@[simp] theorem fnB_1 : fnB 1 n b [a1] S = (b (some a1 :: List.replicate (n - 1) none) S).fin := rfl
@[simp] theorem fnB_2 : fnB 2 n b [a1, a2] S = (b (some a1 :: some a2 :: List.replicate (n - 2) none) S).fin := rfl
@[simp] theorem fnB_3 : fnB 3 n b [a1, a2, a3] S = (b (some a1 :: some a2 :: some a3 :: List.replicate (n - 3) none) S).fin := rfl
@[simp] theorem fnB_4 : fnB 4 n b [a1, a2, a3, a4] S = (b (some a1 :: some a2 :: some a3 :: some a4 :: List.replicate (n - 4) none) S).fin := rfl
@[simp] theorem fnB_5 : fnB 5 n b [a1, a2, a3, a4, a5] S = (b (some a1 :: some a2 :: some a3 :: some a4 :: some a5 :: List.replicate (n - 5) none) S).fin := rfl
end
end
end Kw
namespace Kw
open PySem PySem.Spec PyProof.Rows L2
section
variable {S T : Store} {n : Nat} {ds xs ys : List D} {c c' : Cell} {d x : D} {i : Int} {ρ : FEnv}
@[simp] theorem cellOf_app : cellOf (S ++ [.lst ds]) S.length = some ds := by simp [cellOf]
@[simp] theorem cellM_app : cellM (S ++ [.lst ds]) S.length = some ds := by simp [cellM]
@[simp] theorem set_app : (S ++ [c]).set S.length c' = S ++ [c'] := by simp [List.set_append]
theorem cellOf_of (h : S[n]? = some (.lst ds)) : cellOf S n = some ds := by simp [cellOf, h]
theorem cellM_of (h : S[n]? = some (.lst ds)) : cellM S n = some ds := by simp [cellM, h]
def ixO (o : Option (List D)) (i : Int) (S : Store) : RE D := match o with
  | some ds => ixR ds i S
  | none => .no
@[simp] theorem ixO_some : ixO (some ds) i S = ixR ds i S := rfl
@[simp] theorem gIx_locO : gIx (.loc n) (.int i) S = ixO (cellOf S n) i S := rfl
theorem cut_ok {S : Store} {d : D} (T : Store) (h : d.under S.length = true) : cutR S (.ok d (S ++ T)) = .ok d S := by
  have hc : CutOk S (S ++ T) := ⟨by simp, fun i c hi e => .inl (by rw [List.getElem?_append_left hi] at e; exact e)⟩
  have hd : (D.under S.length d = true ∧ CutOk S (S ++ T)) := ⟨h, hc⟩
  simp [cutR, hd]
theorem cut_ex {S : Store} {e : Ex} (T : Store) (h : underL S.length e.ds = true) : cutR S (.ex e (S ++ T)) = .ex e S := by
  have hc : CutOk S (S ++ T) := ⟨by simp, fun i c hi e => .inl (by rw [List.getElem?_append_left hi] at e; exact e)⟩
  have hd : (underL S.length e.ds = true ∧ CutOk S (S ++ T)) := ⟨h, hc⟩
  simp [cutR, hd]
theorem fnC_ap {m n : Nat} {b : FS} : fnC m n b ds S = cutR S (fnB m n b ds S) := rfl
/-- a list beside the empty one -/
theorem gNe_nil (h : cellOf S n = some ds) : gNe (.loc n) (.lst []) S = .ok (.bl (!ds.isEmpty)) S := by
  unfold gNe eqE seqL
  simp only
  rw [h]; rfl
@[simp] theorem gEq_te : gEq (.tup ds) (.tup []) S = .ok (.bl ds.isEmpty) S := rfl
@[simp] theorem gNe_te : gNe (.tup ds) (.tup []) S = .ok (.bl (!ds.isEmpty)) S := rfl
@[simp] theorem gEq_ts {a b : Str} : gEq (.tup (.str a :: ds)) (.tup [.str b]) S = .ok (.bl (a == b && ds.isEmpty)) S := rfl
@[simp] theorem gNe_ts {a b : Str} : gNe (.tup (.str a :: ds)) (.tup [.str b]) S = .ok (.bl (!(a == b && ds.isEmpty))) S := rfl
@[simp] theorem gEq_le : gEq (.lst ds) (.lst []) S = .ok (.bl ds.isEmpty) S := rfl
@[simp] theorem gNe_le : gNe (.lst ds) (.lst []) S = .ok (.bl (!ds.isEmpty)) S := rfl
@[simp] theorem gInG_str {neg : Bool} {nm z : Str} {kvs : List (Str × D)} : gInG neg nm kvs (.str z) (.glo nm) S = .ok (.bl (xor neg (kvs.lookup z).isSome)) S := by
  show (if nm = nm then RE.ok (D.bl (xor neg (kvs.lookup z).isSome)) S else .no) = _
  rw [if_pos rfl]
def luR (o : Option D) (S : Store) : RE D := match o with
  | some d => .ok d S
  | none => .no
@[simp] theorem luR_some : luR (some d) S = .ok d S := rfl
@[simp] theorem gIxG_str {nm z : Str} {kvs : List (Str × D)} : gIxG nm kvs (.glo nm) (.str z) S = luR (kvs.lookup z) S := by
  show (if nm = nm then luR (kvs.lookup z) S else .no) = _
  rw [if_pos rfl]
@[simp] theorem gIxD_str {ks : List Key} {z : Str} : gIxD (.dic ks ds) (.str z) S = luR (lookK (.inr z) ks ds) S := rfl
@[simp] theorem gIxD_int {ks : List Key} {z : Int} : gIxD (.dic ks ds) (.int z) S = luR (lookK (.inl z) ks ds) S := rfl
@[simp] theorem fDic_ap {ks : List Key} : fDic ks ds ρ S = .ok (.dic ks ds) S := rfl
@[simp] theorem fNone_ap : fNone ρ S = .ok none S := rfl
def toI (d : D) (S : Store) : RE (Option Int) := match d with
  | .int i => .ok (some i) S
  | _ => .no
@[simp] theorem toI_int : toI (.int i) S = .ok (some i) S := rfl
@[simp] theorem fSome_ap {f : FE} : fSome f ρ S = (f ρ S).bnd toI := rfl
@[simp] theorem fSl_ap {g : D → Option Int → Option Int → Store → RE D} {a : FE} {l u : FO} : fSl g a l u ρ S = (a ρ S).bnd fun x S1 => (l ρ S1).bnd fun lo S2 => (u ρ S2).bnd fun hi S3 => g x lo hi S3 := rfl
@[simp] theorem gSl_tup {c : Bool} {lo hi : Option Int} : gSl c (.tup ds) lo hi S = .ok (.tup (cutL ds lo hi)) S := rfl
@[simp] theorem gSl_lst {lo hi : Option Int} : gSl false (.lst ds) lo hi S = .ok (.lst (cutL ds lo hi)) S := rfl
@[simp] theorem gSl_fls {lo hi : Option Int} : gSl false (.fls ds) lo hi S = .ok (.lst (cutL ds lo hi)) S := rfl
def slO (o : Option (List D)) (lo hi : Option Int) (S : Store) : RE D := match o with
  | some ds => .ok (.lst (cutL ds lo hi)) S
  | none => .no
@[simp] theorem slO_some {lo hi : Option Int} : slO (some ds) lo hi S = .ok (.lst (cutL ds lo hi)) S := rfl
@[simp] theorem gSl_loc {lo hi : Option Int} : gSl false (.loc n) lo hi S = slO (cellOf S n) lo hi S := rfl
def mthR (g : D → List D → Store → RE D) (a : FA) (ρ : FEnv) (x : D) (S : Store) : RE D := match seqL S x with
  | some _ => (a ρ S).bnd fun ds S2 => g x ds S2
  | none => .no
@[simp] theorem fMth_ap {g : D → List D → Store → RE D} {o : FE} {a : FA} : fMth g o a ρ S = (o ρ S).bnd (mthR g a ρ) := rfl
theorem mthR_loc {g : D → List D → Store → RE D} {a : FA} (h : cellOf S n = some xs) : mthR g a ρ (.loc n) S = (a ρ S).bnd fun ds S2 => g (.loc n) ds S2 := by
  show (match cellOf S n with | some _ => (a ρ S).bnd fun ds S2 => g (.loc n) ds S2 | none => .no) = _
  rw [h]
theorem gAppend_loc (h : cellM S n = some xs) (hl : xs.length < sizeLine) : gAppend (.loc n) [d] S = .ok .non (S.set n (.lst (xs ++ [d]))) := by
  simp [gAppend, h, hl]
theorem gExtend_loc (h : cellM S n = some xs) (hl : xs.length + ys.length ≤ sizeLine) : gExtend (.loc n) [.lst ys] S = .ok .non (S.set n (.lst (xs ++ ys))) := by
  simp [gExtend, h, seqM, hl]
theorem gPop0_loc (h : cellM S n = some (xs ++ [d])) : gPop0 (.loc n) [] S = .ok d (S.set n (.lst xs)) := by
  simp [gPop0, h]
end
def loopR (w : FS) (r : RS) : RS := match r with
  | .nx ρ2 S2 => w ρ2 S2
  | .ct ρ2 S2 => w ρ2 S2
  | .bk ρ2 S2 => .nx ρ2 S2
  | z => z
section
variable {w : FS} {ρ : FEnv} {S : Store} {d : D} {x : Ex}
@[simp] theorem loopR_nx : loopR w (.nx ρ S) = w ρ S := rfl
@[simp] theorem loopR_ct : loopR w (.ct ρ S) = w ρ S := rfl
@[simp] theorem loopR_bk : loopR w (.bk ρ S) = .nx ρ S := rfl
@[simp] theorem loopR_rt : loopR w (.rt d S) = .rt d S := rfl
@[simp] theorem loopR_ex : loopR w (.ex x ρ S) = .ex x ρ S := rfl
@[simp] theorem loopR_no : loopR w .no = .no := rfl
theorem sWhile_go {c : FT} {b : FS} : sWhile c b ρ S = (c ρ S).toS ρ fun k S1 => if k then loopR (sWhile c b) (b ρ S1) else .nx ρ S1 := by
  rw [sWhile_step]
  congr; funext k S1; cases k
  · rfl
  · show _ = loopR (sWhile c b) (b ρ S1)
    cases b ρ S1 <;> rfl
variable {tg : FG} {b : FS} {r : List D} {fi : FI}
def tgR (w b : FS) (o : Option (FEnv × Store)) : RS := match o with
  | some (ρ1, S1) => loopR w (b ρ1 S1)
  | none => .no
@[simp] theorem tgR_some : tgR w b (some (ρ, S)) = loopR w (b ρ S) := rfl
@[simp] theorem forL_nil : forL tg b none [] ρ S = .nx ρ S := by
  unfold forL gchk; rw [if_pos (by unfold gd; trivial)]
theorem forL_cons : forL tg b none (d :: r) ρ S = tgR (forL tg b none r) b (tg d ρ S) := by
  show gchk none S _ _ = _
  unfold gchk
  rw [if_pos (by unfold gd; trivial)]
  cases tg d ρ S with
  | none => rfl
  | some p =>
    obtain ⟨ρ1, S1⟩ := p
    show (match b ρ1 S1 with
      | .nx ρ2 S2 => forL tg b none r ρ2 S2
      | .ct ρ2 S2 => forL tg b none r ρ2 S2
      | .bk ρ2 S2 => .nx ρ2 S2
      | z => z) = loopR _ (b ρ1 S1)
    cases b ρ1 S1 <;> rfl
@[simp] theorem sFor_ap : sFor fi tg b ρ S = (fi ρ S).toS ρ fun p S1 => forL tg b p.2 p.1 ρ S1 := rfl
def itL (d : D) (S : Store) : RE Its' := match iSeq S d with
  | some p => .ok p S
  | none => .no
def itT (d : D) (S : Store) : RE Its' := match d with
  | .tup ds => .ok (ds, none) S
  | _ => .no
def itS (d : D) (S : Store) : RE Its' := match d with
  | .str z => .ok (chrs z, none) S
  | _ => .no
def itR (ds : List D) (S : Store) : RE Its' := match ds with
  | [.int j] => if -(2 ^ 62) ≤ j ∧ j < 2 ^ 62 then .ok (rngD 0 j.toNat, none) S else .no
  | _ => .no
@[simp] theorem fiL_ap {f : FE} : fiL f ρ S = (f ρ S).bnd itL := rfl
@[simp] theorem fiT_ap {f : FE} : fiT f ρ S = (f ρ S).bnd itT := rfl
@[simp] theorem fiS_ap {f : FE} : fiS f ρ S = (f ρ S).bnd itS := rfl
@[simp] theorem fiR1_ap {f : FA} : fiR1 f ρ S = (f ρ S).bnd itR := rfl
@[simp] theorem itL_lst {ds : List D} : itL (.lst ds) S = .ok (ds, none) S := rfl
@[simp] theorem itL_fls {ds : List D} : itL (.fls ds) S = .ok (ds, none) S := rfl
@[simp] theorem itT_tup {ds : List D} : itT (.tup ds) S = .ok (ds, none) S := rfl
@[simp] theorem itS_str {z : Str} : itS (.str z) S = .ok (chrs z, none) S := rfl
@[simp] theorem itR_int {j : Int} : itR [.int j] S = if -(2 ^ 62) ≤ j ∧ j < 2 ^ 62 then .ok (rngD 0 j.toNat, none) S else .no := rfl
end
@[simp] theorem len_of (s : String) : (Str.ofString s).length = s.toList.length := by
  have key : (Str.ofString s).cps.toList = s.toList.map Char.toNat := by
    show ((cpsOfBytes 0 0 s.toByteArray.data.toList).toArray).toList = _
    rw [cpsOfBytes_string]
  show (Str.ofString s).cps.size = _
  rw [← Array.length_toList, key, List.length_map]
inductive Kd where
  | base (i : Fin 8)
  | unit
  | both (a b : Kd)
  | frm (a b : Kd)
deriving DecidableEq
namespace Kd
def d : Kd → D
  | .base i => .tup [.str "base", .int (i.val : Int)]
  | .unit => .tup [.str "unit"]
  | .both a b => .tup [.str "both", d a, d b]
  | .frm a b => .tup [.str "from", d a, d b]
def p : Kd → PyData
  | .base i => .tuple [.str "base", .int (i.val : Int)]
  | .unit => .tuple [.str "unit"]
  | .both a b => .tuple [.str "both", p a, p b]
  | .frm a b => .tuple [.str "from", p a, p b]
/-- how deep -/
def dep : Kd → Nat
  | .both a b => max (dep a) (dep b) + 1
  | .frm a b => max (dep a) (dep b) + 1
  | _ => 0
def sz : Kd → Nat
  | .both a b => sz a + sz b + 1
  | .frm a b => sz a + sz b + 1
  | _ => 1
theorem sz_pos : ∀ k : Kd, 0 < k.sz
  | .base _ => by simp [sz]
  | .unit => by simp [sz]
  | .both a b => by simp [sz]
  | .frm a b => by simp [sz]
@[simp] theorem py0_d : ∀ k : Kd, py0 k.d = some k.p
  | .base i => by simp [d, p, py0, py0L]
  | .unit => by simp [d, p, py0, py0L]
  | .both a b => by simp [d, p, py0, py0L, py0_d a, py0_d b]
  | .frm a b => by simp [d, p, py0, py0L, py0_d a, py0_d b]
@[simp] theorem pyS_d (S : Store) : ∀ k : Kd, pyS S k.d = some k.p
  | .base i => by simp [d, p, pyS, pySL]
  | .unit => by simp [d, p, pyS, pySL]
  | .both a b => by simp [d, p, pyS, pySL, pyS_d S a, pyS_d S b]
  | .frm a b => by simp [d, p, pyS, pySL, pyS_d S a, pyS_d S b]
@[simp] theorem lay_p : ∀ k : Kd, k.p.canLay0 = true
  | .base i => by simp [p, PyData.canLay0, PyData.canLayAll0]
  | .unit => by simp [p, PyData.canLay0, PyData.canLayAll0]
  | .both a b => by simp [p, PyData.canLay0, PyData.canLayAll0, lay_p a, lay_p b]
  | .frm a b => by simp [p, PyData.canLay0, PyData.canLayAll0, lay_p a, lay_p b]
theorem depth_p : ∀ k : Kd, k.p.depth = k.dep + 1
  | .base i => by simp [p, PyData.depth, PyData.depthAll, dep]
  | .unit => by simp [p, PyData.depth, PyData.depthAll, dep]
  | .both a b => by simp [p, PyData.depth, PyData.depthAll, dep, depth_p a, depth_p b]
  | .frm a b => by simp [p, PyData.depth, PyData.depthAll, dep, depth_p a, depth_p b]
theorem eqvAll_c {x y : PyData} {xs ys : List PyData} : PyData.eqvAll (x :: xs) (y :: ys) = (PyData.eqv x y && PyData.eqvAll xs ys) := by simp only [PyData.eqvAll]
theorem eqvAll_n : PyData.eqvAll [] [] = true := by simp only [PyData.eqvAll]
theorem eqvAll_l {x : PyData} {xs : List PyData} : PyData.eqvAll (x :: xs) [] = false := by simp only [PyData.eqvAll]
theorem eqvAll_r {x : PyData} {xs : List PyData} : PyData.eqvAll [] (x :: xs) = false := by simp only [PyData.eqvAll]
theorem eqv_t {xs ys : List PyData} : PyData.eqv (.tuple xs) (.tuple ys) = PyData.eqvAll xs ys := by simp only [PyData.eqv]
theorem eqv_s {x y : Str} : PyData.eqv (.str x) (.str y) = (x == y) := by simp only [PyData.eqv]
theorem eqv_i {x y : Int} : PyData.eqv (.int x) (.int y) = (x == y) := by simp only [PyData.eqv]
theorem eqv_p (a b : Kd) : PyData.eqv a.p b.p = decide (a = b) := by
  induction a generalizing b with
  | base i =>
    cases b with
    | base j =>
      have h1 : (i.val : Int) = (j.val : Int) ↔ i = j := by
        constructor
        · intro h; exact Fin.ext (by omega)
        · intro h; rw [h]
      by_cases h : i = j
      · subst h; simp [p, eqvAll_c, eqvAll_n, eqvAll_l, eqvAll_r, eqv_t, eqv_s, eqv_i]
      · have : ¬ (i.val : Int) = (j.val : Int) := fun z => h (h1.mp z)
        simp [p, eqvAll_c, eqvAll_n, eqvAll_l, eqvAll_r, eqv_t, eqv_s, eqv_i, h]
        omega
    | _ => simp [p, eqvAll_c, eqvAll_n, eqvAll_l, eqvAll_r, eqv_t, eqv_s, eqv_i]
  | unit => cases b <;> simp [p, eqvAll_c, eqvAll_n, eqvAll_l, eqvAll_r, eqv_t, eqv_s, eqv_i]
  | both a a' ha hb => cases b <;> simp [p, eqvAll_c, eqvAll_n, eqvAll_l, eqvAll_r, eqv_t, eqv_s, eqv_i, ha, hb]
  | frm a a' ha hb => cases b <;> simp [p, eqvAll_c, eqvAll_n, eqvAll_l, eqvAll_r, eqv_t, eqv_s, eqv_i, ha, hb]
@[simp] theorem und_d (n : Nat) : ∀ k : Kd, k.d.under n = true
  | .base i => by simp [d, D.under, underL]
  | .unit => by simp [d, D.under, underL]
  | .both a b => by simp [d, D.under, underL, und_d n a, und_d n b]
  | .frm a b => by simp [d, D.under, underL, und_d n a, und_d n b]
theorem eqE_d {a b : Kd} {S : Store} : eqE S a.d b.d = none ∨ eqE S a.d b.d = some (decide (a = b)) := by
  cases b with
  | unit => right; cases a <;> simp [d, eqE]
  | _ => exact .inl rfl
theorem gEq_d {a b : Kd} {S : Store} (h : min a.dep b.dep < 200) : gEq a.d b.d S = .ok (.bl (decide (a = b))) S := by
  have ok : okPy a.p b.p = true := by
    simp [okPy, depth_p]; omega
  unfold gEq
  rcases eqE_d (a := a) (b := b) (S := S) with e | e
  · rw [e]; simp [ok, eqv_p]
  · rw [e]
theorem d_tup : ∀ k : Kd, ∃ ds, k.d = .tup ds
  | .base i => ⟨_, rfl⟩
  | .unit => ⟨_, rfl⟩
  | .both a b => ⟨_, rfl⟩
  | .frm a b => ⟨_, rfl⟩
@[simp] theorem isi_d {T : String} {S : Store} (k : Kd) : isiR T k.d S = .ok (.bl (decide (T = "tuple"))) S := by
  obtain ⟨ds, h⟩ := d_tup k
  rw [h]; simp
theorem d_inj : ∀ {a b : Kd}, a.d = b.d → a = b := by
  intro a b h
  have h1 : py0 a.d = py0 b.d := by rw [h]
  rw [py0_d, py0_d] at h1
  have h2 : PyData.eqv a.p b.p = true := by
    rw [Option.some.inj h1, eqv_p]; simp
  rw [eqv_p] at h2
  simpa using h2
end Kd
end Kw
namespace Kw
open PySem PySem.Spec PyProof.Rows L2
/-- isinstance of the exception in hand (at a), whose answer is b -/
def fIsE (a : Addr) (b : Bool) (f : FE) : FE := fun ρ S => (f ρ S).bnd fun x S1 => match x with
  | .exn a' => if a' = a then .ok (.bl b) S1 else .no
  | _ => .no
/-- y's class is one that isinstance can be asked of -/
def ExcK (K : PySem.W.Frag) (mg : Str → Option Value) (y : Str) : Prop := ∃ C, mg y = some (.ref C) ∧ ExcC K C
/-- what isinstance answers for an exception of class y, asked for the program's class x -/
def IsxO (K : PySem.W.Frag) (mg : Str → Option Value) (y x : Str) (b : Bool) : Prop := ∃ C B, mg y = some (.ref C) ∧ mg x = some (.ref B) ∧ PySem.W.kitOne K (.ref C) (.ref B) = some b
section
variable {X : Cx} {W : WX} {o : Expr} {fe : FE} {a : Addr} {oe : Obj} {pn : List (Addr × Obj)} {y x : Str} {C : Addr} {b : Bool} {p q pos : Pos}
theorem isE_core [Wo] {T : V} {cv : Value} (hX : ExcC X.K C) (hz : Zc (.ref C) none oe) (hf : ∃ vs, oe.data = .fields vs) (hcv : ∀ u, RelV T u → u = cv) (hk : PySem.W.kitOne X.K (.ref C) cv = some b)
    (hg : Gl X "isinstance") (hm : X.mg "isinstance" = none) (ho : PE (X.suite a ((a, oe) :: pn)) o (tF X W fe)) (hx : PE (X.suite a ((a, oe) :: pn)) (.Name x q) (tC T))
    (h1 : starEach [o, .Name x q] X.env = (false, eval o X.env) :: starEach [.Name x q] X.env) (h2 : starEach [.Name x q] X.env = (false, eval (.Name x q) X.env) :: starEach [] X.env) (hpl : (backTo pos (starEach [.Name x q] X.env)).any (·.1) = false) :
    PE (X.suite a ((a, oe) :: pn)) (.Call (.Name "isinstance" p) [o, .Name x q] [] pos) (tF X W (fIsE a b fe)) := by
  refine PE.wk (pe_callB (call_isE hX hz hf) hg hm (by decide +kernel) (pa_cons ho (pa_cons hx pa_nil h2) h1) (by decide) (by decide) h1 hpl) fun σ H Q ⟨w, ρ, S, s, en, h⟩ => ?_
  refine ⟨w, ρ, S, s, en, (End.bind (R := fun w H => Rp X.K X.mg w H) h).imp ?_ (fun _ _ _ z => z)⟩
  rintro v H1 ⟨w1, S1, d, e1, s1, r1, h3⟩
  cases d with
  | exn a' =>
    simp only at h3
    split at h3
    · rename_i ea
      subst ea
      have ev : v = .ref a' := by unfold Rp at r1; exact r1
      exact ⟨T, cv, b, by rw [ev], hcv, hk, h3.ret s1 rp_b⟩
    · exact h3.elim
  | _ => exact h3.elim
theorem q_isE [Wo] (hy : ExcK X.K X.mg y) (hyC : X.mg y = some (.ref C)) (hi : IsxO X.K X.mg y x b) (hz : Zc (.ref C) none oe) (hf : ∃ vs, oe.data = .fields vs)
    (hg : Gl X "isinstance") (hm : X.mg "isinstance" = none) (hgx : Gl X x) (ho : PE (X.suite a ((a, oe) :: pn)) o (tF (X.suite a ((a, oe) :: pn)) W fe)) (hd : (x == ("__debug__" : Str)) = false := by decide)
    (h1 : starEach [o, .Name x q] X.env = (false, eval o X.env) :: starEach [.Name x q] X.env := by rfl) (h2 : starEach [.Name x q] X.env = (false, eval (.Name x q) X.env) :: starEach [] X.env := by rfl) (hpl : (backTo pos (starEach [.Name x q] X.env)).any (·.1) = false := by rfl) :
    PE (X.suite a ((a, oe) :: pn)) (.Call (.Name "isinstance" p) [o, .Name x q] [] pos) (tF (X.suite a ((a, oe) :: pn)) W (fIsE a b fe)) := by
  obtain ⟨C1, m1, k1⟩ := hy
  obtain ⟨C2, B, m2, m3, k2⟩ := hi
  cases hyC.symm.trans m1
  cases hyC.symm.trans m2
  exact isE_core (T := .ref B) (cv := .ref B) k1 hz hf (fun u r => r) k2 hg hm ho (pe_glob hgx m3 rfl hd) h1 h2 hpl
end
def RS.clr (i : Nat) (r : RS) : RS := match r with
  | .nx ρ S => .nx (ρ.set i none) S
  | .bk ρ S => .bk (ρ.set i none) S
  | .ct ρ S => .ct (ρ.set i none) S
  | r => r
/-- a result that no address matters to -/
noncomputable def aInd (R : Addr → RS) : RS := open Classical in if ∀ a, R a = R 0 then R 0 else .no
theorem aInd_at {R : Addr → RS} {r : RS} (a : Addr) (h : aInd R = r) (hn : r ≠ .no) : R a = r := by
  unfold aInd at h
  split at h
  · rename_i hh; rw [hh a, h]
  · exact absurd h.symm hn
theorem aInd_eq {R : Addr → RS} {r : RS} (h : ∀ a, R a = r) : aInd R = r := by
  unfold aInd
  rw [if_pos (fun a => by rw [h a, h 0]), h 0]
/-- es: the classes that may come; sub: those that the clause names; i: the name's slot -/
noncomputable def sTryAs (es : List Str) (sub : Str → Bool) (i : Nat) (b : FS) (c : Str → Addr → FS) : FS := fun ρ S => match b ρ S with
  | .ex x ρ' S' => if x.cls ∈ es ∧ x.ns = [] then (if sub x.cls then aInd (fun a => ((c x.cls a (ρ'.set i (some (.exn a))) S').clr i).noX) else .ex x ρ' S') else .no
  | r => r
section
variable {X : Cx} {W : WX} {x n : Str} {pos pos' np : Pos} {i : Nat}
theorem EndS.clr [Wo] {K : PySem.W.Frag} {mg : Str → Option Value} {w : Wd} {H : Hp} {D : Ends} {r : RS} (h : EndS K mg w H ((r.clr i).noX) D W) :
    EndS K mg w H r { nx := fun σ' H' => D.nx (σ'.set i none) H', rt := D.rt, bk := fun σ' H' => D.bk (σ'.set i none) H', ct := fun σ' H' => D.ct (σ'.set i none) H' } W0 := by
  cases r with
  | nx ρ S => exact fun w' H' σ' e s en => h w' H' _ e s en.wipe1
  | bk ρ S => exact fun w' H' σ' e s en => h w' H' _ e s en.wipe1
  | ct ρ S => exact fun w' H' σ' e s en => h w' H' _ e s en.wipe1
  | rt d S => exact h
  | ex x ρ S => exact h.elim
  | no => exact h.elim
theorem q_tryAs [Wo] {body suite : List Stmt} {b₀ : Stmt} {es : List Str} {sub : Str → Bool} {fb : FS} {fc : Str → Addr → FS} {c : Value} (hs : X.stack = X.env :: X.outer) (hf : X.env.frame = some X.env.locals) (hN : X.N.Nodup) (hi : X.N[i]? = some n) (hln : X.env.kindOf n = some .local) (hc : Names X x c) (tk : Takes X W)
    (hx : ∀ y ∈ es, ∀ cy, X.mg y = some cy → PySem.W.exmOne X.K cy c = some (sub y)) (hk : ∀ y ∈ es, ExcK X.K X.mg y)
    (hb : ∀ (W' : WX) (pn : List (Addr × Obj)) (xe : Value → Shared → Prop), Takes (X.tr pn xe) W' → PassesOwn (model X.prog X.w) X.A X.env xe → PSs (X.tr pn xe) body (tS (X.tr pn xe) W' fb))
    (hsu : ∀ (y : Str), y ∈ es → ∀ (a : Addr) (oe : Obj) (pn : List (Addr × Obj)) (C : Addr), X.mg y = some (.ref C) → Zc (.ref C) none oe → (∃ vs, oe.data = .fields vs) → PSs (X.suite a ((a, oe) :: pn)) (b₀ :: suite) (tS (X.suite a ((a, oe) :: pn)) W0 (fc y a))) :
    PS X (.Try body [.ExceptHandler (some (.Name x np)) (some n) (b₀ :: suite) pos'] [] [] pos) (tS X W (sTryAs es sub i fb fc)) := by
  refine PS.wk (ps_try_as (i := i) (tb := fun W' => tS X W' fb) (ts := fun a cls d => fun D σ H => ∃ y C, y ∈ es ∧ X.mg y = some (.ref C) ∧ cls = .ref C ∧ d = none ∧ tS X W0 (fc y a) D σ H) (Wout := W) hs hf hN hi hln hc tk (fun W' pn xe t o => hb W' pn xe t o) (fun a oe cls d pn hz hd => ?_)) fun D σ H ⟨w, ρ, S, s, en, h⟩ => ?_
  · refine ⟨fun pins s σ H D I h => ?_⟩
    obtain ⟨y, C, hy, hyC, rfl, rfl, t⟩ := h
    exact (hsu y hy a oe pn C hyC hz hd).run pins s σ H D I t
  refine ⟨w, ρ, S, s, en, ?_⟩
  unfold sTryAs at h
  cases hbb : fb ρ S with
  | ex y ρ' S' =>
    rw [hbb] at h
    simp only at h
    split at h
    · rename_i hm
      intro w' H' σ' cy od e s' en' ex
      obtain ⟨gy, hr⟩ := ex
      obtain ⟨C, gC, kC⟩ := hk _ hm.1
      cases gC.symm.trans gy
      have hod : od = none := by
        rcases hr with ⟨_, _, z⟩ | ⟨d, vs, z, _⟩
        · exact z
        · exact absurd hm.2 z
      refine ⟨sub y.cls, hx _ hm.1 _ gy, fun hs a na => ?_, fun hs => ?_⟩
      · rw [if_pos hs] at h
        refine ⟨y.cls, C, hm.1, gC, rfl, hod, w', ρ'.set i (some (.exn a)), S', s', en'.set (by unfold Rp; rfl), ?_⟩
        have h2 := h.on e
        by_cases hno : aInd (fun a => ((fc y.cls a (ρ'.set i (some (.exn a))) S').clr i).noX) = .no
        · rw [hno] at h2; exact h2.elim
        · rw [← aInd_at a rfl hno] at h2
          exact h2.clr
      · rw [if_neg (by rw [hs]; decide)] at h
        exact h w' H' σ' (.ref C) od e s' en' ⟨gy, hr⟩
    · exact h.elim
  | _ => rw [hbb] at h; exact h
end
end Kw
namespace Kw
open PySem PySem.Spec PyProof.Rows L2
def gIdx (x : D) (ds : List D) (S : Store) : RE D := match ds with
  | [y] => (match pyS S x, pyS S y with
    | some (.list ps), some d => if SeqAt.shaped (.list ps) && SeqAt.shaped d then (match ps.findIdx? (fun z => PyData.eqv z d) with
      | some j => .ok (.int (j : Nat)) S
      | none => .no) else .no
    | _, _ => .no)
  | _ => .no
def gCnt (x : D) (ds : List D) (S : Store) : RE D := match ds with
  | [y] => (match pyS S x, pyS S y with
    | some (.list ps), some d => if PyData.canLayAll0 ps && d.canLay0 && decide (min (PyData.depthAll ps) d.depth ≤ 190) then .ok (.int (ps.countP (fun z => PyData.eqv z d) : Nat)) S else .no
    | _, _ => .no)
  | _ => .no
def rCntD (K : PySem.W.Frag) : V → List V → Hp → VK → Prop := fun x xs H Q => ∃ (a : Addr) (y : V) (d : PyData) (ps : List PyData), x = .ref a ∧ xs = [y] ∧ Dp K H x (.list ps) ∧ Dp K H y d ∧ PyData.canLayAll0 ps = true ∧ d.canLay0 = true ∧ min (PyData.depthAll ps) d.depth ≤ 190 ∧
  Q (.int (ps.countP (fun z => PyData.eqv z d) : Nat)) H
section
variable {X : Cx}
theorem mt_cntD (hu : X.A.units + 200 < cLine) : MtR X "list.count" (rCntD X.K) := by
  intro pins s σ H x xs v us Q I rx rxs h
  obtain ⟨a, y, d, ps, rfl, rfl, hl, hy, c1, c2, c3, q⟩ := h
  cases rx
  obtain ⟨uy, rfl, ry⟩ := rxs.one
  obtain ⟨bs, r1⟩ := Dp.reads I d y uy hy ry
  cases hl with
  | lst hs ha =>
    obtain ⟨its, rv, ⟨⟨cls, dd, data, sls⟩, n, ho, hc, hdn, hdt⟩, hlen⟩ := I.list hs
    dsimp only at hc hdt
    subst hc hdt
    obtain ⟨as, h4⟩ := Dp.readsAll I ps _ its ha rv
    have hmap : its.map (SeqAt.readOf s.heap) = ps := SeqAt.readsAll_map ps its as c1 h4
    have go := SeqAt.list_countAt a its.toArray n dd sls uy (fun u => PyData.eqv (SeqAt.readOf s.heap u) d)
    have eqs := SeqAt.items_eqAt (A := X.A) (vs := its.toArray) (show ReadsAll s.heap its.toArray.toList ps as from h4) r1 c1 c2 (by omega)
    refine call_meets PySem.F.slot_list_count ⟨_, ho, rfl⟩ PySem.F.entry_list_count (PySem.F.args_list_count_2 _ _) go ⟨ho, eqs, ?_⟩
    have e1 : its.toArray.toList.countP (fun u => PyData.eqv (SeqAt.readOf s.heap u) d) = ps.countP fun z => PyData.eqv z d := by
      rw [← hmap, List.countP_map]; rfl
    exact ⟨.int (ps.countP (fun z => PyData.eqv z d) : Nat), H, I.tok _, ⟨s.toks, congrArg (fun k : Nat => Value.int (k : Int) s.toks) e1⟩, q⟩
variable {K : PySem.W.Frag} {mg : Str → Option Value}
theorem cnt_v [Wo] : MtV K mg (rCntD K) gCnt := by
  intro w S H x xs d ds Q E s r1 r2 h
  unfold gCnt at h
  split at h
  · rename_i y
    split at h
    · rename_i ps p h1 h2
      split at h
      · rename_i hk
        simp only [Bool.and_eq_true, decide_eq_true_eq] at hk
        obtain ⟨v, rfl, r3⟩ := r2.one_inv
        have k1 := pyS_at s d x _ r1 h1
        have k2 := pyS_at s y v _ r3 h2
        have k1' := k1
        cases k1 with
        | lst hs ha => exact ⟨_, v, p, ps, rfl, rfl, k1', k2, hk.1.1, hk.1.2, hk.2, h.ret s rp_i⟩
      · exact h.elim
    · exact h.elim
  · exact h.elim
theorem idx_v [Wo] : MtV K mg (rIndexD K) gIdx := by
  intro w S H x xs d ds Q E s r1 r2 h
  unfold gIdx at h
  split at h
  · rename_i y
    split at h
    · rename_i ps p h1 h2
      split at h
      · rename_i hk
        rw [Bool.and_eq_true] at hk
        split at h
        · rename_i j hj
          obtain ⟨v, rfl, r3⟩ := r2.one_inv
          have k1 := pyS_at s d x _ r1 h1
          have k2 := pyS_at s y v _ r3 h2
          obtain ⟨hl, hp, hno⟩ := List.findIdx?_eq_some_iff_getElem.mp hj
          have k1' := k1
          cases k1 with
          | lst hs ha =>
            refine ⟨_, v, p, ps, j, ps[j], rfl, rfl, k1', k2, hk.1, hk.2, List.getElem?_eq_getElem hl, hp, fun m z' hm hz => ?_, h.ret s rp_i⟩
            obtain ⟨hml, e⟩ := List.getElem?_eq_some_iff.mp hz
            have := hno m hm
            rw [e] at this
            simpa using this
        · exact h.elim
      · exact h.elim
    · exact h.elim
  · exact h.elim
end
theorem hu65 {A : Around} {k : Nat} (hr : RoomG k A) : A.units + 65 < cLine := by have := hr.rm.un; omega
def CatY (K : PySem.W.Frag) (mg : Str → Option Value) (c : Value) (y : Str) (b : Bool) : Prop := ∃ C, mg y = some (.ref C) ∧ PySem.W.exmOne K (.ref C) c = some b
/-- what a clause over x catches of the classes es -/
def CatF (K : PySem.W.Frag) (mg : Str → Option Value) (es : List Str) (x : Str) (sub : Str → Bool) : Prop := ∃ c, mg x = some c ∧ ∀ y ∈ es, CatY K mg c y (sub y)
section
variable {X : Cx} {W : WX} {x n : Str} {pos pos' np : Pos} {i : Nat} {body suite : List Stmt} {b₀ : Stmt} {es : List Str} {sub : Str → Bool} {fb : FS}
theorem CatF.names (h : CatF X.K X.mg es x sub) (hg : Gl X x) (hd : (x == ("__debug__" : Str)) = false) : ∃ c, Names X x c ∧ ∀ y ∈ es, ∀ cy, X.mg y = some cy → PySem.W.exmOne X.K cy c = some (sub y) := by
  obtain ⟨c, m, h⟩ := h
  refine ⟨c, ⟨hg, hd, .inl m⟩, fun y hy cy e => ?_⟩
  obtain ⟨C, m2, k⟩ := h y hy
  cases e.symm.trans m2
  exact k
theorem q_tryA [Wo] {fc : Str → Addr → FS} (h : CatF X.K X.mg es x sub) (hg : Gl X x) (hs : X.stack = X.env :: X.outer) (hf : X.env.frame = some X.env.locals) (hN : X.N.Nodup) (hi : X.N[i]? = some n) (hln : X.env.kindOf n = some .local) (tk : Takes X W) (hk : ∀ y ∈ es, ExcK X.K X.mg y)
    (hb : ∀ (W' : WX) (pn : List (Addr × Obj)) (xe : Value → Shared → Prop), Takes (X.tr pn xe) W' → PassesOwn (model X.prog X.w) X.A X.env xe → PSs (X.tr pn xe) body (tS (X.tr pn xe) W' fb))
    (hsu : ∀ (y : Str), y ∈ es → ∀ (a : Addr) (oe : Obj) (pn : List (Addr × Obj)) (C : Addr), X.mg y = some (.ref C) → Zc (.ref C) none oe → (∃ vs, oe.data = .fields vs) → PSs (X.suite a ((a, oe) :: pn)) (b₀ :: suite) (tS (X.suite a ((a, oe) :: pn)) W0 (fc y a))) (hd : (x == ("__debug__" : Str)) = false := by decide) :
    PS X (.Try body [.ExceptHandler (some (.Name x np)) (some n) (b₀ :: suite) pos'] [] [] pos) (tS X W (sTryAs es sub i fb fc)) := by
  obtain ⟨c, nm, hx⟩ := h.names hg hd
  exact q_tryAs hs hf hN hi hln nm tk hx hk hb hsu
end
section
variable {K : PySem.W.Frag} {mg : Str → Option Value} {h : Heap}
theorem kit_own {C B : Addr} {b : Bool} (hd : PySem.W.hasDictIn K B = true) (ht : PySem.W.typeIn K (.ref B) = some (.type "type")) (h4 : PySem.W.subIn K (.ref C) (.ref B) = some b) (ne : b = true ∨ (C == B) = false) : PySem.W.kitOne K (.ref C) (.ref B) = some b := by
  obtain ⟨cd, hc, _⟩ := PySem.W.any_some hd
  have k : PySem.W.kitCls K (.ref C) (.ref B) = some b := by
    have e2 : ((PySem.W.clsIn K B).isSome && PySem.W.typeIn K (.ref B) == some (.type "type")) = true := by rw [hc, ht] <;> rfl
    show (if ((PySem.W.clsIn K B).isSome && PySem.W.typeIn K (.ref B) == some (.type "type")) = true then PySem.W.subIn K (.ref C) (.ref B) else none) = some b
    rw [if_pos e2]; exact h4
  unfold PySem.W.kitOne
  split
  · rename_i q
    rcases ne with rfl | ne
    · rfl
    · have q2 : C = B := Value.ref.inj (beq_iff_eq.mp q)
      rw [q2] at ne; simp at ne
  · exact k
theorem isxo_mk {y x : Str} {C B : Addr} {b b' : Bool} (X : K.In h) (G : h.Ns mainGlobals mg) (z1 : PySem.W.nsIn K mainGlobals y = some (some (.ref C))) (z2 : PySem.W.nsIn K mainGlobals x = some (some (.ref B))) (e : b = b') (hd : PySem.W.hasDictIn K B = true) (ht : PySem.W.typeIn K (.ref B) = some (.type "type")) (h4 : PySem.W.subIn K (.ref C) (.ref B) = some b') (ne : b' = true ∨ (C == B) = false) : IsxO K mg y x b :=
  ⟨C, B, PySem.W.mg_of X G z1, PySem.W.mg_of X G z2, by rw [e]; exact kit_own hd ht h4 ne⟩
theorem exck_mk {y : Str} {C : Addr} (X : K.In h) (G : h.Ns mainGlobals mg) (z1 : PySem.W.nsIn K mainGlobals y = some (some (.ref C))) (k : ExcC K C) : ExcK K mg y := ⟨C, PySem.W.mg_of X G z1, k⟩
theorem caty_mk {y : Str} {C B : Addr} {b b' : Bool} (X : K.In h) (G : h.Ns mainGlobals mg) (z1 : PySem.W.nsIn K mainGlobals y = some (some (.ref C))) (e : b = b') (h1 : PySem.W.subIn K (.ref B) (.type "BaseException") = some true) (hd : PySem.W.hasDictIn K B = true) (ht : PySem.W.typeIn K (.ref B) = some (.type "type")) (h4 : PySem.W.subIn K (.ref C) (.ref B) = some b') : CatY K mg (.ref B) y b :=
  ⟨C, PySem.W.mg_of X G z1, by rw [e]; exact PySem.W.exm_ref h1 hd ht h4⟩
theorem cat_mk {es : List Str} {x : Str} {sub : Str → Bool} {B : Addr} (X : K.In h) (G : h.Ns mainGlobals mg) (z : PySem.W.nsIn K mainGlobals x = some (some (.ref B))) (l : ∀ y ∈ es, CatY K mg (.ref B) y (sub y)) : CatF K mg es x sub := ⟨.ref B, PySem.W.mg_of X G z, l⟩
end
end Kw
namespace Kw
open PySem PySem.Spec PyProof.Rows L2
section
variable {tg : FG} {tt : FT} {te : FE} {ρ : FEnv} {gg : Option (Nat × List D)} {S : Store} {acc ds : List D} {b : FS}
theorem compL_nil (hg : gd gg S) : compL tg tt te gg ρ [] acc S = .ok acc S := by
  unfold compL gchk; rw [if_pos hg]
theorem compL_step {d y : D} {ρ1 : FEnv} {S1 S2 S3 : Store} (hg : gd gg S) (h1 : tg d ρ S = some (ρ1, S1)) (h2 : tt ρ1 S1 = .ok true S2) (h3 : te ρ1 S2 = .ok y S3) (hl : acc.length < sizeLine) :
    compL tg tt te gg ρ (d :: ds) acc S = compL tg tt te gg ρ ds (acc ++ [y]) S3 := by
  conv => lhs; unfold compL
  unfold gchk
  rw [if_pos hg, h1]
  simp [h2, h3, hl]
theorem compL_map (f : D → D) (hg : gd gg S) : ∀ (ds acc : List D), (∀ d ∈ ds, ∃ ρ1, tg d ρ S = some (ρ1, S) ∧ tt ρ1 S = .ok true S ∧ te ρ1 S = .ok (f d) S) → acc.length + ds.length ≤ sizeLine →
    compL tg tt te gg ρ ds acc S = .ok (acc ++ ds.map f) S
  | [], acc, _, _ => by rw [compL_nil hg]; simp
  | d :: ds, acc, h, hl => by
    obtain ⟨ρ1, h1, h2, h3⟩ := h d List.mem_cons_self
    rw [compL_step hg h1 h2 h3 (by simp at hl; omega), compL_map f hg ds (acc ++ [f d]) (fun e he => h e (List.mem_cons_of_mem _ he)) (by simp at hl ⊢; omega)]
    simp
def lcR (c : Bool) (r : RE (List D)) : RE D := match r with
  | .ok acc S2 => if c then .ok (.loc S2.length) (S2 ++ [.lst acc]) else .ok (.lst acc) S2
  | _ => .no
@[simp] theorem lcR_f : lcR false (.ok acc S) = .ok (.lst acc) S := rfl
@[simp] theorem lcR_t : lcR true (.ok acc S) = .ok (.loc S.length) (S ++ [.lst acc]) := rfl
@[simp] theorem fLc_ap {c : Bool} {fi : FI} {vs : List Nat} : fLc c fi tg tt te vs ρ S = (fi ρ S).bnd fun p S1 => lcR c (compL tg tt te p.2 (wipeR ρ vs) p.1 [] S1) := rfl
@[simp] theorem fYes_ap : fYes ρ S = .ok true S := rfl
@[simp] theorem gAll_lst {bs : List Bool} : gAll [.lst (bs.map .bl)] S = .ok (.bl (bs.all id)) S := by
  have : ∀ bs : List Bool, blsOf (bs.map .bl) = some bs := by
    intro bs
    induction bs with
    | nil => rfl
    | cons b bs ih => simp [blsOf, ih]
  show (match (some (bs.map D.bl)).bind blsOf with
    | some bs => RE.ok (D.bl (bs.all id)) S
    | none => .no) = _
  simp [this]
end
/-- an exception in hand, asked -/
@[simp] theorem fIsE_ap {a : Addr} {b : Bool} {i : Nat} {ρ : FEnv} {S : Store} (h : ρ[i]? = some (some (.exn a))) : fIsE a b (fVar i) ρ S = .ok (.bl b) S := by
  have e : fVar i ρ S = .ok (.exn a) S := by
    unfold fVar; rw [h]
  unfold fIsE
  rw [e]
  simp
noncomputable def tryR (es : List Str) (sub : Str → Bool) (i : Nat) (c : Str → Addr → FS) (r : RS) : RS := match r with
  | .ex x ρ' S' => if x.cls ∈ es ∧ x.ns = [] then (if sub x.cls then aInd (fun a => ((c x.cls a (ρ'.set i (some (.exn a))) S').clr i).noX) else .ex x ρ' S') else .no
  | r => r
theorem sTryAs_ap {es : List Str} {sub : Str → Bool} {i : Nat} {b : FS} {c : Str → Addr → FS} {ρ : FEnv} {S : Store} : sTryAs es sub i b c ρ S = tryR es sub i c (b ρ S) := rfl
section
variable {es : List Str} {sub : Str → Bool} {i : Nat} {c : Str → Addr → FS} {ρ : FEnv} {S : Store} {d : D}
@[simp] theorem tryR_rt : tryR es sub i c (.rt d S) = .rt d S := rfl
@[simp] theorem tryR_nx : tryR es sub i c (.nx ρ S) = .nx ρ S := rfl
theorem tryR_ex {y : Str} {r : RS} (hy : y ∈ es) (hs : sub y = true) (h : ∀ a, ((c y a (ρ.set i (some (.exn a))) S).clr i).noX = r) : tryR es sub i c (.ex ⟨y, [], []⟩ ρ S) = r := by
  show (if y ∈ es ∧ ([] : List Str) = [] then (if sub y then aInd _ else _) else _) = _
  rw [if_pos ⟨hy, rfl⟩, if_pos hs]
  exact aInd_eq h
@[simp] theorem clr_rt : (RS.rt d S).clr i = .rt d S := rfl
@[simp] theorem clr_nx : (RS.nx ρ S).clr i = .nx (ρ.set i none) S := rfl
@[simp] theorem noX_rt : (RS.rt d S).noX = .rt d S := rfl
@[simp] theorem noX_nx : (RS.nx ρ S).noX = .nx ρ S := rfl
end
end Kw
namespace Kw
open PySem PySem.Spec PyProof.Rows L2
abbrev Cl := Value × Option Nat × (Addr → Value → Option Addr → TS)
/-- the ends after a clause whose name stands in slot i -/
def gone (i : Nat) (D : Ends) : Ends := { nx := fun z G => D.nx (z.set i none) G, rt := D.rt, bk := fun z G => D.bk (z.set i none) G, ct := fun z G => D.ct (z.set i none) G }
def hit (o : Option Nat) (ts : TS) (D : Ends) (a : Addr) (σ : L2.St) (H : Hp) : Prop := match o with
  | none => ts D σ H
  | some i => ts (gone i D) (σ.set i (some (.ref a))) H
/-- what the clauses wish of an exception -/
def wCls (K : PySem.W.Frag) (Wout : WX) (D : Ends) : List Cl → WX
  | [] => Wout
  | (c, o, ts) :: r => fun cls d σ H => ∃ b, PySem.W.exmOne K cls c = some b ∧ (b = true → ∀ a, H a = none → hit o (ts a cls d) D a σ H) ∧ (b = false → wCls K Wout D r cls d σ H)
def SuOk (X : Cx) (suite : List Stmt) (ts : Addr → Value → Option Addr → TS) : Prop :=
  ∀ (a : Addr) (oe : Obj) (cls : Value) (d : Option Addr) (pn : List (Addr × Obj)), Zc cls d oe → (∃ vs, oe.data = .fields vs) → PSs (X.suite a ((a, oe) :: pn)) suite (ts a cls d)
inductive ClsOk (X : Cx) : List ExceptHandler → List Cl → Prop
  | nil : ClsOk X [] []
  | plain {x : Str} {c : Value} {ts : Addr → Value → Option Addr → TS} {b₀ : Stmt} {su : List Stmt} {np q : Pos} {hds : List ExceptHandler} {l : List Cl} (nm : Names X x c) (k : SuOk X (b₀ :: su) ts) (r : ClsOk X hds l) :
      ClsOk X (.ExceptHandler (some (.Name x np)) none (b₀ :: su) q :: hds) ((c, none, ts) :: l)
  | named {x n : Str} {i : Nat} {c : Value} {ts : Addr → Value → Option Addr → TS} {b₀ : Stmt} {su : List Stmt} {np q : Pos} {hds : List ExceptHandler} {l : List Cl} (hi : X.N[i]? = some n) (hln : X.env.kindOf n = some .local) (nm : Names X x c) (k : SuOk X (b₀ :: su) ts) (r : ClsOk X hds l) :
      ClsOk X (.ExceptHandler (some (.Name x np)) (some n) (b₀ :: su) q :: hds) ((c, some i, ts) :: l)
abbrev ClF := (Str → Bool) × Option Nat × (Str → Addr → FS)
def clRun (o : Option Nat) (c : Addr → FS) (ρ : FEnv) (S : Store) (a : Addr) : RS := match o with
  | none => (c a ρ S).noX
  | some i => ((c a (ρ.set i (some (.exn a))) S).clr i).noX
noncomputable def clsR (x : Ex) (ρ : FEnv) (S : Store) : List ClF → RS
  | [] => .ex x ρ S
  | (sub, o, c) :: r => if sub x.cls then aInd (clRun o (c x.cls) ρ S) else clsR x ρ S r
def SuF [Wo] (X : Cx) (es : List Str) (suite : List Stmt) (c : Str → Addr → FS) : Prop :=
  ∀ (y : Str), y ∈ es → ∀ (a : Addr) (oe : Obj) (pn : List (Addr × Obj)) (C : Addr), X.mg y = some (.ref C) → Zc (.ref C) none oe → (∃ vs, oe.data = .fields vs) → PSs (X.suite a ((a, oe) :: pn)) suite (tS (X.suite a ((a, oe) :: pn)) W0 (c y a))
inductive ClsF [Wo] (X : Cx) (es : List Str) : List ExceptHandler → List ClF → Prop
  | nil : ClsF X es [] []
  | plain {x : Str} {sub : Str → Bool} {c : Str → Addr → FS} {b₀ : Stmt} {su : List Stmt} {np q : Pos} {hds : List ExceptHandler} {l : List ClF} (h : CatF X.K X.mg es x sub) (hg : Gl X x) (k : SuF X es (b₀ :: su) c) (r : ClsF X es hds l) (hd : (x == ("__debug__" : Str)) = false := by decide) :
      ClsF X es (.ExceptHandler (some (.Name x np)) none (b₀ :: su) q :: hds) ((sub, none, c) :: l)
  | named {x n : Str} {i : Nat} {sub : Str → Bool} {c : Str → Addr → FS} {b₀ : Stmt} {su : List Stmt} {np q : Pos} {hds : List ExceptHandler} {l : List ClF} (h : CatF X.K X.mg es x sub) (hg : Gl X x) (hi : X.N[i]? = some n) (hln : X.env.kindOf n = some .local) (k : SuF X es (b₀ :: su) c) (r : ClsF X es hds l) (hd : (x == ("__debug__" : Str)) = false := by decide) :
      ClsF X es (.ExceptHandler (some (.Name x np)) (some n) (b₀ :: su) q :: hds) ((sub, some i, c) :: l)
section
variable {X : Cx} {W : WX} {es : List Str}
def tsOf [Wo] (X : Cx) (es : List Str) (c : Str → Addr → FS) : Addr → Value → Option Addr → TS := fun a cls d D σ H => ∃ y C, y ∈ es ∧ X.mg y = some (.ref C) ∧ cls = .ref C ∧ d = none ∧ tS X W0 (c y a) D σ H
theorem SuF.su [Wo] {suite : List Stmt} {c : Str → Addr → FS} (k : SuF X es suite c) : SuOk X suite (tsOf X es c) := by
  intro a oe cls d pn hz hd
  refine ⟨fun pins s σ H D I h => ?_⟩
  obtain ⟨y, C, hy, hyC, rfl, rfl, t⟩ := h
  exact (k y hy a oe pn C hyC hz hd).run pins s σ H D I t
theorem EndS.nox [Wo] {K : PySem.W.Frag} {mg : Str → Option Value} {w : Wd} {H : Hp} {D : Ends} {r : RS} (h : EndS K mg w H r.noX D W) : EndS K mg w H r D W0 := by
  cases r with
  | ex x ρ S => exact h.elim
  | _ => exact h
theorem ClsF.go [Wo] {hds : List ExceptHandler} {cs : List ClF} (h : ClsF X es hds cs) (hk : ∀ y ∈ es, ExcK X.K X.mg y) : ∃ l, ClsOk X hds l ∧ ∀ (D : Ends) (w : Wd) (x : Ex) (ρ : FEnv) (S : Store) (σ : L2.St) (H : Hp) (cy : Value) (od : Option Addr), x.cls ∈ es → x.ns = [] → Sto X.K X.mg w S H → EnvR X.K X.mg w H ρ σ → ExR X.K X.mg w H x cy od →
    EndS X.K X.mg w H (clsR x ρ S cs) D W → wCls X.K W D l cy od σ H := by
  have ex0 : ∀ {w : Wd} {H : Hp} {x : Ex} {cy : Value} {od : Option Addr}, x.cls ∈ es → x.ns = [] → ExR X.K X.mg w H x cy od → ∃ C, X.mg x.cls = some (.ref C) ∧ cy = .ref C ∧ od = none := by
    intro w H x cy od hx hn ex
    obtain ⟨gy, hr⟩ := ex
    obtain ⟨C, gC, _⟩ := hk _ hx
    cases gC.symm.trans gy
    refine ⟨C, gC, rfl, ?_⟩
    rcases hr with ⟨_, _, z⟩ | ⟨d, vs, z, _⟩
    · exact z
    · exact absurd hn z
  induction h with
  | nil =>
    refine ⟨[], .nil, fun D w x ρ S σ H cy od hx hn s en ex h => ?_⟩
    exact h w H σ cy od Ext.refl s en ex
  | @plain x sub c b₀ su np q hds l hc hg k r hd ih =>
    obtain ⟨cv, nm, hx1⟩ := hc.names hg hd
    obtain ⟨l', ok', go'⟩ := ih
    refine ⟨(cv, none, tsOf X es c) :: l', .plain nm k.su ok', fun D w x ρ S σ H cy od hx hn s en ex h => ?_⟩
    obtain ⟨C, gC, rfl, rfl⟩ := ex0 hx hn ex
    refine ⟨sub x.cls, hx1 _ hx _ gC, fun hs a na => ?_, fun hs => ?_⟩
    · have h2 : EndS X.K X.mg w H (aInd (clRun none (c x.cls) ρ S)) D W := by
        have h' := h
        unfold clsR at h'
        rw [if_pos hs] at h'
        exact h'
      by_cases hno : aInd (clRun none (c x.cls) ρ S) = .no
      · rw [hno] at h2; exact h2.elim
      · rw [← aInd_at a rfl hno] at h2
        exact ⟨x.cls, C, hx, gC, rfl, rfl, w, ρ, S, s, en, h2.nox⟩
    · have h2 : EndS X.K X.mg w H (clsR x ρ S l) D W := by
        have h' := h
        unfold clsR at h'
        rw [if_neg (by rw [hs]; decide)] at h'
        exact h'
      exact go' D w x ρ S σ H _ _ hx hn s en ex h2
  | @named x n i sub c b₀ su np q hds l hc hg hi hln k r hd ih =>
    obtain ⟨cv, nm, hx1⟩ := hc.names hg hd
    obtain ⟨l', ok', go'⟩ := ih
    refine ⟨(cv, some i, tsOf X es c) :: l', .named hi hln nm k.su ok', fun D w x ρ S σ H cy od hx hn s en ex h => ?_⟩
    obtain ⟨C, gC, rfl, rfl⟩ := ex0 hx hn ex
    refine ⟨sub x.cls, hx1 _ hx _ gC, fun hs a na => ?_, fun hs => ?_⟩
    · have h2 : EndS X.K X.mg w H (aInd (clRun (some i) (c x.cls) ρ S)) D W := by
        have h' := h
        unfold clsR at h'
        rw [if_pos hs] at h'
        exact h'
      by_cases hno : aInd (clRun (some i) (c x.cls) ρ S) = .no
      · rw [hno] at h2; exact h2.elim
      · rw [← aInd_at a rfl hno] at h2
        exact ⟨x.cls, C, hx, gC, rfl, rfl, w, ρ.set i (some (.exn a)), S, s, en.set (by unfold Rp; rfl), EndS.clr h2⟩
    · have h2 : EndS X.K X.mg w H (clsR x ρ S l) D W := by
        have h' := h
        unfold clsR at h'
        rw [if_neg (by rw [hs]; decide)] at h'
        exact h'
      exact go' D w x ρ S σ H _ _ hx hn s en ex h2
end
end Kw
namespace Kw
open PySem PySem.Spec PyProof.Rows L2
end Kw
namespace Kw
open PySem PySem.Spec PyProof.Rows L2
def revS (z : Str) : Str := ⟨((Builtin.Str.strSliceIndices none none (-1) z.length).filterMap (z.cps[·]?)).toArray⟩
def keyP : Key → PyData
  | .inl i => .int i
  | .inr x => .str x
mutual
/-- a value as data that is shown -/
inductive Rs (K : PySem.W.Frag) (H : Hp) (b : Bool) : V → PyData → Prop
  | non : Rs K H b .non .none
  | bl (c : Bool) : Rs K H b (.bl c) (.bool c)
  | int (i : Int) : Rs K H b (.int i) (.int i)
  | str (x : Str) : Rs K H b (.str x) (.str x)
  | lst {a : Addr} {xs : List V} {ds : List PyData} : SqL K H a xs → (b = true → a ≠ sysModules) → RsL K H b xs ds → Rs K H b (.ref a) (.list ds)
  | tup {a : Addr} {xs : List V} {ds : List PyData} : SqT K H a xs → RsL K H b xs ds → Rs K H b (.ref a) (.tuple ds)
  | dic {a : Addr} {kvs : List (Key × V)} {ps : List (PyData × PyData)} : H a = some (.dK kvs) → RsV K H b kvs ps → Rs K H b (.ref a) (.dict ps)
inductive RsL (K : PySem.W.Frag) (H : Hp) (b : Bool) : List V → List PyData → Prop
  | nil : RsL K H b [] []
  | cons {v : V} {vs : List V} {d : PyData} {ds : List PyData} : Rs K H b v d → RsL K H b vs ds → RsL K H b (v :: vs) (d :: ds)
inductive RsV (K : PySem.W.Frag) (H : Hp) (b : Bool) : List (Key × V) → List (PyData × PyData) → Prop
  | nil : RsV K H b [] []
  | cons {k : Key} {v : V} {r : List (Key × V)} {d : PyData} {ps : List (PyData × PyData)} : Rs K H b v d → RsV K H b r ps → RsV K H b ((k, v) :: r) ((keyP k, d) :: ps)
end
mutual
/-- no list in it -/
def noLs : PyData → Bool
  | .list _ => false
  | .tuple ds => noLsL ds
  | .dict kvs => noLsV kvs
  | _ => true
def noLsL : List PyData → Bool
  | [] => true
  | d :: ds => noLs d && noLsL ds
def noLsV : List (PyData × PyData) → Bool
  | [] => true
  | (_, d) :: ps => noLs d && noLsV ps
end
section
variable {X : Cx} {pins : List (Addr × Obj)} {σ : L2.St} {H : Hp} {s : Shared} {b : Bool}
mutual
theorem Rs.reads (I : Inv X pins σ H s) : ∀ (d : PyData) (v : V) (u : Value), Rs X.K H b v d → RelV v u → ∃ as, Reads s.heap u d as ∧ (noLs d = true ∨ b = true → sysModules ∉ as)
  | .none, _, _, .non, r => by cases r; exact ⟨[], .none, fun _ z => nomatch z⟩
  | .bool b, _, _, .bl _, r => by cases r; exact ⟨[], .bool b, fun _ z => nomatch z⟩
  | .int i, _, _, .int _, r => by obtain ⟨t, rfl⟩ := r; exact ⟨[], .int i t, fun _ z => nomatch z⟩
  | .str x, _, _, .str _, r => by obtain ⟨t, rfl⟩ := r; exact ⟨[], .str x t, fun _ z => nomatch z⟩
  | .list ds, _, _, .lst (a := a) hs hne ha, r => by
    cases r
    obtain ⟨its, rv, ⟨o, n, ho, hc, _, hd⟩, _⟩ := I.list hs
    obtain ⟨as, hr, hn⟩ := RsL.reads I ds _ its ha rv
    refine ⟨_, .list ho hc hd hr, fun z => ?_⟩
    have hb : b = true := by
      rcases z with z | z
      · simp [noLs] at z
      · exact z
    intro y
    rcases List.mem_cons.mp y with y | y
    · exact hne hb y.symm
    · exact hn (.inr hb) y
  | .tuple ds, _, _, .tup hs ha, r => by
    cases r
    obtain ⟨its, rv, ⟨o, ho, hc, n, hd⟩, _⟩ := I.tuple hs
    obtain ⟨as, hr, hn⟩ := RsL.reads I ds _ its ha rv
    exact ⟨_, .tuple ho hc hd hr, fun z => hn (by simpa [noLs] using z)⟩
  | .dict ps, _, _, .dic (a := a) (kvs := kvs) hs hv, r => by
    cases r
    obtain ⟨_, sm, vs, kv, o, es, ep, ho, hc, hd, hk, hp, _⟩ := dk_of I.hok hs
    obtain ⟨h1, bs, h2, hn⟩ := RsV.reads I ps kvs vs es.toList hv kv hp
    refine ⟨_, .dict (as := []) (bs := bs) ho hc.1 hd h1 h2, fun z y => ?_⟩
    rcases List.mem_append.mp y with y | y
    · have : sysModules = a := by simpa using y
      rw [this] at sm
      simp at sm
    · exact hn (by simpa [noLs] using z) y
theorem RsL.reads (I : Inv X pins σ H s) : ∀ (ds : List PyData) (vs : List V) (us : List Value), RsL X.K H b vs ds → Vals vs us → ∃ as, ReadsAll s.heap us ds as ∧ (noLsL ds = true ∨ b = true → sysModules ∉ as)
  | [], _, _, .nil, r => by cases r; exact ⟨_, .nil, fun _ z => nomatch z⟩
  | d :: ds, _, _, .cons h1 h2, r => by
    cases r with
    | cons r1 r2 =>
      obtain ⟨as, q1, n1⟩ := Rs.reads I d _ _ h1 r1
      obtain ⟨bs, q2, n2⟩ := RsL.reads I ds _ _ h2 r2
      refine ⟨_, .cons q1 q2, fun z y => ?_⟩
      simp only [noLsL, Bool.and_eq_true] at z
      rcases List.mem_append.mp y with y | y
      · exact n1 (z.imp (·.1) id) y
      · exact n2 (z.imp (·.2) id) y
theorem RsV.reads (I : Inv X pins σ H s) : ∀ (ps : List (PyData × PyData)) (kvs : List (Key × V)) (vs : List (Key × Value)) (es : List DictEntry), RsV X.K H b kvs ps → KV kvs vs → Pairs (mixKind X.prog X.w) es vs → ReadsAll s.heap (es.map (·.key)) (ps.map (·.1)) [] ∧ ∃ bs, ReadsAll s.heap (es.map (·.val)) (ps.map (·.2)) bs ∧ (noLsV ps = true ∨ b = true → sysModules ∉ bs)
  | [], _, _, _, .nil, r, q => by cases r; cases q; exact ⟨.nil, [], .nil, fun _ z => nomatch z⟩
  | (_, d) :: ps, _, _, _, .cons (k := k) h1 h2, r, q => by
    cases r with
    | cons r1 r2 =>
      cases q with
      | cons q1 q2 q3 =>
        obtain ⟨e1, e2⟩ := r1
        obtain ⟨a1, bs, a2, a3⟩ := RsV.reads I ps _ _ _ h2 r2 q3
        obtain ⟨as, b1, b2⟩ := Rs.reads I d _ _ h1 e2
        refine ⟨?_, as ++ bs, ?_, fun z y => ?_⟩
        · rw [← e1] at q1
          have hk : ∀ v, keyIs k v = true → Reads s.heap v (keyP k) [] := fun v hv => by
            rcases keyIs_shape hv with ⟨i, t, rfl, rfl⟩ | ⟨x, t, rfl, rfl⟩
            · exact .int i t
            · exact .str x t
          exact ReadsAll.cons (hk _ q1) a1
        · rw [List.map_cons, List.map_cons, q2]
          exact .cons b1 a2
        · simp only [noLsV, Bool.and_eq_true] at z
          rcases List.mem_append.mp y with y | y
          · exact b2 (z.imp (·.1) id) y
          · exact a3 (z.imp (·.2) id) y
end
end
def okSh (b : Bool) (p : PyData) : Bool := p.showable && decide (p.depth ≤ 190) && decide (p.shown.length ≤ 16777216) && (!p.hasDict || noLs p || b)
mutual
def sh0 : D → Option PyData
  | .non => some .none
  | .bl b => some (.bool b)
  | .int i => some (.int i)
  | .str x => some (.str x)
  | .tup ds => (sh0L ds).map .tuple
  | .lst ds => (sh0L ds).map .list
  | .fls ds => (sh0L ds).map .list
  | .dic ks ds => (sh0L ds).map fun ps => .dict ((ks.map keyP).zip ps)
  | _ => none
def sh0L : List D → Option (List PyData)
  | [] => some []
  | d :: ds => (sh0 d).bind fun a => (sh0L ds).map (a :: ·)
end
mutual
def shS (S : Store) : D → Option PyData
  | .non => some .none
  | .bl b => some (.bool b)
  | .int i => some (.int i)
  | .str x => some (.str x)
  | .tup ds => (shSL S ds).map .tuple
  | .lst ds => (shSL S ds).map .list
  | .fls ds => (shSL S ds).map .list
  | .dic ks ds => (shSL S ds).map fun ps => .dict ((ks.map keyP).zip ps)
  | .loc n => ((Kw.cellOf S n).bind sh0L).map .list
  | _ => none
def shSL (S : Store) : List D → Option (List PyData)
  | [] => some []
  | d :: ds => (shS S d).bind fun a => (shSL S ds).map (a :: ·)
end
section
variable {K : PySem.W.Frag} {mg : Str → Option Value} {w : Wd} {H : Hp} {S : Store} {b : Bool}
/-- the modules' table is told first -/
def sysB (S : Store) : Bool := match S with
  | .sys :: _ => true
  | _ => false
theorem sysB_at [Wo] (s : Sto K mg w S H) (h : sysB S = true) : sysModules ∈ w.hd ∧ K.lookup sysModules = none ∧ ∃ φ, H sysModules = some (.ext φ) ∧ SysQ φ := by
  unfold sysB at h
  split at h
  · have c := s.cell 0 .sys rfl
    exact ⟨c.2.1, c.2.2.2.2, c.2.2.2.1⟩
  · cases h
theorem RsV.zip : ∀ {ks : List Key} {vs : List V} {ps : List PyData}, RsL K H b vs ps → RsV K H b (ks.zip vs) ((ks.map keyP).zip ps)
  | [], _, _, _ => .nil
  | _ :: _, _, _, .nil => .nil
  | _ :: _, _, _, .cons h1 h2 => .cons h1 (RsV.zip h2)
theorem Fp.ne {a : Addr} {xs : List V} (t : Fp K w H a xs) (h1 : sysModules ∈ w.hd) (h2 : K.lookup sysModules = none) : a ≠ sysModules := by
  intro e
  subst e
  rcases t with ⟨o, _, off⟩ | ⟨o, its, n, h, _⟩
  · exact off.2 h1
  · rw [h2] at h; cases h
mutual
theorem sh0_at (hb : b = true → sysModules ∈ w.hd ∧ K.lookup sysModules = none) : ∀ (d : D) (v : V) (p : PyData), Rp K mg w H d v → sh0 d = some p → Rs K H b v p
  | .non, v, p, r, h => by unfold Rp at r; simp only [sh0] at h; cases h; subst r; exact .non
  | .bl _, v, p, r, h => by unfold Rp at r; simp only [sh0] at h; cases h; subst r; exact .bl _
  | .int _, v, p, r, h => by unfold Rp at r; simp only [sh0] at h; cases h; subst r; exact .int _
  | .str _, v, p, r, h => by unfold Rp at r; simp only [sh0] at h; cases h; subst r; exact .str _
  | .tup ds, v, p, r, h => by
    obtain ⟨a, xs, e, t, q⟩ := tup_at r
    simp only [sh0, Option.map_eq_some_iff] at h
    obtain ⟨ps, h1, rfl⟩ := h
    subst e
    exact .tup t (sh0L_at hb ds xs ps q h1)
  | .lst ds, v, p, r, h => by
    unfold Rp at r
    obtain ⟨a, xs, e, t, off, q⟩ := r
    simp only [sh0, Option.map_eq_some_iff] at h
    obtain ⟨ps, h1, rfl⟩ := h
    subst e
    exact .lst (.of t) (fun z e => off.2 (e ▸ (hb z).1)) (sh0L_at hb ds xs ps q h1)
  | .dic ks ds, v, p, r, h => by
    unfold Rp at r
    obtain ⟨a, vs, e, t, _, _, q⟩ := r
    simp only [sh0, Option.map_eq_some_iff] at h
    obtain ⟨ps, h1, rfl⟩ := h
    subst e
    exact .dic t (RsV.zip (sh0L_at hb ds vs ps q h1))
  | .ins _ _ _, v, p, r, h => by simp [sh0] at h
  | .loc _, v, p, r, h => by simp [sh0] at h
  | .glo _, v, p, r, h => by simp [sh0] at h
  | .exn _, v, p, r, h => by simp [sh0] at h
  | .exo _ _ _, v, p, r, h => by simp [sh0] at h
  | .lam _ _ _, v, p, r, h => by simp [sh0] at h
  | .fls ds, v, p, r, h => by
    unfold Rp at r
    obtain ⟨a, xs, e, t, q⟩ := r
    simp only [sh0, Option.map_eq_some_iff] at h
    obtain ⟨ps, h1, rfl⟩ := h
    subst e
    exact .lst t.sq (fun z e => t.ne (hb z).1 (hb z).2 e) (sh0L_at hb ds xs ps q h1)
theorem sh0L_at (hb : b = true → sysModules ∈ w.hd ∧ K.lookup sysModules = none) : ∀ (ds : List D) (vs : List V) (ps : List PyData), RpL K mg w H ds vs → sh0L ds = some ps → RsL K H b vs ps
  | [], vs, ps, r, h => by unfold RpL at r; simp only [sh0L] at h; cases h; subst r; exact .nil
  | d :: ds, vs, ps, r, h => by
    unfold RpL at r
    obtain ⟨v, vs', e, r1, r2⟩ := r
    simp only [sh0L, Option.bind_eq_some_iff, Option.map_eq_some_iff] at h
    obtain ⟨a, h1, b', h2, rfl⟩ := h
    subst e
    exact .cons (sh0_at hb d v a r1 h1) (sh0L_at hb ds vs' b' r2 h2)
end
mutual
theorem shS_at [Wo] (s : Sto K mg w S H) (hb : b = true → sysB S = true) : ∀ (d : D) (v : V) (p : PyData), Rp K mg w H d v → shS S d = some p → Rs K H b v p
  | .non, v, p, r, h => by unfold Rp at r; simp only [shS] at h; cases h; subst r; exact .non
  | .bl _, v, p, r, h => by unfold Rp at r; simp only [shS] at h; cases h; subst r; exact .bl _
  | .int _, v, p, r, h => by unfold Rp at r; simp only [shS] at h; cases h; subst r; exact .int _
  | .str _, v, p, r, h => by unfold Rp at r; simp only [shS] at h; cases h; subst r; exact .str _
  | .tup ds, v, p, r, h => by
    obtain ⟨a, xs, e, t, q⟩ := tup_at r
    simp only [shS, Option.map_eq_some_iff] at h
    obtain ⟨ps, h1, rfl⟩ := h
    subst e
    exact .tup t (shSL_at s hb ds xs ps q h1)
  | .lst ds, v, p, r, h => by
    unfold Rp at r
    obtain ⟨a, xs, e, t, off, q⟩ := r
    simp only [shS, Option.map_eq_some_iff] at h
    obtain ⟨ps, h1, rfl⟩ := h
    subst e
    exact .lst (.of t) (fun z e => off.2 (e ▸ (sysB_at s (hb z)).1)) (shSL_at s hb ds xs ps q h1)
  | .dic ks ds, v, p, r, h => by
    unfold Rp at r
    obtain ⟨a, vs, e, t, _, _, q⟩ := r
    simp only [shS, Option.map_eq_some_iff] at h
    obtain ⟨ps, h1, rfl⟩ := h
    subst e
    exact .dic t (RsV.zip (shSL_at s hb ds vs ps q h1))
  | .loc n, v, p, r, h => by
    simp only [shS, Option.map_eq_some_iff, Option.bind_eq_some_iff] at h
    obtain ⟨ps, ⟨ds, h0, h1⟩, rfl⟩ := h
    obtain ⟨a, xs, h3, h4, h5⟩ := cellOf_at s h0
    unfold Rp at r
    have e := r.2 a h3
    subst e
    refine .lst (.inl h4) (fun z e => ?_) (sh0L_at (fun z => ⟨(sysB_at s (hb z)).1, (sysB_at s (hb z)).2.1⟩) ds xs ps h5 h1)
    obtain ⟨_, _, φ, h6, _⟩ := sysB_at s (hb z)
    rcases h4 with h4 | ⟨o, h4⟩
    · rw [e, h6] at h4; cases h4
    · rw [e, h6] at h4; cases h4
  | .ins _ _ _, v, p, r, h => by simp [shS] at h
  | .glo _, v, p, r, h => by simp [shS] at h
  | .exn _, v, p, r, h => by simp [shS] at h
  | .exo _ _ _, v, p, r, h => by simp [shS] at h
  | .lam _ _ _, v, p, r, h => by simp [shS] at h
  | .fls ds, v, p, r, h => by
    unfold Rp at r
    obtain ⟨a, xs, e, t, q⟩ := r
    simp only [shS, Option.map_eq_some_iff] at h
    obtain ⟨ps, h1, rfl⟩ := h
    subst e
    exact .lst t.sq (fun z e => t.ne (sysB_at s (hb z)).1 (sysB_at s (hb z)).2.1 e) (shSL_at s hb ds xs ps q h1)
theorem shSL_at [Wo] (s : Sto K mg w S H) (hb : b = true → sysB S = true) : ∀ (ds : List D) (vs : List V) (ps : List PyData), RpL K mg w H ds vs → shSL S ds = some ps → RsL K H b vs ps
  | [], vs, ps, r, h => by unfold RpL at r; simp only [shSL] at h; cases h; subst r; exact .nil
  | d :: ds, vs, ps, r, h => by
    unfold RpL at r
    obtain ⟨v, vs', e, r1, r2⟩ := r
    simp only [shSL, Option.bind_eq_some_iff, Option.map_eq_some_iff] at h
    obtain ⟨a, h1, b', h2, rfl⟩ := h
    subst e
    exact .cons (shS_at s hb d v a r1 h1) (shSL_at s hb ds vs' b' r2 h2)
end
end
def gRepr (ds : List D) (S : Store) : RE D := match ds with
  | [x] => (match shS S x with
    | some p => if okSh (sysB S) p = true then .ok (.str p.shown) S else .no
    | none => .no)
  | _ => .no
end Kw
namespace Kw
open PySem PySem.Spec PyProof.Rows L2
/-- a text, a tuple, a list turned round -/
def gTurn (x : D) (S : Store) : RE D := match x with
  | .str z => if z.length ≤ 16777216 then .ok (.str (revS z)) S else .no
  | .tup ds => .ok (.tup ds.reverse) S
  | x => (match seqL S x with
    | some ds => .ok (.lst ds.reverse) S
    | none => .no)
@[simp] theorem gTurn_tup {ds : List D} {S : Store} : gTurn (.tup ds) S = .ok (.tup ds.reverse) S := rfl
end Kw
namespace Kw
open PySem PySem.Spec PyProof.Rows L2
end Kw
namespace Kw
open PySem PySem.Spec PyProof.Rows L2
/-- the outer loop: F is what one of its items adds -/
noncomputable def compO (g : FG) (F : FEnv → List D → Store → RE (List D)) (gu : Option (Nat × List D)) (ρ : FEnv) : List D → List D → Store → RE (List D)
  | [], acc, S => gchk gu S (.ok acc S) .no
  | d :: r, acc, S => gchk gu S (match g d ρ S with
    | some (ρ1, S1) => (match F ρ1 acc S1 with
      | .ok acc2 S2 => compO g F gu ρ r acc2 S2
      | _ => .no)
    | none => .no) .no
noncomputable def inL (fi1 : FI) (g1 : FG) (te : FE) (vs1 : List Nat) : FEnv → List D → Store → RE (List D) := fun ρ1 acc S => match fi1 ρ1 S with
  | .ok p S1 => compL g1 fYes te p.2 (wipeR ρ1 vs1) p.1 acc S1
  | _ => .no
noncomputable def fLc2 (fi : FI) (g : FG) (fi1 : FI) (g1 : FG) (te : FE) (vs vs1 : List Nat) : FE := fun ρ S => (fi ρ S).bnd fun p S1 => match compO g (inL fi1 g1 te vs1) p.2 (wipeR ρ vs) p.1 [] S1 with
  | .ok acc S2 => .ok (.lst acc) S2
  | _ => .no
section
variable {X : Cx} {W : WX} {fi fi1 : FI} {g g1 : FG} {sl sl1 : List Nat} {te : FE}
theorem lc2_core' [Wo] {σ : L2.St} {H : Hp} {Q : VK} {vs vs1 : List Nat} (hsl : ∀ i ∈ sl, i ∈ vs) (hsl1 : ∀ i ∈ sl1, i ∈ vs1) (h : tF X W (fLc2 fi g fi1 g1 te vs vs1) σ H Q) :
    tLc2 (tI X W fi) (tG X sl g) (tT X W0 fYes) (tI X W0 fi1) (tG X sl1 g1) (tT X W0 fYes) (tF X W0 te) vs vs1 σ H Q := by
  obtain ⟨w, ρ, S, s, en, h⟩ := h
  refine ⟨w, ρ, S, s, en, (End.bind (R := ItOk X.K X.mg) h).imp ?_ (fun _ _ _ z => z)⟩
  rintro J H1 ⟨w1, S1, ⟨items, gu⟩, e1, s1, J1, h1⟩ C hC
  have enw : EnvR X.K X.mg w1 H1 (wipeR ρ vs) (wipe σ vs) := (en.ext e1).wipe vs
  let fin : RE (List D) → RE D := fun r => match r with
    | .ok acc S2 => .ok (.lst acc) S2
    | _ => .no
  have h1' : End X.K X.mg (fun w H => Rp X.K X.mg w H) w1 H1 (fin (compO g (inL fi1 g1 te vs1) gu (wipeR ρ vs) items [] S1)) Q (fun c od H' => W c od σ H') := h1
  let G : Hp → List D → Store → RE (List D) → Prop := fun H' acc S' r => ∃ w' xs, ExtD C w1 H1 w' H' ∧ Sto X.K X.mg w' S' H' ∧ H' C = some (.lst xs) ∧ RpL X.K X.mg w' H' acc xs ∧ ∃ r0, fin r = r0 ∧ End X.K X.mg (fun w H => Rp X.K X.mg w H) w1 H1 r0 Q (fun c od H' => W c od σ H')
  refine ⟨fun i m H' => ∃ acc S', i + m = items.length ∧ G H' acc S' (compO g (inL fi1 g1 te vs1) gu (wipeR ρ vs) (items.drop i) acc S'), ⟨items.length, [], S1, by omega, ⟨w1.φ, C :: w1.hd⟩, [], ExtD.begin_ hC, s1.mvd hC, upd_same, RpL.nil, _, rfl, h1'⟩, ?_⟩
  rintro i m H' ⟨acc, S', hm, w', xs, ed, s', hx, ra, r0, hr0, he⟩
  have no_end : ∀ {r : RE D}, r = .no → End X.K X.mg (fun w H => Rp X.K X.mg w H) w1 H1 r Q (fun c od H' => W c od σ H') → False := fun e h => by rw [e] at h; exact h
  cases hd : items.drop i with
  | nil =>
    rw [hd] at hr0
    unfold compO at hr0
    unfold gchk at hr0
    split at hr0
    · rename_i gd1
      have hl : items.length ≤ i := List.drop_eq_nil_iff.mp hd
      refine .inl ⟨(J1 w' S' H' ed.mv s' gd1).1 i hl, ?_⟩
      have hCin : C ∈ w'.hd := by rw [ed.hd]; exact List.mem_cons_self
      have hout : some C ∉ w'.φ := (s'.ap C hCin).2
      have hnh : C ∉ w1.hd := fun z => (s1.ap C z).1 hC
      have ra3 := RpL.mv (Mv.show (H := H') ed.hd) _ _ ra
      subst hr0
      refine he ⟨w'.φ, w1.hd⟩ H' (.ref C) ed.done (s'.show ed.hd ⟨_, hx⟩) ?_
      show Rp _ _ _ _ _ _
      unfold Rp
      exact ⟨C, xs, rfl, hx, ⟨hout, hnh⟩, ra3⟩
    · exact (no_end hr0.symm he).elim
  | cons d r =>
    rw [hd] at hr0
    unfold compO at hr0
    unfold gchk at hr0
    split at hr0
    · rename_i gd1
      have hi' : items[i]? = some d := by
        have := congrArg (·[0]?) hd
        simpa using this
      have hr : items.drop (i + 1) = r := by
        have := congrArg List.tail hd
        simpa using this
      have hlt : i < items.length := (List.getElem?_eq_some_iff.mp hi').1
      obtain ⟨j1, j2⟩ := (J1 w' S' H' ed.mv s' gd1).2 i d hi'
      refine .inr ⟨j1, fun H2 => ∃ acc2 S2, G H2 acc2 S2 (compO g (inL fi1 g1 te vs1) gu (wipeR ρ vs) r acc2 S2), fun H2 ⟨acc2, S2, z⟩ => ⟨m - 1, by omega, acc2, S2, by omega, by rw [hr]; exact z⟩, ?_⟩
      intro x H'' hy
      obtain ⟨j3, j4, j5⟩ := j2 x H'' hy
      have enw' : EnvR X.K X.mg w' H'' (wipeR ρ vs) (wipe σ vs) := (enw.mv ed.mv).ext j3
      refine ⟨w', wipeR ρ vs, S', d, j4, enw', j5, ?_⟩
      split at hr0
      · rename_i ρ1 S1' hg1
        rw [hg1]
        intro w2 H2 σ2 e2 s2 en2 k2 l2
        have hw : wipe σ2 vs = wipe σ vs := by
          rw [← wipe_wipe σ vs]
          exact wipe_eq l2 fun i hi => k2 i (fun z => hi (hsl i z))
        refine ⟨hw, w2, ρ1, S1', s2, en2, ?_⟩
        have ed2 : ExtD C w1 H1 w2 H2 := (ed.step j3).step e2
        intro w3 H3 b e3 s3 hb
        cases hb
        rw [if_pos rfl]
        have en3 := en2.ext e3
        refine ⟨w3, ρ1, S1', s3, en3, ?_⟩
        have exx3 : Ext w' H' w3 H3 := (j3.trans e2).trans e3
        have hCin' : C ∈ w'.hd := by rw [ed.hd]; exact List.mem_cons_self
        have hx3 : H3 C = some (.lst xs) := exx3.fr C _ hx (s'.ap C hCin').2
        have ra3 := RpL.ext exx3 _ _ ra
        have ed3 : ExtD C w1 H1 w3 H3 := ed2.step e3
        split at hr0
        · rename_i acc2 S2' hin
          unfold inL at hin
          split at hin
          · rename_i p S3 hfi
            obtain ⟨items1, gu1⟩ := p
            rw [hfi]
            intro w4 H4 J' e4 s4 JO
            have en4 : EnvR X.K X.mg w4 H4 (wipeR ρ1 vs1) (wipe σ2 vs1) := (en3.ext e4).wipe vs1
            have hC3 : C ∈ w3.hd := by rw [ed3.hd]; exact List.mem_cons_self
            have hx4 : H4 C = some (.lst xs) := e4.fr C _ hx3 (s3.ap C hC3).2
            have ra4 := RpL.ext e4 _ _ ra3
            have ed4 : ExtD C w1 H1 w4 H4 := ed3.step e4
            -- the inner loop
            let G1 : Hp → List D → Store → RE (List D) → Prop := fun H' acc S' r1 => ∃ w' xs, ExtD C w1 H1 w' H' ∧ Mv w4 H4 w' H' ∧ Sto X.K X.mg w' S' H' ∧ H' C = some (.lst xs) ∧ RpL X.K X.mg w' H' acc xs ∧ r1 = .ok acc2 S2'
            refine ⟨fun j k H' => ∃ acc S', j + k = items1.length ∧ G1 H' acc S' (compL g1 fYes te gu1 (wipeR ρ1 vs1) (items1.drop j) acc S'), ⟨items1.length, acc, S3, by omega, w4, xs, ed4, Mv.refl, s4, hx4, ra4, hin⟩, ?_⟩
            rintro j k H5 ⟨acc5, S5, hk, w5, xs5, ed5, mv5, s5, hx5, ra5, hr5⟩
            cases hd5 : items1.drop j with
            | nil =>
              rw [hd5] at hr5
              unfold compL at hr5
              unfold gchk at hr5
              split at hr5
              · rename_i gd5
                have hl5 : items1.length ≤ j := List.drop_eq_nil_iff.mp hd5
                cases hr5
                exact .inl ⟨(JO w5 _ H5 mv5 s5 gd5).1 j hl5, _, _, w5, xs5, ed5, s5, hx5, ra5, _, hr0, he⟩
              · cases hr5
            | cons d5 r5 =>
              rw [hd5] at hr5
              unfold compL at hr5
              unfold gchk at hr5
              split at hr5
              · rename_i gd5
                have hi5 : items1[j]? = some d5 := by
                  have := congrArg (·[0]?) hd5
                  simpa using this
                have hr6 : items1.drop (j + 1) = r5 := by
                  have := congrArg List.tail hd5
                  simpa using this
                have hlt5 : j < items1.length := (List.getElem?_eq_some_iff.mp hi5).1
                obtain ⟨q1, q2⟩ := (JO w5 S5 H5 mv5 s5 gd5).2 j d5 hi5
                refine .inr ⟨q1, fun H2 => ∃ acc2 S2, G1 H2 acc2 S2 (compL g1 fYes te gu1 (wipeR ρ1 vs1) r5 acc2 S2), fun H2 ⟨acc2, S2, z⟩ => ⟨k - 1, by omega, acc2, S2, by omega, by rw [hr6]; exact z⟩, ?_⟩
                intro x5 H6 hy5
                obtain ⟨j6, j7, j8⟩ := q2 x5 H6 hy5
                have en6 : EnvR X.K X.mg w5 H6 (wipeR ρ1 vs1) (wipe σ2 vs1) := (en4.mv mv5).ext j6
                refine ⟨w5, wipeR ρ1 vs1, S5, d5, j7, en6, j8, ?_⟩
                split at hr5
                · rename_i ρ6 S6 hg6
                  rw [hg6]
                  intro w7 H7 σ7 e7 s7 en7 k7 l7
                  have hw7 : wipe σ7 vs1 = wipe σ2 vs1 := by
                    rw [← wipe_wipe σ2 vs1]
                    exact wipe_eq l7 fun i hi => k7 i (fun z => hi (hsl1 i z))
                  refine ⟨hw7, w7, ρ6, S6, s7, en7, ?_⟩
                  intro w8 H8 b8 e8 s8 hb8
                  cases hb8
                  rw [if_pos rfl]
                  refine ⟨w8, ρ6, S6, s8, en7.ext e8, ?_⟩
                  have hyes : fYes ρ6 S6 = .ok true S6 := rfl
                  rw [hyes] at hr5
                  simp only at hr5
                  split at hr5
                  · rename_i y S9 hy9
                    rw [hy9]
                    intro w9 H9 u e9 s9 r9
                    have exx : Ext w5 H5 w9 H9 := ((j6.trans e7).trans e8).trans e9
                    have ed9 : ExtD C w1 H1 w9 H9 := ed5.step exx
                    have hC5 : C ∈ w5.hd := by rw [ed5.hd]; exact List.mem_cons_self
                    have hC9 : C ∈ w9.hd := by rw [ed9.hd]; exact List.mem_cons_self
                    have hx9 : H9 C = some (.lst xs5) := exx.fr C _ hx5 (s5.ap C hC5).2
                    have ra9 := RpL.ext exx _ _ ra5
                    split at hr5
                    · rename_i hlen
                      refine ⟨xs5, hx9, by rw [← ra5.length]; exact hlen, acc5 ++ [y], S9, w9, xs5 ++ [u], ed9.poke, (mv5.trans exx.mv).trans (Mv.poke hC9), s9.poke hC9 ⟨_, hx9⟩, upd_same, ?_, hr5⟩
                      exact (RpL.mv (Mv.poke hC9) _ _ ra9).append (RpL.one (Rp.mv (Mv.poke hC9) _ _ r9))
                    · cases hr5
                  · cases hr5
                · cases hr5
              · cases hr5
          · cases hin
        · exact (no_end hr0.symm he).elim
      · exact (no_end hr0.symm he).elim
    · exact (no_end hr0.symm he).elim
theorem q_lc2 [Wo] {elt tg iter tg1 iter1 : Expr} {scope : Scope} {own : List (Str × Nat)} {vs1 : List Nat} {pos : Pos} (hc : X.calm = true) (hN : X.N.Nodup) (hi : PI X tg iter (tI X W fi)) (ok : BlkOk X.N X.env.scope scope own) (hv : ∀ i ∈ vs1, i ∈ own.map (·.2)) (hsl : ∀ i ∈ sl, i ∈ own.map (·.2)) (hsl1 : ∀ i ∈ sl1, i ∈ vs1)
    (hg : ∀ (s : Shared) (H : Hp) (C : Addr) (cl : List (Str × Addr)) (fp : List Addr), PG (X.blk s H scope (compEnvC scope cl C X.env) fp) tg (tG (X.blk s H scope (compEnvC scope cl C X.env) fp) sl g))
    (hi1 : ∀ (s : Shared) (H : Hp) (C : Addr) (cl : List (Str × Addr)) (fp : List Addr), PI (X.blk s H scope (compEnvC scope cl C X.env) fp) tg1 iter1 (tI (X.blk s H scope (compEnvC scope cl C X.env) fp) W0 fi1))
    (hg1 : ∀ (s : Shared) (H : Hp) (C : Addr) (cl : List (Str × Addr)) (fp : List Addr), PG (X.blk s H scope (compEnvC scope cl C X.env) fp) tg1 (tG (X.blk s H scope (compEnvC scope cl C X.env) fp) sl1 g1))
    (he : ∀ (s : Shared) (H : Hp) (C : Addr) (cl : List (Str × Addr)) (fp : List Addr), PE (X.blk s H scope (compEnvC scope cl C X.env) fp) elt (tF (X.blk s H scope (compEnvC scope cl C X.env) fp) W0 te))
    (hs : ∀ x, foldedSetIterable iter X.env x = pure x := by intro _; rfl) (hs1 : ∀ env x, foldedSetIterable iter1 env x = pure x := by intro _ _; rfl) :
    PE X (.ListComp elt [⟨tg, iter, [], 0⟩, ⟨tg1, iter1, [], 0⟩] scope pos) (tF X W (fLc2 fi g fi1 g1 te (own.map (·.2)) vs1)) :=
  PE.wk (pe_lc2 (g := tG X sl g) (tt := tT X W0 fYes) (wi1 := tI X W0 fi1) (g1 := tG X sl1 g1) (tt1 := tT X W0 fYes) (te := tF X W0 te) hc hN hi ok hv hg (fun _ _ _ _ _ => qts_nil) hi1 hg1 (fun _ _ _ _ _ => qts_nil) he hs hs1) fun σ H Q h => lc2_core' hsl hsl1 h
theorem q_setLc2 [Wo] {elt tg iter tg1 iter1 : Expr} {scope : Scope} {own : List (Str × Nat)} {vs1 : List Nat} {i : Nat} {y : Str} {py pos spos : Pos} (hc : X.calm = true) (hN : X.N.Nodup) (hy : X.N[i]? = some y) (hyl : X.env.scope.names.lookup y = some .local)
    (hsw : swapsWith (.ListComp elt [⟨tg, iter, [], 0⟩, ⟨tg1, iter1, [], 0⟩] scope pos) (some (.Name y py)) spos.line X.env = pure true) (hi : PI X tg iter (tI X W fi)) (ok : BlkOk X.N X.env.scope scope own) (hv : ∀ i ∈ vs1, i ∈ own.map (·.2)) (hsl : ∀ i ∈ sl, i ∈ own.map (·.2)) (hsl1 : ∀ i ∈ sl1, i ∈ vs1)
    (hg : ∀ (s : Shared) (H : Hp) (C : Addr) (cl : List (Str × Addr)) (fp : List Addr), PG (X.blk s H scope (compEnvC scope cl C X.env) fp) tg (tG (X.blk s H scope (compEnvC scope cl C X.env) fp) sl g))
    (hi1 : ∀ (s : Shared) (H : Hp) (C : Addr) (cl : List (Str × Addr)) (fp : List Addr), PI (X.blk s H scope (compEnvC scope cl C X.env) fp) tg1 iter1 (tI (X.blk s H scope (compEnvC scope cl C X.env) fp) W0 fi1))
    (hg1 : ∀ (s : Shared) (H : Hp) (C : Addr) (cl : List (Str × Addr)) (fp : List Addr), PG (X.blk s H scope (compEnvC scope cl C X.env) fp) tg1 (tG (X.blk s H scope (compEnvC scope cl C X.env) fp) sl1 g1))
    (he : ∀ (s : Shared) (H : Hp) (C : Addr) (cl : List (Str × Addr)) (fp : List Addr), PE (X.blk s H scope (compEnvC scope cl C X.env) fp) elt (tF (X.blk s H scope (compEnvC scope cl C X.env) fp) W0 te))
    (hs : ∀ x, foldedSetIterable iter X.env x = pure x := by intro _; rfl) (hs1 : ∀ env x, foldedSetIterable iter1 env x = pure x := by intro _ _; rfl) :
    PS X (.Assign [.Name y py] (.ListComp elt [⟨tg, iter, [], 0⟩, ⟨tg1, iter1, [], 0⟩] scope pos) spos) (tS X W (sSet i (fLc2 fi g fi1 g1 te (own.map (·.2)) vs1))) :=
  PS.wk (ps_setLc2 (g := tG X sl g) (tt := tT X W0 fYes) (wi1 := tI X W0 fi1) (g1 := tG X sl1 g1) (tt1 := tT X W0 fYes) (te := tF X W0 te) hc hN hy hyl hsw hi ok hv hg (fun _ _ _ _ _ => qts_nil) hi1 hg1 (fun _ _ _ _ _ => qts_nil) he hs hs1) fun D σ H ⟨w, ρ, S, s, en, h⟩ => by
    refine lc2_core' (Q := fun x H1 => gName i x σ H1 D.nx) hsl hsl1 ⟨w, ρ, S, s, en, (h.of (R := fun w H => Rp X.K X.mg w H) en).imp (fun v H1 ⟨w1, S1, d, e1, s1, r1, h1⟩ => h1.nx' s1 ((en.ext e1).set r1)) (fun _ _ _ z => z)⟩
end
theorem rgV_ints (n : Int) : rgV 0 n = ((List.range n.toNat).map fun (i : Nat) => ((i : Nat) : Int)).map V.int := by
  unfold rgV
  rw [List.map_map, Int.sub_zero]
  apply List.map_congr_left
  intro i _
  simp
def gRng (x : D) (S : Store) : RE D := match x with
  | .int n => if 0 ≤ n ∧ n ≤ 16777216 then .ok (.lst (((List.range n.toNat).map fun (i : Nat) => ((i : Nat) : Int)).map D.int)) S else .no
  | _ => .no
theorem q_listRg [Wo] {X : Cx} {W : WX} {e : Expr} {fe : FE} {p p' pos pos' : Pos} (hc : X.calm = true) (hg : Gl X "list") (hm : X.mg "list" = none) (hg' : Gl X "range") (hm' : X.mg "range" = none) (he : PE X e (tF X W fe))
    (na : starEach [.Call (.Name "range" p') [e] [] pos'] X.env = (false, eval (.Call (.Name "range" p') [e] [] pos') X.env) :: starEach [] X.env := by rfl) (na' : starEach [e] X.env = (false, eval e X.env) :: starEach [] X.env := by rfl) :
    PE X (.Call (.Name "list" p) [.Call (.Name "range" p') [e] [] pos'] [] pos) (tF X W (f1 gRng fe)) :=
  PE.wk (pe_listRg hc hg hm (prg_1 hg' hm' he na') na) fun σ H Q ⟨w, ρ, S, s, en, h⟩ => by
    refine ⟨w, ρ, S, s, en, (End.bind (R := fun w H => Rp X.K X.mg w H) h).imp ?_ (fun _ _ _ z => z)⟩
    rintro v H1 ⟨w1, S1, d, e1, s1, r1, h1⟩
    unfold gRng at h1
    split at h1
    · rename_i n
      split at h1
      · rename_i hn
        refine ⟨n, rp_int r1, RgOk.of_le (by omega) (by omega) (by omega) (by omega), fun q hq => ?_⟩
        rw [rgV_ints]
        exact newLst s1 (RpL.ints _) hq h1
      · exact h1.elim
    · exact h1.elim
end Kw
namespace Kw
open PySem PySem.Spec PySem.Calls PyProof.Rows L2
theorem DpAll.length {K : PySem.W.Frag} {H : Hp} : ∀ {vs : List V} {ds : List PyData}, DpAll K H vs ds → vs.length = ds.length
  | _, _, .nil => rfl
  | _, _, .cons _ t => by simp [DpAll.length t]
section
variable {X : Cx}
theorem RpL.zip {K : PySem.W.Frag} {mg : Str → Option Value} {w : Wd} {H : Hp} : ∀ {ds : List D} {vs : List V}, RpL K mg w H ds vs → ∀ b ∈ ds.zip vs, Rp K mg w H b.1 b.2
  | [], vs, h, b, hb => by simp at hb
  | d :: ds, vs, h, b, hb => by
    unfold RpL at h
    obtain ⟨v, r, rfl, h1, h2⟩ := h
    rcases List.mem_cons.mp hb with rfl | hb
    · exact h1
    · exact RpL.zip h2 b hb
end
end Kw
namespace Kw
open PySem PySem.Spec PySem.Calls PyProof.Rows L2
/-- a code object, its table, the name that the table's code objects bear -/
abbrev Tb := Addr × Addr × Str
def tbP (cs : List Tb) : List Addr := cs.map fun p => p.2.1
/-- the cells at the start -/
def topS0 (cs : List Tb) : Store := .sys :: cs.map fun p => .tab p.2.2
def topW (cs : List Tb) : Wd := ⟨none :: (tbP cs).map some, [sysModules]⟩
structure TopH (K : PySem.W.Frag) (cs : List Tb) (H : Hp) (a : Addr) (ns : List Int) : Prop where
  sysx : ∃ φ, H sysModules = some (.ext φ) ∧ SysQ φ
  look : K.lookup sysModules = none
  tbl : ∀ p ∈ cs, H p.2.1 = some (.tbl #[])
  tin : ∀ p ∈ cs, PySem.W.tabIn K p.2.2 = some (p.1, p.2.1)
  nodup : (tbP cs).Nodup
  scr : SqL K H a (ns.map V.int)
  frz : ∀ o, H a = some o → ∃ u, o = .frz u (.lst (ns.map V.int))
section
variable {K : PySem.W.Frag} {mg : Str → Option Value} {cs : List Tb} {H : Hp} {a : Addr} {ns : List Int}
theorem TopH.sys_ne (t : TopH K cs H a ns) {p : Tb} (hp : p ∈ cs) : p.2.1 ≠ sysModules := fun e => by
  obtain ⟨φ, h, _⟩ := t.sysx
  have := t.tbl p hp
  rw [e, h] at this; cases this
theorem topW_get {n : Nat} {b : Addr} (h : (topW cs).φ[n]? = some (some b)) : ∃ m, n = m + 1 ∧ (tbP cs)[m]? = some b := by
  cases n with
  | zero => cases h
  | succ m =>
    refine ⟨m, rfl, ?_⟩
    have h' : ((tbP cs).map some)[m]? = some (some b) := h
    rw [List.getElem?_map] at h'
    cases e : (tbP cs)[m]? with
    | none => rw [e] at h'; cases h'
    | some c => rw [e] at h'; simpa using h'
theorem top_sto [Wo] (t : TopH K cs H a ns) : Sto K mg (topW cs) (topS0 cs) H := by
  have nsys : some sysModules ∉ (topW cs).φ := fun z => by
    rcases List.mem_cons.mp (show some sysModules ∈ none :: (tbP cs).map some from z) with z | z
    · cases z
    · obtain ⟨b, hb, e⟩ := List.mem_map.mp z
      cases e
      obtain ⟨p, hp, e⟩ := List.mem_map.mp hb
      exact t.sys_ne hp e
  refine ⟨by simp [topW, topS0, tbP], fun m n b h1 h2 => ?_, fun b hb => ?_, fun n c hc => ?_⟩
  · obtain ⟨i, rfl, hi⟩ := topW_get h1
    obtain ⟨j, rfl, hj⟩ := topW_get h2
    have hil : i < (tbP cs).length := by
      rcases Nat.lt_or_ge i (tbP cs).length with l | l
      · exact l
      · rw [List.getElem?_eq_none l] at hi; cases hi
    have := (List.getElem?_inj hil t.nodup).mp (hi.trans hj.symm)
    omega
  · have e : b = sysModules := by simpa [topW] using hb
    subst e
    obtain ⟨φ, h, _⟩ := t.sysx
    exact ⟨by rw [h]; exact fun z => (nomatch z), nsys⟩
  · cases n with
    | zero =>
      have e : c = .sys := by simpa [topS0] using hc.symm
      subst e
      exact ⟨rfl, List.mem_cons_self, nsys, t.sysx, t.look⟩
    | succ m =>
      have hc' : (cs.map fun p => Cell.tab p.2.2)[m]? = some c := hc
      rw [List.getElem?_map] at hc'
      cases e : cs[m]? with
      | none => rw [e] at hc'; cases hc'
      | some p =>
        rw [e] at hc'
        have e2 : Cell.tab p.2.2 = c := by simpa using hc'
        subst e2
        have hp := List.mem_of_getElem? e
        refine ⟨_, _, t.tin p hp, ?_, #[], t.tbl p hp, trivial, fun pos cv h => ?_⟩
        · show ((tbP cs).map some)[m]? = _
          rw [List.getElem?_map, tbP, List.getElem?_map, e]; rfl
        · have h' : codeAmong pos [] = some cv := h
          simp [codeAmong] at h'
theorem top_script (t : TopH K cs H a ns) : Rp K mg (topW cs) H (.fls (ns.map .int)) (.ref a) := by
  unfold Rp
  refine ⟨a, _, rfl, ?_, RpL.ints ns⟩
  rcases t.scr with (h | ⟨o, h⟩) | h
  · obtain ⟨u, e⟩ := t.frz _ h; cases e
  · refine .inl ⟨o, h, fun z => ?_, fun z => ?_⟩
    · rcases List.mem_cons.mp (show some a ∈ none :: (tbP cs).map some from z) with z | z
      · cases z
      · obtain ⟨b, hb, e⟩ := List.mem_map.mp z
        cases e
        obtain ⟨p, hp, rfl⟩ := List.mem_map.mp hb
        have := t.tbl p hp
        rw [h] at this; cases this
    · have e : a = sysModules := by simpa [topW] using z
      obtain ⟨φ, q, _⟩ := t.sysx
      rw [e, q] at h; cases h
  · exact .inr h
/-- the law's promise, from a heap of that kind; the modules' table stays -/
def spTop (K : PySem.W.Frag) (cs : List Tb) : Sp := fun vs H Q _ => ∃ (a : Addr) (ns : List Int), vs = [.ref a] ∧ ns.length ≤ 63 ∧ (∀ z ∈ ns, Builtin.Int.intBits z ≤ 1048576) ∧ TopH K cs H a ns ∧ ∀ H', (∀ φ, H sysModules = some (.ext φ) → H' sysModules = some (.ext φ)) → Q (.bl true) H'
theorem top_imp [Wo] {F : FF} (hF : ∀ ns : List Int, ns.length ≤ 63 → (∀ z ∈ ns, Builtin.Int.intBits z ≤ 1048576) → ∃ S', F [.fls (ns.map .int)] (topS0 cs) = .ok (.bl true) S') : ∀ vs H Q E, spTop K cs vs H Q E → spF K mg 1 F vs H Q E := by
  rintro vs H Q E ⟨a, ns, rfl, hl, hb, t, q⟩
  obtain ⟨S', e⟩ := hF ns hl hb
  have st := top_sto (mg := mg) t
  refine ⟨topW cs, topS0 cs, [.fls (ns.map .int)], st, RpL.one (top_script t), rfl, ?_⟩
  rw [e]
  intro w' H' v ex s r
  rw [rp_bl r]
  exact q H' fun φ h => ex.fr _ _ h (st.ap sysModules List.mem_cons_self).2
def topH (K : PySem.W.Frag) (ps : List Addr) (om : Obj) (a : Addr) (vs : List Value) (ns : List Int) : Hp := fun b =>
  if b = sysModules then some (.ext fun h => h.get? sysModules = some om) else if b ∈ ps then some (.tbl #[]) else if b = a ∧ (K.lookup a).isNone = true then some (.frz (scrO vs) (.lst (ns.map V.int))) else none
theorem head_t {P : Program} {w : World} {mb : Str → Option Value} {k : Nat} {fa : Addr} {fd : FuncData} {x : Str} {s : Shared} {vs : List Value} (KX : K.In s.heap) (gm : s.heap.Ns mainGlobals mg) (gb : s.heap.Ns builtinsNs mb)
    (boot : ∀ y : Str, y ≠ "__name__" → mb y = bootBuiltins y) (lim : s.heap.NoLimit) (sy : ∃ mm, s.heap.Ns sysModules mm) (bmn : ∃ bm ob, mg "__builtins__" = some (.ref bm) ∧ bm ≠ builtinsNs ∧ s.heap.get? bm = some ob ∧ ob.cls = .type "module" ∧ ob.dict = some builtinsNs ∧ ob.data = .plain) (ng : s.gens = #[])
    (ha : s.heap.get? a = some (scrO vs)) (hi : IntsAre vs ns) (hl : ns.length ≤ 63) (hz : ∀ z ∈ ns, Builtin.Int.intBits z ≤ 1048576) (hr : RoomG k callerA)
    (kS : K.lookup sysModules = none) (hT : ∀ p ∈ cs, s.heap.get? p.2.1 = some { cls := .none, data := .fields #[] }) (kT : ∀ p ∈ cs, K.lookup p.2.1 = none) (hC : ∀ p ∈ cs, PySem.W.CodeHd s.heap p.1 p.2.1) (nd : (tbP cs).Nodup) (hI : ∀ p ∈ cs, PySem.W.tabIn K p.2.2 = some (p.1, p.2.1))
    (F : ∀ base : Heap, K.In base → base.Ns mainGlobals mg → (∀ p ∈ cs, LamX.TabB base mg p.1 p.2.1) → FnG P w K mg base k fa fd [x] (spTop K cs)) (hbd : ∀ (s : Shared) (u : Value), BindsTo s fd ⟨[u], []⟩ [(x, u)]) (no : ∀ H e s', L2.CX P w [] H s (fun _ _ _ => False) e s' → False) :
    codeAny (model P w) callerA (.call (.ref fa) ⟨[.ref a], []⟩) (fun r s' => r = .ok (.ret (.bool true)) ∧ OldK s.heap s'.heap ∧ s'.os = s.os ∧ AllBare s'.gens) s := by
  obtain ⟨mm, om, es, ep, hom, hod, _⟩ := sy
  have rv := vals_ints hi
  have hsz : ns.length ≤ sizeLine := Nat.le_trans hl (by rw [sizeLine_eq]; decide)
  have hsz' : (ns.map V.int).length ≤ sizeLine := by rw [List.length_map]; exact hsz
  have aS : a ≠ sysModules := fun e => by
    rw [e, hom] at ha
    have := congrArg Obj.data (Option.some.inj ha)
    rw [hod] at this; cases this
  have tS : ∀ p ∈ cs, p.2.1 ≠ sysModules := fun p hp e => by
    have := hT p hp
    rw [e, hom] at this
    have := congrArg Obj.data (Option.some.inj this)
    rw [hod] at this; cases this
  have tA : a ∉ tbP cs := fun z => by
    obtain ⟨p, hp, e⟩ := List.mem_map.mp z
    have := hT p hp
    rw [e, ha] at this
    have := congrArg Obj.data (Option.some.inj this)
    cases this
  have sT : sysModules ∉ tbP cs := fun z => by
    obtain ⟨p, hp, e⟩ := List.mem_map.mp z
    exact tS p hp e
  generalize hH : topH K (tbP cs) om a vs ns = H
  have Hs : H sysModules = some (.ext fun h => h.get? sysModules = some om) := by rw [← hH]; exact if_pos rfl
  have Ht : ∀ b, b ∈ tbP cs → H b = some (.tbl #[]) := fun b hb => by
    rw [← hH]; unfold topH
    have n1 : ¬ b = sysModules := fun z => sT (by rw [← z]; exact hb)
    rw [if_neg n1, if_pos hb]
  have Ho : ∀ b, b ≠ sysModules → b ∉ tbP cs → H b = if b = a ∧ (K.lookup a).isNone = true then some (.frz (scrO vs) (.lst (ns.map V.int))) else none := fun b h1 h2 => by
    rw [← hH]; unfold topH
    rw [if_neg h1, if_neg h2]
  have Hc : ∀ b u, H b = some u → (b = sysModules ∧ u = .ext fun h => h.get? sysModules = some om) ∨ (b ∈ tbP cs ∧ u = .tbl #[]) ∨ (b = a ∧ K.lookup a = none ∧ u = .frz (scrO vs) (.lst (ns.map V.int))) := fun b u e => by
    by_cases h1 : b = sysModules
    · subst h1; rw [Hs] at e; cases e; exact .inl ⟨rfl, rfl⟩
    · by_cases h2 : b ∈ tbP cs
      · rw [Ht b h2] at e; cases e; exact .inr (.inl ⟨h2, rfl⟩)
      · rw [Ho b h1 h2] at e
        split at e
        · rename_i q; cases e; exact .inr (.inr ⟨q.1, by simpa using q.2, rfl⟩)
        · cases e
  have top : TopH K cs H a ns := by
    refine ⟨⟨_, Hs, fun h z => ⟨om, es, ep, z, hod⟩⟩, kS, fun p hp => Ht _ (List.mem_map.mpr ⟨p, hp, rfl⟩), hI, nd, ?_, fun o e => ?_⟩
    · cases hk : K.lookup a with
      | some o =>
        have e := (KX a o hk).symm.trans ha
        cases e
        exact .inr ⟨_, vs.toArray, _, hk, rfl, rfl, rfl, by rw [List.size_toArray, hi.length]; exact hsz, by simpa using rv⟩
      | none => exact .inl (.inr ⟨scrO vs, by rw [Ho a aS tA, if_pos ⟨rfl, by rw [hk]; rfl⟩]⟩)
    · rcases Hc _ _ e with ⟨z, _⟩ | ⟨z, _⟩ | ⟨_, _, z⟩
      · exact absurd z aS
      · exact absurd z tA
      · exact ⟨_, z⟩
  have hok : HOk P w H s.heap := fun b u e => by
    rcases Hc _ _ e with ⟨rfl, rfl⟩ | ⟨z, rfl⟩ | ⟨rfl, _, rfl⟩
    · exact ⟨hom, ⟨om, hom⟩, fun h1 h2 q st => st _ q⟩
    · obtain ⟨p, hp, rfl⟩ := List.mem_map.mp z
      exact hT p hp
    · exact ⟨ha, hsz', vs, _, rv, ha⟩
  have un : ∀ {b : Addr} {o : Obj}, s.heap.get? b = some o → b ≠ sysModules → o.data ≠ .fields #[] → (o ≠ scrO vs ∨ K.lookup b ≠ none) → H b = none := fun {b o} g n1 n2 n3 => by
    cases e : H b with
    | none => rfl
    | some u =>
      rcases Hc _ _ e with ⟨z, _⟩ | ⟨z, _⟩ | ⟨rfl, k0, _⟩
      · exact absurd z n1
      · obtain ⟨p, hp, rfl⟩ := List.mem_map.mp z
        rw [hT p hp] at g; cases g
        exact absurd rfl n2
      · rcases n3 with n | n
        · exact absurd (Option.some.inj (g.symm.trans ha)) n
        · exact absurd k0 n
  have nsT : ∀ {b : Addr} {m : Str → Option Value}, b ≠ sysModules → s.heap.Ns b m → (hidT s.heap H).Ns b m := fun {b m} n ⟨o, es, ep, g, d, r⟩ =>
    ⟨o, es, ep, hidT_get g (un g n (fun z => by rw [z] at d; cases d) (.inl fun z => by rw [z] at d; exact nomatch d)), d, r⟩
  have kH : K.In (hidT s.heap H) := fun b o g => by
    refine hidT_get (KX b o g) ?_
    cases e : H b with
    | none => rfl
    | some u =>
      rcases Hc _ _ e with ⟨rfl, _⟩ | ⟨z, _⟩ | ⟨rfl, k0, _⟩
      · rw [kS] at g; cases g
      · obtain ⟨p, hp, rfl⟩ := List.mem_map.mp z
        rw [kT p hp] at g; cases g
      · rw [k0] at g; cases g
  obtain ⟨mc, lim1, lim2⟩ := lim
  have dS : mainGlobals ≠ sysModules := by decide
  have dB : builtinsNs ≠ sysModules := by decide
  have dC : cStatics ≠ sysModules := by decide
  have md : L2.Mod K mg (hidT s.heap H) := ⟨kH, nsT dS gm, ⟨mb, nsT dB gb, boot⟩, ⟨mc, nsT dC lim1, lim2⟩⟩
  have tb : ∀ p ∈ cs, LamX.TabB (hidT s.heap H) mg p.1 p.2.1 := fun p hp => by
    have tp := hT p hp
    refine ⟨?_, ?_, fun z => ?_⟩
    · obtain ⟨oc, us, f1, f2, f3, f4, f5, f6, f7, g1, g2, g3, g4, rest⟩ := hC p hp
      refine ⟨oc, us, f1, f2, f3, f4, f5, f6, f7, hidT_get g1 (un g1 (fun z => ?_) (fun z => ?_) (.inl fun z => ?_)), g2, g3, g4, rest⟩
      · rw [z, hom] at g1; cases g1
        rw [hod] at g3; cases g3
      · rw [z] at g3; cases g3; simp at g4
      · rw [z] at g3; cases g3
    · obtain ⟨bm, ob, b1, b2, b3, b4, b5, b6⟩ := bmn
      refine ⟨bm, ob, b1, b2, fun z => ?_, fun z => ?_, hidT_get b3 (un b3 (fun z => ?_) (fun z => ?_) (.inl fun z => ?_)), b4, b5, b6⟩
      · obtain ⟨og, _, _, g1, g2, _⟩ := gm
        rw [z, g1] at b3; cases b3
        rw [g2] at b6; cases b6
      · rw [z, tp] at b3; cases b3; cases b6
      · rw [z, hom] at b3; cases b3
        rw [hod] at b6; cases b6
      · rw [z] at b6; cases b6
      · rw [z] at b6; cases b6
    · obtain ⟨og, _, _, g1, g2, _⟩ := gm
      rw [z, tp] at g1; cases g1; cases g2
  have e0 : Env0 P w K mg (hidT s.heap H) callerA [] s H := { frames := rfl, mod := md, bs := fun b o g => of_hidT g, bsz := Nat.le_of_eq (hidT_size _ _), funs := trivial, frf := fun b hb => (nomatch hb), hok := hok, bare := .of_eq ng }
  refine codeAny_mono ((F _ kH (nsT dS gm) tb).runs callerA [] s H ⟨[.ref a], []⟩ [.ref a] [.ref a] (fun v H' => v = .bl true ∧ ∀ φ, H sysModules = some (.ext φ) → H' sysModules = some (.ext φ)) (fun _ _ _ => False) hr e0 (hbd s (.ref a)) (.cons rfl .nil) ⟨a, ns, rfl, hl, hz, top, fun H' q => ⟨rfl, q⟩⟩) fun r s' h => ?_
  match r, h with
  | .error e, h => exact (no H e s' h).elim
  | .ok .next, h => exact h.elim
  | .ok .brk, h => exact h.elim
  | .ok .cont, h => exact h.elim
  | .ok (.ret u), ⟨v, H', os, bare, ch, hok', rv', q1, q2⟩ =>
    subst q1
    obtain rfl : u = Value.bool true := rv'
    have kept : ∀ b o, b ∉ tbP cs → s.heap.get? b = some o → s'.heap.get? b = some o := fun b o nb g => by
      cases e : H b with
      | none => exact ch.keep b o g e (fun y => nomatch y) (fun y => nomatch y)
      | some z =>
        rcases Hc _ _ e with ⟨rfl, rfl⟩ | ⟨y, _⟩ | ⟨rfl, _, rfl⟩
        · obtain ⟨y, _⟩ := hok' _ _ (q2 _ e)
          rw [hom] at g; cases g; exact y
        · exact absurd y nb
        · rw [ha] at g; cases g
          exact (hok' _ _ (ch.frzs _ _ _ e)).1
    have grew : ∀ b ∈ tbP cs, ∃ more : Array Value, s'.heap.get? b = some { cls := .none, data := .fields more } := fun b hb => by
      obtain ⟨more, z⟩ := ch.tbls b #[] (Ht b hb)
      exact ⟨_, hok' b _ z⟩
    refine ⟨rfl, ⟨fun b o g => ?_, fun b o g => ?_⟩, os, bare⟩
    · by_cases hb : b ∈ tbP cs
      · obtain ⟨more, hm⟩ := grew b hb
        obtain ⟨p, hp, rfl⟩ := List.mem_map.mp hb
        have tp := hT p hp
        rw [tp] at g; cases g
        exact .inr (.inl ⟨((hC p hp).tab tp).isCodeTable, rfl, #[], more, rfl, by rw [Array.empty_append]; exact hm⟩)
      · exact .inl (kept b o hb g)
    · by_cases hb : b ∈ tbP cs
      · obtain ⟨more, hm⟩ := grew b hb
        exact ⟨_, hm⟩
      · exact ⟨o, kept b o hb g⟩
/-- what is known of the law at the top's heap -/
structure TopOk (K : PySem.W.Frag) (mg : Str → Option Value) (cs : List Tb) (h : Heap) : Prop where
  sysk : K.lookup sysModules = none
  at_ : ∀ p ∈ cs, h.get? p.2.1 = some { cls := .none, data := .fields #[] }
  look : ∀ p ∈ cs, K.lookup p.2.1 = none
  code : ∀ p ∈ cs, PySem.W.CodeHd h p.1 p.2.1
  nodup : (tbP cs).Nodup
  tin : ∀ p ∈ cs, PySem.W.tabIn K p.2.2 = some (p.1, p.2.1)
theorem TopOk.none {h : Heap} (hk : K.lookup sysModules = none) : TopOk K mg [] h := ⟨hk, fun _ z => (nomatch z), fun _ z => (nomatch z), fun _ z => (nomatch z), List.nodup_nil, fun _ z => (nomatch z)⟩
end
theorem walk_t {l : PySem.W.OpenLaw} {k : Nat} {q : Program} {loose : List Str} {XP : (Str → Option Value) → Heap → Prop} {YP : World → Heap → Prop} {d : DefRec} {K : Params → PySem.W.Frag} {x : Str} (hn : l.most = some 63) (hdf : d.params.defaults = []) (hr : RoomG k callerA) (hnone : importsNone q = true)
    (hY : ∀ (w : World) (h : Heap), YP w h → (K w.params).In h)
    (F : ∀ (w : World) (mg mb : Str → Option Value) (mean : ExcName → Option Value) (fa : Addr) (h : Heap), Top q (PySem.W.looseW q loose) mean mg mb h → (K w.params).In h → h.Ns mainGlobals mg → mg d.name = some (.ref fa) →
      ∃ (cs : List Tb) (fd : FuncData), TopOk (K w.params) mg cs h ∧ (∀ (s : Shared) (u : Value), BindsTo s fd ⟨[u], []⟩ [(x, u)]) ∧ ∀ base : Heap, (K w.params).In base → base.Ns mainGlobals mg → (∀ p ∈ cs, LamX.TabB base mg p.1 p.2.1) → FnG l.prog w (K w.params) mg base k fa fd [x] (spTop (K w.params) cs))
    (no : ∀ (w : World) (H : Hp) (s : Shared) (e : Value) (s' : Shared), L2.CX l.prog w [] H s (fun _ _ _ => False) e s' → False) : PySem.W.WalkO q loose XP YP l.row.toRowW d [] (fun f vs => PySem.call f vs) := by
  refine Att.attach_callB hn hdf fun w s0 s1 mg mb fa o pm cd doc a vs ns G Y ho hd hcd hmg hobj hints hlen hbits hg => ?_
  obtain ⟨cs, fd, tk, hbd, hF⟩ := F w mg mb _ fa _ G.T (hY w _ Y) G.T.g hmg
  obtain ⟨mm, hm, _⟩ := (G.T.seer hnone).mods
  exact head_t (hY w _ Y) G.T.g G.T.b G.T.builtins G.T.nolimit ⟨mm, hm⟩ G.T.bmain hg hobj hints hlen hbits hr tk.sysk tk.at_ tk.look tk.code tk.nodup tk.tin hF hbd (fun H e s' => no w H s1 e s')
/-- the law's def as the end wants it -/
theorem law_mkT [Wo] {P : Program} {w : World} {K : PySem.W.Frag} {mg : Str → Option Value} {h : Heap} {k : Nat} {fa f : Addr} {x nm : Str} {st : Stmt} {N : List Str} {b : FS} {cs : List Tb} {oc : Value} {od an : Option Addr} {osl : Array (Option Value)} {kV doc pm cdv ct : Value} (X : K.In h) (G : h.Ns mainGlobals mg) (hfa : mg nm = some (.ref fa))
    (tk : TopOk K mg cs h) (a : PySem.W.nsIn K mainGlobals nm = some (some (.ref f))) (l : K.lookup f = some ⟨oc, od, .func (PySem.W.fnOf nm nm (defArgs st) (defBody st) (defScope st) .none kV doc pm an cdv ct), osl⟩) (c : PySem.W.codeIn K cdv nm = true) (kk : PySem.W.keepIn K (.ref f) = true)
    (hb : ∀ (kV doc pm : Value) (an : Option Addr) (cdv ct : Value) (us : List Value), us.length = 1 → bindArgs (PySem.W.fnOf nm nm (defArgs st) (defBody st) (defScope st) .none kV doc pm an cdv ct) ⟨us, []⟩ = pure ([x].zip us)) (S : FnScope N [x] (defScope st))
    (body : ∀ base : Heap, K.In base → base.Ns mainGlobals mg → (∀ p ∈ cs, LamX.TabB base mg p.1 p.2.1) → ∀ (f : Addr) (cdv : Value) (A : Around) (outer : List Env) (s : Shared) (H : Hp) (E : XK), RoomG k (A.deeper (envOfC nm (defScope st) s.heap.objs.size f cdv)) →
      PSs (cxOf (L2.CX P w) P w K mg base N nm (defScope st) f cdv A outer s H E) (defBody st) (tS (cxOf (L2.CX P w) P w K mg base N nm (defScope st) f cdv A outer s H E) (fun c d _ H => E c d H) b))
    (hF : ∀ ns : List Int, ns.length ≤ 63 → (∀ z ∈ ns, Builtin.Int.intBits z ≤ 1048576) → ∃ S', fnB 1 N.length b [.fls (ns.map .int)] (topS0 cs) = .ok (.bl true) S') :
    ∃ (cs : List Tb) (fd : FuncData), TopOk K mg cs h ∧ (∀ (s : Shared) (u : Value), BindsTo s fd ⟨[u], []⟩ [(x, u)]) ∧ ∀ base : Heap, K.In base → base.Ns mainGlobals mg → (∀ p ∈ cs, LamX.TabB base mg p.1 p.2.1) → FnG P w K mg base (k + 1) fa fd [x] (spTop K cs) := by
  have e := hfa.symm.trans (PySem.W.mg_of X G a)
  cases e
  have F := fun_mk (st := st) l c kk
  refine ⟨cs, _, tk, fun s u => .of_eq (hb kV doc pm an cdv ct [u] rfl), fun base Kb Gb Tb => ?_⟩
  exact (fn_ok F S (body base Kb Gb Tb fa)).weak (top_imp hF)
end Kw
namespace Kw
open PySem PySem.Spec PySem.Calls PyProof.Rows L2
end Kw
namespace Kw
open PySem PySem.Spec PySem.Calls PyProof.Rows L2
/-- a, b = a list -/
def gUl (n : Nat) (gs : FGs) : FG := fun d ρ S => match d with
  | .lst ds => if ds.length = n then gs ds ρ S else none
  | _ => none
@[simp] theorem gUl_ap {n : Nat} {gs : FGs} {ds : List D} {ρ : FEnv} {S : Store} : gUl n gs (.lst ds) ρ S = if ds.length = n then gs ds ρ S else none := rfl
end Kw
namespace Kw
open PySem PySem.Spec PySem.Calls PyProof.Rows L2
section
variable {P : Program} {w : World} {K : PySem.W.Frag} {mg : Str → Option Value} {base : Heap}
theorem cal_no [Wo] {x : Str} {st : Stmt} {ps : List Str} {k : Nat} (T : TF K mg x st ps) (hps : ps = (defArgs st).args.map (·.arg) := by rfl) : Cal P w K mg base k x (fun _ _ => .no) := by
  obtain ⟨f, fd, F, m, b⟩ := T
  exact ⟨f, fd, ps, ⟨fun vs H Q E ⟨w, S, ds, s, r, l, h⟩ => by rw [← r.length]; exact l, fun A outer s H args us vs Q E _ _ _ _ ⟨w, S, ds, st, r, l, h⟩ => h.elim⟩, m, F.kp, b, fun _ _ _ => rfl, hps.trans (fun_names F).symm, fun_look F⟩
end
end Kw
namespace Kw
open PySem PySem.Spec PySem.Calls PyProof.Rows L2
/-- the fields of an object of the class c may be read and stored -/
def FldC (K : PySem.W.Frag) (mg : Str → Option Value) (c f : Str) : Prop := ∃ C, mg c = some (.ref C) ∧ Cls K C ∧ NoAttr K C f
def obOf (S : Store) : D → Option (Str × List Str × List D)
  | .ins c fs ds => some (c, fs, ds)
  | .loc n => (match S[n]? with
    | some (.ob c fs ds) => some (c, fs, ds)
    | _ => none)
  | _ => none
def lookF (f : Str) : List Str → List D → Option D
  | g :: fs, d :: ds => if f = g then some d else lookF f fs ds
  | _, _ => none
def gFld (cs : List Str) (f : Str) (x : D) (S : Store) : RE D := match obOf S x with
  | some (c, fs, ds) => if c ∈ cs then (match lookF f fs ds with
    | some d => .ok d S
    | none => .no) else .no
  | none => .no
section
variable {K : PySem.W.Frag} {mg : Str → Option Value} {w : Wd} {H : Hp} {S : Store}
theorem obOf_at [Wo] (s : Sto K mg w S H) {d : D} {v : V} {c : Str} {fs : List Str} {ds : List D} (r : Rp K mg w H d v) (h : obOf S d = some (c, fs, ds)) : ∃ a C dx vs, v = .ref a ∧ mg c = some (.ref C) ∧ H a = some (.ins C dx (fs.zip vs)) ∧ fs.length = vs.length ∧ RpL K mg w H ds vs := by
  cases d <;> simp only [obOf] at h <;> try (cases h; done)
  · cases h
    unfold Rp at r
    obtain ⟨a, C, dx, vs, e, m, t, _, l, q⟩ := r
    exact ⟨a, C, dx, vs, e, m, t, l, q⟩
  · rename_i n
    split at h
    · rename_i c' fs' ds' hz
      cases h
      obtain ⟨a, C, dx, vs, h1, h2, h3, h4, h5⟩ := s.cell n _ hz
      unfold Rp at r
      exact ⟨a, C, dx, vs, r.2 a h1, h2, h3, h4, h5⟩
    · cases h
theorem lookF_at {f : Str} : ∀ {fs : List Str} {ds : List D} {vs : List V} {d : D}, fs.length = vs.length → RpL K mg w H ds vs → lookF f fs ds = some d → ∃ v, (fs.zip vs).lookup f = some v ∧ Rp K mg w H d v
  | [], _, _, _, _, _, h => by simp [lookF] at h
  | g :: fs, [], _, _, _, _, h => by simp [lookF] at h
  | g :: fs, d :: ds, vs, e, l, r, h => by
    unfold RpL at r
    obtain ⟨v, us, e1, r1, r2⟩ := r
    subst e1
    simp only [lookF] at h
    rw [List.zip_cons_cons]
    by_cases hf : f = g
    · rw [if_pos hf] at h
      cases h
      have hb : (f == g) = true := beq_iff_eq.mpr hf
      exact ⟨v, by simp only [List.lookup, hb], r1⟩
    · rw [if_neg hf] at h
      have hb : (f == g) = false := beq_eq_false_iff_ne.mpr hf
      obtain ⟨u, h1, h2⟩ := lookF_at (by simpa using l) r2 h
      exact ⟨u, by simp only [List.lookup, hb]; exact h1, h2⟩
theorem lookup_none {f : Str} : ∀ {fs : List Str} {vs : List V}, f ∉ fs → (fs.zip vs).lookup f = none
  | [], _, _ => rfl
  | g :: fs, [], _ => rfl
  | g :: fs, v :: vs, h => by
    rw [List.zip_cons_cons]
    have hf : f ≠ g := fun z => h (by rw [z]; exact List.mem_cons_self)
    have hb : (f == g) = false := beq_eq_false_iff_ne.mpr hf
    simp only [List.lookup, hb]
    exact lookup_none fun z => h (List.mem_cons_of_mem _ z)
theorem putF_new {f : Str} {y : V} : ∀ {fs : List Str} {vs : List V}, fs.length = vs.length → f ∉ fs → putF f y (fs.zip vs) = (fs ++ [f]).zip (vs ++ [y])
  | [], [], _, _ => rfl
  | g :: fs, v :: vs, l, h => by
    have hf : ¬ g = f := fun z => h (by rw [z]; exact List.mem_cons_self)
    rw [List.zip_cons_cons, List.cons_append, List.cons_append, List.zip_cons_cons, putF, if_neg hf, putF_new (by simpa using l) fun z => h (List.mem_cons_of_mem _ z)]
/-- an object under way is written -/
theorem Sto.obSet [Wo] {n : Nat} {l C dx : Addr} {c : Str} {fs : List Str} {ds : List D} {vs : List V} {o : HO} (s : Sto K mg w S H) (hw : w.φ[n]? = some (some l)) (hn : n < S.length) (hm : mg c = some (.ref C)) (ho : o = .ins C dx (fs.zip vs)) (hl : fs.length = vs.length) (r : RpL K mg w H ds vs) : Sto K mg w (S.set n (.ob c fs ds)) (upd H l o) := by
  have ex : Ext w H w (upd H l o) := Ext.write hw
  refine ⟨by rw [List.length_set]; exact s.len, s.nd, fun a ha => ⟨upd_some (s.ap a ha).1, (s.ap a ha).2⟩, fun m c' hc => ?_⟩
  by_cases e : m = n
  · subst e
    rw [List.getElem?_set_self hn] at hc
    cases hc
    exact ⟨l, C, dx, vs, hw, hm, by rw [upd_same, ho], hl, RpL.ext ex _ _ r⟩
  · rw [List.getElem?_set_ne (Ne.symm e)] at hc
    refine CellR.ext ex (fun a ha => ⟨ha, ?_⟩) id (s.cell m c' hc)
    exact upd_ne fun z => e (s.nd m n a ha (z ▸ hw))
/-- a new object -/
theorem Sto.obNew [Wo] {p C dx : Addr} {c : Str} (s : Sto K mg w S H) (np : H p = none) (hm : mg c = some (.ref C)) : Sto K mg ⟨w.φ ++ [some p], w.hd⟩ (S ++ [.ob c [] []]) (upd H p (.ins C dx [])) := by
  have ex : Ext w H ⟨w.φ ++ [some p], w.hd⟩ (upd H p (.ins C dx [])) := Ext.cell np
  refine ⟨by show (w.φ ++ [some p]).length = _; rw [List.length_append, List.length_append, s.len]; rfl, fun m n a h1 h2 => ?_, fun a ha => ⟨upd_some (s.ap a ha).1, fun z => ?_⟩, fun n c hc => ?_⟩
  · have key : ∀ k, (w.φ ++ [some p])[k]? = some (some a) → (w.φ[k]? = some (some a) ∧ k < w.φ.length) ∨ (k = w.φ.length ∧ a = p) := fun k hk => by
      by_cases hl : k < w.φ.length
      · rw [List.getElem?_append_left hl] at hk; exact .inl ⟨hk, hl⟩
      · have hl' : w.φ.length ≤ k := Nat.le_of_not_lt hl
        rw [List.getElem?_append_right hl'] at hk
        have : k - w.φ.length = 0 := by
          cases e : k - w.φ.length with
          | zero => rfl
          | succ j => rw [e] at hk; simp at hk
        rw [this] at hk; simp at hk
        exact .inr ⟨by omega, hk.symm⟩
    rcases key m h1 with ⟨a1, b1⟩ | ⟨a1, b1⟩ <;> rcases key n h2 with ⟨a2, b2⟩ | ⟨a2, b2⟩
    · exact s.nd m n a a1 a2
    · subst b2; exact absurd (List.mem_of_getElem? a1) (s.new np).1
    · subst b1; exact absurd (List.mem_of_getElem? a2) (s.new np).1
    · omega
  · rcases List.mem_append.mp (show some a ∈ w.φ ++ [some p] from z) with h | h
    · exact (s.ap a ha).2 h
    · simp at h; subst h; exact (s.ap a ha).1 np
  · by_cases hl : n < S.length
    · rw [List.getElem?_append_left hl] at hc
      refine CellR.ext ex (fun a ha => ⟨by show (w.φ ++ [some p])[n]? = _; rw [List.getElem?_append_left (s.len ▸ hl)]; exact ha, ?_⟩) (fun hd => by show (w.φ ++ [some p])[n]? = _; rw [List.getElem?_append_left (s.len ▸ hl)]; exact hd) (s.cell n c hc)
      have : a ≠ p := fun z => by subst z; exact (s.new np).1 (List.mem_of_getElem? ha)
      rw [upd_ne this]
    · have hl' : S.length ≤ n := Nat.le_of_not_lt hl
      rw [List.getElem?_append_right hl'] at hc
      have e0 : n - S.length = 0 := by
        cases e : n - S.length with
        | zero => rfl
        | succ j => rw [e] at hc; simp at hc
      rw [e0] at hc; simp at hc; subst hc
      have en : n = w.φ.length := by rw [s.len]; omega
      subst en
      exact ⟨p, C, dx, [], by show (w.φ ++ [some p])[w.φ.length]? = _; rw [List.getElem?_append_right (Nat.le_refl _), Nat.sub_self]; rfl, hm, upd_same, rfl, RpL.nil⟩
/-- an object that is done is a value -/
theorem oz_at [Wo] {n : Nat} {a : Addr} {c : Str} {fs : List Str} {ds : List D} {Q : VK} {E : Value → Option Addr → Hp → Prop} (s : Sto K mg w S H) (hz : S[n]? = some (.ob c fs ds)) (ha : w.φ[n]? = some (some a)) (h : End K mg (fun w H => Rp K mg w H) w H (.ok (.ins c fs ds) (S.set n .dead)) Q E) : Q (.ref a) H := by
  obtain ⟨a', C, dx, vs, h1, hm, h2, hl, h3⟩ := s.cell n _ hz
  rw [ha] at h1; cases h1
  have hn : n < w.φ.length := by
    rcases Nat.lt_or_ge n w.φ.length with z | z
    · exact z
    · rw [List.getElem?_eq_none z] at ha; cases ha
  have gs : (w.φ.set n none)[n]? = some none := by rw [List.getElem?_set_self hn]
  have gn : ∀ m : Nat, m ≠ n → (w.φ.set n none)[m]? = w.φ[m]? := fun m hm => List.getElem?_set_ne (Ne.symm hm)
  have sub : ∀ (m : Nat) b, (w.φ.set n none)[m]? = some (some b) → w.φ[m]? = some (some b) ∧ m ≠ n := fun m b q => by
    by_cases e : m = n
    · subst e; rw [gs] at q; cases q
    · rw [gn m e] at q; exact ⟨q, e⟩
  have mem : ∀ b, some b ∈ w.φ.set n none → some b ∈ w.φ := fun b q => by
    obtain ⟨m, hm⟩ := List.mem_iff_getElem?.mp q
    exact List.mem_of_getElem? (sub m b hm).1
  have out : some a ∉ w.φ.set n none := fun q => by
    obtain ⟨m, hm⟩ := List.mem_iff_getElem?.mp q
    obtain ⟨q1, q2⟩ := sub m a hm
    exact q2 (s.nd m n a q1 ha)
  have ex : Ext w H ⟨w.φ.set n none, w.hd⟩ H := ⟨fun _ _ h _ => h, by show _ ≤ (w.φ.set n none).length; rw [List.length_set]; exact Nat.le_refl _, fun m b q _ => (sub m b q).1, fun b q => .inl (mem b q), rfl⟩
  have s' : Sto K mg ⟨w.φ.set n none, w.hd⟩ (S.set n .dead) H := by
    refine ⟨by show (w.φ.set n none).length = _; rw [List.length_set, List.length_set]; exact s.len, fun m k b q1 q2 => s.nd m k b (sub m b q1).1 (sub k b q2).1, fun b hb => ⟨(s.ap b hb).1, fun z => (s.ap b hb).2 (mem b z)⟩, fun m c hc => ?_⟩
    by_cases e : m = n
    · subst e
      rw [List.getElem?_set_self (s.len ▸ hn)] at hc
      cases hc
      exact gs
    · rw [List.getElem?_set_ne (Ne.symm e)] at hc
      exact CellR.ext ex (fun b hb => ⟨by show (w.φ.set n none)[m]? = _; rw [gn m e]; exact hb, rfl⟩) (fun hb => by show (w.φ.set n none)[m]? = _; rw [gn m e]; exact hb) (s.cell m c hc)
  refine h ⟨w.φ.set n none, w.hd⟩ H (.ref a) ex s' ?_
  show Rp _ _ _ _ _ _
  unfold Rp
  exact ⟨a, C, dx, vs, rfl, hm, h2, ⟨out, fun z => (s.ap a z).2 (List.mem_of_getElem? ha)⟩, hl, RpL.ext ex _ _ h3⟩
end
/-- self.f = e -/
def sFl (cs : List Str) (f : Str) (fo fv : FE) : FS := fun ρ S => (fv ρ S).toS ρ fun y S1 => (fo ρ S1).toS ρ fun x S2 => match x with
  | .loc n => (match S2[n]? with
    | some (.ob c fs ds) => if c ∈ cs ∧ f ∉ fs ∧ fs.length < 999 then .nx ρ (S2.set n (.ob c (fs ++ [f]) (ds ++ [y]))) else .no
    | _ => .no)
  | _ => .no
/-- the class c's method m computes f -/
def CalM [Wo] (P : Program) (w : World) (K : PySem.W.Frag) (mg : Str → Option Value) (base : Heap) (k : Nat) (c m : Str) (f : FF) : Prop :=
  ∃ C a fd ps, mg c = some (.ref C) ∧ Cls K C ∧ Meth K C m a ∧ FnG P w K mg base k a fd ps (spF K mg ps.length f) ∧ Binds K fd ps [] ∧ ∀ ds S, ds.length ≠ ps.length → f ds S = .no
/-- the class c can be made -/
def MkC (K : PySem.W.Frag) (mg : Str → Option Value) (c : Str) : Prop := ∃ C a, mg c = some (.ref C) ∧ Mk K C a
def DispOk [Wo] (P : Program) (w : World) (K : PySem.W.Frag) (mg : Str → Option Value) (base : Heap) (k : Nat) (m : Str) (L : List (Str × FF)) : Prop := ∀ c F, L.lookup c = some F → CalM P w K mg base k c m F
theorem dm_nil [Wo] {P : Program} {w : World} {K : PySem.W.Frag} {mg : Str → Option Value} {base : Heap} {k : Nat} {m : Str} : DispOk P w K mg base k m [] := fun c F h => by simp at h
theorem dm_cons [Wo] {P : Program} {w : World} {K : PySem.W.Frag} {mg : Str → Option Value} {base : Heap} {k : Nat} {c m : Str} {F : FF} {L : List (Str × FF)} (h : CalM P w K mg base k c m F) (t : DispOk P w K mg base k m L) : DispOk P w K mg base k m ((c, F) :: L) := fun c' F' e => by
  rw [List.lookup_cons] at e
  by_cases q : c' = c
  · subst q
    simp at e
    subst e; exact h
  · have hb : (c' == c) = false := beq_eq_false_iff_ne.mpr q
    rw [hb] at e
    exact t c' F' e
/-- o.m(..) -/
def disR (L : List (Str × FF)) (m : Str) (x : D) : Option FF := match x with
  | .ins c fs _ => if m ∈ fs then none else L.lookup c
  | _ => none
def fMe (L : List (Str × FF)) (m : Str) (fo : FE) (fa : FA) : FE := fun ρ S => (fo ρ S).bnd fun x S1 => match disR L m x with
  | some F => (fa ρ S1).bnd fun as S2 => F (x :: as) S2
  | none => .no
/-- C(..) -/
noncomputable def mkR (c : Str) (F : FF) (ds : List D) (S1 : Store) : RE D := cutR S1 ((F (.loc S1.length :: ds) (S1 ++ [.ob c [] []])).bnd fun r S2 => match r with
  | .non => (match S2[S1.length]? with
    | some (.ob c' fs' ds') => .ok (.ins c' fs' ds') (S2.set S1.length .dead)
    | _ => .no)
  | _ => .no)
noncomputable def fMk (c : Str) (F : FF) (fs : FA) : FE := fun ρ S => (fs ρ S).bnd (mkR c F)
section
variable {X : Cx} {W : WX} {e o value : Expr} {es : List Expr} {f m x : Str} {fe fo fv : FE} {fs : FA} {cs : List Str} {pos pos' p apos : Pos} {k : Nat}
theorem q_fld [Wo] (he : PE X e (tF X W fe)) (hc : ∀ c ∈ cs, FldC X.K X.mg c f) (hb : attributeBase e f X.env (eval e X.env) = eval e X.env := by rfl) : PE X (.Attribute e f pos) (tF X W (f1 (gFld cs f) fe)) :=
  PE.wk (pe_fld he hb) fun σ H Q ⟨w, ρ, S, s, en, h⟩ => by
    refine ⟨w, ρ, S, s, en, (End.bind (R := fun w H => Rp X.K X.mg w H) h).imp ?_ (fun _ _ _ z => z)⟩
    rintro v H1 ⟨w1, S1, d, e1, s1, r1, h1⟩
    unfold gFld at h1
    split at h1
    case h_2 => exact h1.elim
    rename_i c fs' ds' ho
    split at h1
    case isFalse => exact h1.elim
    rename_i hcc
    split at h1
    case h_2 => exact h1.elim
    rename_i d' hl
    obtain ⟨a, C, dx, vs, ev, hm, ha, l, q⟩ := obOf_at s1 r1 ho
    obtain ⟨C', hm', cl, na⟩ := hc c hcc
    rw [hm] at hm'; cases hm'
    obtain ⟨u, hu, ru⟩ := lookF_at l q hl
    exact ⟨a, C, dx, _, u, ev, ha, cl, na, hu, h1.ret s1 ru⟩
theorem q_sfl [Wo] (ho : PE X o (tF X W fo)) (hv : PE X value (tF X W fv)) (hc : ∀ c ∈ cs, FldC X.K X.mg c f) (hs : swapsWith value (some (.Attribute o f pos')) pos.line X.env = pure false := by rfl) : PS X (.Assign [.Attribute o f pos'] value pos) (tS X W (sFl cs f fo fv)) :=
  PS.wk (ps_fld ho hv hs) fun D σ H ⟨w, ρ, S, s, en, h⟩ => by
    refine ⟨w, ρ, S, s, en, (h.of (R := fun w H => Rp X.K X.mg w H) en).imp ?_ (fun _ _ _ z => z)⟩
    rintro y H1 ⟨w1, S1, d1, e1, s1, r1, h1⟩
    refine ⟨w1, ρ, S1, s1, en.ext e1, (h1.of (R := fun w H => Rp X.K X.mg w H) (en.ext e1)).imp ?_ (fun _ _ _ z => z)⟩
    rintro v H2 ⟨w2, S2, d2, e2, s2, r2, h2⟩
    cases d2 <;> try exact h2.elim
    rename_i n
    simp only at h2
    split at h2
    case h_2 => exact h2.elim
    rename_i c fs' ds' hz
    split at h2
    case isFalse => exact h2.elim
    rename_i hk
    obtain ⟨a, C, dx, vs, w1', hm, ha, l, q⟩ := s2.cell n _ hz
    unfold Rp at r2
    have ev := r2.2 a w1'
    obtain ⟨C', hm', cl, na⟩ := hc c hk.1
    rw [hm] at hm'; cases hm'
    have hn : n < S2.length := by
      rcases Nat.lt_or_ge n S2.length with z | z
      · exact z
      · rw [List.getElem?_eq_none z] at hz; cases hz
    have rl : RpL X.K X.mg w2 H2 (ds' ++ [d1]) (vs ++ [y]) := RpL.append q (RpL.one (Rp.ext e2 _ _ r1))
    have st := Sto.obSet (n := n) (l := a) (C := C) (dx := dx) (c := c) (fs := fs' ++ [f]) (ds := ds' ++ [d1]) (vs := vs ++ [y]) (o := .ins C dx (putF f y (fs'.zip vs))) s2 w1' hn hm (by rw [putF_new l hk.2.1]) (by simp [l]) rl
    have lz : (fs'.zip vs).length < 1000 := by rw [List.length_zip]; have := hk.2.2; omega
    exact ⟨a, C, dx, fs'.zip vs, ev, ha, cl, na, lz, h2 w2 _ σ (Ext.write w1') st (((en.ext e1).ext e2).ext (Ext.write w1'))⟩
theorem q_me [Wo] {L : List (Str × FF)} {pl : Sem Bool} (ho : PE X o (tF X W fo)) (hM : DispOk X.prog X.w X.K X.mg X.base k m L) (hr : RoomG k X.A) (tk : Takes X W) (ha : PA X (e :: es) (tA X W fs))
    (hst : starEach (e :: es) X.env = (false, eval e X.env) :: starEach es X.env := by rfl) (hpl : (backTo pos (starEach es X.env)).any (·.1) = false := by rfl)
    (ht : eval (.Call (.Attribute o m apos) (e :: es) [] pos) X.env = (do
      let ov ← eval o X.env
      standAt apos.atName
      let (f, first) ← holding [ov] (getMethod ov m pl)
      callWith pos f first (backTo pos (starEach (e :: es) X.env)) (backToKw pos (keywordEach [] X.env))) := by rfl) :
    PE X (.Call (.Attribute o m apos) (e :: es) [] pos) (tF X W (fMe L m fo fs)) := by
  refine ⟨fun pins s σ H Q I ⟨w, ρ, S, s0, en, h⟩ => ?_⟩
  refine PySem.W.methodCall_KW (pl := pl) (thn (ho.run pins s σ H _ I ⟨w, ρ, S, s0, en, (End.bind (R := fun w H => Rp X.K X.mg w H) h).imp (fun _ _ z => z) (fun _ _ _ z => z)⟩) fun u s1 ⟨v, H1, I1, rv, w1, S1, d, e1, s1', r1, h1⟩ => ?_) ht
  split at h1
  case h_2 => exact h1.elim
  rename_i F hF
  cases d <;> simp only [disR] at hF <;> try (cases hF; done)
  rename_i c fs' ds'
  split at hF
  · cases hF
  rename_i hmf
  obtain ⟨C, a, fd, ps, hm, cl, me, Fn, bd, ar⟩ := hM c F hF
  have r1c := r1
  unfold Rp at r1
  obtain ⟨b, C', dx, vs, ev, hm', hb, off, l, q⟩ := r1
  rw [hm] at hm'; cases hm'
  subst ev
  obtain rfl : u = Value.ref b := rv
  refine getmeth_ok I1 hb cl me (lookup_none hmf) ?_
  refine PySem.W.callWith_K (first := [.ref b]) (h₀ := X.base) I.ok.mod.kin me.kp (thn (ha.run pos pins s1 σ H1 (fun vs H2 => spF X.K X.mg ps.length F (.ref b :: vs) H2 Q (WE W σ)) I1
    ⟨w1, ρ, S1, s1', en.ext e1, (End.bind (R := fun w H => RpL X.K X.mg w H) h1).imp ?_ (fun _ _ _ z => z)⟩) fun us s2 ⟨vs2, H2, I2, r, q2⟩ => ⟨I2.kIn, run_g (us := .ref b :: us) (vs := .ref b :: vs2) Fn hr tk I2 (.cons rfl r) (binds0 (us := .ref b :: us) bd I2.kIn ?_) q2⟩) hst hpl
  · rintro vs2 H2 ⟨w2, S2, ds2, e2, s2, r2, h2⟩
    refine ⟨w2, S2, .ins c fs' ds' :: ds2, s2, RpL.cons (Rp.ext e2 _ _ r1c) r2, ?_, h2⟩
    apply Classical.byContradiction
    intro hn
    rw [ar _ S2 hn] at h2
    exact h2
  · have z : (V.ref b :: vs2).length = (Value.ref b :: us).length := by simp [r.length]
    rw [← z]; exact Fn.size _ _ _ _ q2
theorem q_make [Wo] {c : Str} {F : FF} (C : CalM X.prog X.w X.K X.mg X.base k c "__init__" F) (M : MkC X.K X.mg c) (hr : RoomG (k + 1) X.A) (tk : Takes X W) (hg : Gl X c) (ha : PA X (e :: es) (tA X W fs)) (hdb : (c == ("__debug__" : Str)) = false := by decide)
    (he : starEach (e :: es) X.env = (false, eval e X.env) :: starEach es X.env := by rfl) (hpl : (backTo pos (starEach es X.env)).any (·.1) = false := by rfl) : PE X (.Call (.Name c p) (e :: es) [] pos) (tF X W (fMk c F fs)) := by
  obtain ⟨A1, a, fd, ps, hm, cl, me, Fn, bd, ar⟩ := C
  obtain ⟨A2, a2, hm2, mk⟩ := M
  rw [hm] at hm2; cases hm2
  have ea : a2 = a := by
    have z := mk.init.symm.trans me.at_
    simpa using z
  subst ea
  refine ⟨fun pins s σ H Q I ⟨w, ρ, S, s0, en, h⟩ => ?_⟩
  refine wpAny_Call_Name_kw (ld_glob I hg hm ?_ hdb)
  refine PySem.W.callWith_K (h₀ := X.base) I.ok.mod.kin mk.kp (thn (ha.run pos pins s σ H (fun vs H1 => ∃ w1 S1 ds, Sto X.K X.mg w1 S1 H1 ∧ RpL X.K X.mg w1 H1 ds vs ∧ End X.K X.mg (fun w H => Rp X.K X.mg w H) w1 H1 (mkR c F ds S1) Q (WE W σ)) I
    ⟨w, ρ, S, s0, en, (End.bind (R := fun w H => RpL X.K X.mg w H) h).imp (fun vs H1 ⟨w1, S1, ds, e1, s1, r1, h1⟩ => ⟨w1, S1, ds, s1, r1, h1⟩) (fun _ _ _ z => z)⟩) fun us s1 ⟨vs, H1, I1, r, w1, S1, ds, st1, r1, h1⟩ => ⟨I1.kIn, ?_⟩) he hpl
  -- the object
  have nx : H1 (s1.heap.objs.size + 1) = none := I1.hok.fresh (Nat.le_succ _)
  have nd : H1 s1.heap.objs.size = none := I1.hok.fresh (Nat.le_refl _)
  have I2 := Inv.made (C := A1) I1
  have stB := st1.beside (o := .own (s1.heap.objs.size + 1)) nd
  have nx2 : upd H1 s1.heap.objs.size (.own (s1.heap.objs.size + 1)) (s1.heap.objs.size + 1) = none := by
    rw [upd_ne (Nat.succ_ne_self _)]; exact nx
  have st2 := stB.obNew (C := A1) (dx := s1.heap.objs.size) (c := c) nx2 hm
  have ex1 : Ext w1 H1 w1 (upd H1 s1.heap.objs.size (.own (s1.heap.objs.size + 1))) := Ext.new nd
  have ex2 : Ext w1 (upd H1 s1.heap.objs.size (.own (s1.heap.objs.size + 1))) ⟨w1.φ ++ [some (s1.heap.objs.size + 1)], w1.hd⟩ (upd (upd H1 s1.heap.objs.size (.own (s1.heap.objs.size + 1))) (s1.heap.objs.size + 1) (.ins A1 s1.heap.objs.size [])) := Ext.cell nx2
  have h2 := End.on (ex1.trans ex2) (End.cutE st1 h1)
  have hsp : spF X.K X.mg ps.length F (.ref (s1.heap.objs.size + 1) :: vs) (upd (upd H1 s1.heap.objs.size (.own (s1.heap.objs.size + 1))) (s1.heap.objs.size + 1) (.ins A1 s1.heap.objs.size [])) (fun v H' => v = .non ∧ Q (.ref (s1.heap.objs.size + 1)) H') (WE W σ) := by
    refine ⟨_, _, .loc S1.length :: ds, st2, RpL.cons ?_ (RpL.ext (ex1.trans ex2) _ _ r1), ?_, ?_⟩
    · unfold Rp
      refine ⟨by show S1.length < (w1.φ ++ [some (s1.heap.objs.size + 1)]).length; rw [List.length_append, st1.len]; exact Nat.lt_succ_self _, fun a ha => ?_⟩
      have ha' : (w1.φ ++ [some (s1.heap.objs.size + 1)])[S1.length]? = some (some a) := ha
      rw [← st1.len, List.getElem?_append_right (Nat.le_refl _), Nat.sub_self] at ha'
      simp at ha'; rw [ha']
    · apply Classical.byContradiction
      intro hn
      have : mkR c F ds S1 = .no := by
        unfold mkR
        rw [ar _ _ hn]; rfl
      rw [this] at h1
      exact h1
    · refine (End.bind (R := fun w H => Rp X.K X.mg w H) h2).imp ?_ (fun _ _ _ z => z)
      rintro v H' ⟨w3, S3, d3, e3, s3, r3, h3⟩
      cases d3 <;> try exact h3.elim
      unfold Rp at r3
      refine ⟨r3, ?_⟩
      simp only at h3
      split at h3
      case h_2 => exact h3.elim
      rename_i c' fs' ds' hz
      obtain ⟨b, C', dx, vs', hb1, hb2, hb3, hb4, hb5⟩ := s3.cell _ _ hz
      have hlt : S1.length < (w1.φ ++ [some (s1.heap.objs.size + 1)]).length := by rw [List.length_append, st1.len]; exact Nat.lt_succ_self _
      have hb6 := e3.ph _ _ hb1 hlt
      have hb7 : (w1.φ ++ [some (s1.heap.objs.size + 1)])[S1.length]? = some (some b) := hb6
      rw [← st1.len, List.getElem?_append_right (Nat.le_refl _), Nat.sub_self] at hb7
      simp at hb7
      rw [hb7]
      exact oz_at s3 hz hb1 h3
  have r2 : Vals (V.ref (s1.heap.objs.size + 1) :: vs) (Value.ref (s1.heap.objs.size + 1) :: us) := .cons rfl r
  have hl : (Value.ref (s1.heap.objs.size + 1) :: us).length = ps.length := by
    rw [← r2.length]; exact Fn.size _ _ _ _ hsp
  have hrm : RoomG k (X.A.under (.builtin "type.__call__" ⟨.ref A1 :: us, []⟩)) := ⟨hr.rm.make A1 us [], hr.gd⟩
  refine wpAny_call (make_map (f := a2) I1.kIn mk.makes mk.init (beq_iff_eq.mp mk.fn) (codeAny_mono (Fn.runs _ X.stack _ _ ⟨Value.ref (s1.heap.objs.size + 1) :: us, []⟩ (Value.ref (s1.heap.objs.size + 1) :: us) _ _ (WE W σ) hrm
    (I2.env0.make A1 us []) (binds0 (us := Value.ref (s1.heap.objs.size + 1) :: us) bd I2.kIn hl) r2 hsp) fun r s' hq' => ?_))
  cases r with
  | error e => exact passAt tk σ pins _ _ e s' I2 hq'
  | ok fl =>
    cases fl with
    | ret u =>
      obtain ⟨v, H', I3, rv, ev, q3⟩ := I2.after hq'
      subst ev
      exact ⟨rv, ⟨V.ref (s1.heap.objs.size + 1), H', I3, rfl, q3⟩⟩
    | next => exact False.elim hq'
    | brk => exact False.elim hq'
    | cont => exact False.elim hq'
end
end Kw
namespace Kw
open PySem PySem.Spec PySem.Calls PyProof.Rows L2
def getGR (kvs : List (Str × D)) (y : D) (S : Store) : RE D := match y with
  | .str z => (match kvs.lookup z with
    | some d => .ok d S
    | none => .ok .non S)
  | _ => .no
def fGetG (n : Str) (kvs : List (Str × D)) (fa fb : FE) : FE := fun ρ S => (fa ρ S).bnd fun x S1 => match x with
  | .glo m => if m = n then (fb ρ S1).bnd (getGR kvs) else .no
  | _ => .no
def getO (o : Option D) (S : Store) : RE D := match o with
  | some d => .ok d S
  | none => .ok .non S
@[simp] theorem getO_some {d : D} {S : Store} : getO (some d) S = .ok d S := rfl
@[simp] theorem getO_none {S : Store} : getO none S = .ok .non S := rfl
@[simp] theorem getGR_str {z : Str} {kvs : List (Str × D)} {S : Store} : getGR kvs (.str z) S = getO (kvs.lookup z) S := rfl
theorem fGetG_ap {n : Str} {kvs : List (Str × D)} {fb : FE} {ρ : FEnv} {S : Store} : fGetG n kvs (fC (.glo n)) fb ρ S = (fb ρ S).bnd (getGR kvs) := by
  show (if n = n then (fb ρ S).bnd (getGR kvs) else .no) = _
  rw [if_pos rfl]
section
variable {X : Cx} {W : WX} {a b : Expr} {fa fb : FE} {apos cpos : Pos} {x : Str} {kvs : List (Str × D)}
theorem q_getG [Wo] (h : GD X.K X.w.params X.mg x kvs) (ha : PE X a (tF X W fa)) (hb : PE X b (tF X W fb)) (m : M1 X a "get" apos b cpos := by exact ⟨rfl, rfl, rfl, rfl⟩) : PE X (.Call (.Attribute a "get" apos) [b] [] cpos) (tF X W (fGetG x kvs fa fb)) := by
  obtain ⟨p, es, n, mm, l, k, hs, f⟩ := h
  refine ⟨fun pins s σ H Q I ⟨w, ρ, S, s0, en, h⟩ => ?_⟩
  refine wpAny_Call_method m.base m.few m.line PySem.F.plainAttrs_dict PySem.F.slot_dict_get PySem.F.type_dict_get (thn (ha.run pins s σ H (fun v H1 => v = .ref p ∧ ∃ w1 S1, Sto X.K X.mg w1 S1 H1 ∧ EnvR X.K X.mg w1 H1 ρ σ ∧ End X.K X.mg (fun w H => Rp X.K X.mg w H) w1 H1 ((fb ρ S1).bnd (getGR kvs)) Q (fun c od H' => W c od σ H')) I
    ⟨w, ρ, S, s0, en, (End.bind (R := fun w H => Rp X.K X.mg w H) h).imp ?_ (fun _ _ _ z => z)⟩) fun u s1 ⟨v, H1, I1, rv, ev, w1, S1, st1, en1, h1⟩ => ?_)
  · rintro v H1 ⟨w1, S1, d, e1, s1, r1, h1⟩
    cases d <;> try exact h1.elim
    simp only at h1
    split at h1
    · rename_i em
      subst em
      unfold Rp at r1
      obtain ⟨q, e2, e3⟩ := r1
      rw [mm] at e3; cases e3
      exact ⟨e2, w1, S1, s1, en.ext e1, h1⟩
    · exact h1.elim
  · subst ev
    obtain rfl : u = Value.ref p := rv
    have hm := PySem.W.mapOf_K (prog := X.prog) (w := X.w) I1.kIn l k
    refine ⟨hm.typeIs, fun b q => ?_, ?_⟩
    · cases q
      exact ⟨_, I1.kIn _ _ l, rfl⟩
    · rw [m.trees]
      refine Calls.callWith_builtin rfl (Calls.evalArgs_plain (Calls.spliced_cons (thn (hb.run pins s1 σ H1 (fun y H2 => ∃ z d, y = .str z ∧ (∃ v0, (match kvs.lookup z with | some d => CV d v0 | none => v0 = .non) ∧ Q v0 H2) ∧ d = kvs.lookup z) I1
        ⟨w1, ρ, S1, st1, en1, (End.bind (R := fun w H => Rp X.K X.mg w H) h1).imp ?_ (fun _ _ _ z => z)⟩) fun iv s2 ⟨y, H2, I2, ry, z, d, ey, ⟨v0, hv0, q2⟩, ed⟩ => Calls.spliced_nil ?_)))
      · rintro y H2 ⟨w2, S2, d2, e2, s2, r2, h2⟩
        cases d2 <;> try exact h2.elim
        rename_i z
        refine ⟨z, _, rp_str r2, ?_, rfl⟩
        simp only [getGR] at h2
        have fz := f z
        split at h2
        · rename_i d hd
          rw [hd] at fz
          obtain ⟨u, v, f1, f2, f3⟩ := fz
          exact ⟨v, f3, h2.ret s2 f3.rp⟩
        · rename_i hd
          exact ⟨.non, rfl, h2.ret s2 rp_n⟩
      · subst ey
        obtain ⟨t, rfl⟩ := ry
        have hm2 := PySem.W.mapOf_K (prog := X.prog) (w := X.w) I2.kIn l k
        refine call_meetsIn PySem.F.slot_dict_get hm2.typeIs PySem.F.entry_dict_get (PySem.F.args_dict_get_2 _ _) (meets_dict_get (strKind X.prog X.w) p (strKind_is X.prog X.w z t) hs) ⟨_, hm2, ?_⟩
        have fz := f z
        cases hd : kvs.lookup z with
        | some d =>
          rw [hd] at fz hv0
          obtain ⟨u, v, f1, f2, f3⟩ := fz
          have hv1 : CV d v0 := hv0
          have e : v0 = v := by
            cases d <;> simp only [CV] at hv1 f3 <;> first | exact hv1.trans f3.symm | exact hv1.elim
          subst e
          refine ⟨v0, H2, I2.tok _, ?_, q2⟩
          rw [PySem.W.find_K l f1]
          exact f2
        | none =>
          rw [hd] at fz hv0
          have hv1 : v0 = .non := hv0
          subst hv1
          refine ⟨.non, H2, I2.tok _, ?_, q2⟩
          rw [PySem.W.find_K l fz]
          rfl
end
/-- the class's method stands in the class's body -/
def TM (K : PySem.W.Frag) (mg : Str → Option Value) (c m qual : Str) (st : Stmt) (ps : List Str) : Prop := ∃ C f fd, mg c = some (.ref C) ∧ Cls K C ∧ Meth K C m f ∧ Fun K m qual st f fd ∧ Binds K fd ps []
section
variable {P : Program} {w : World} {K : PySem.W.Frag} {mg : Str → Option Value} {base : Heap}
theorem calM_zero [Wo] {c m qual : Str} {st : Stmt} {ps : List Str} {k : Nat} (T : TM K mg c m qual st ps) : CalM P w K mg base k c m (fun _ _ => .no) := by
  obtain ⟨C, f, fd, hm, cl, me, F, b⟩ := T
  exact ⟨C, f, fd, ps, hm, cl, me, ⟨fun vs H Q E ⟨w, S, ds, s, r, l, h⟩ => by rw [← r.length]; exact l, fun A outer s H args us vs Q E _ _ _ _ ⟨w, S, ds, st, r, l, h⟩ => h.elim⟩, b, fun _ _ _ => rfl⟩
theorem calMB [Wo] {c m qual : Str} {st : Stmt} {N ps : List Str} {k : Nat} {b : FS} (T : TM K mg c m qual st ps) (S : FnScope N ps (defScope st))
    (hb : ∀ (f : Addr) (cdv : Value) (A : Around) (outer : List Env) (s : Shared) (H : Hp) (E : XK), RoomG k (A.deeper (envOfC qual (defScope st) s.heap.objs.size f cdv)) →
      PSs (cxOf (L2.CX P w) P w K mg base N qual (defScope st) f cdv A outer s H E) (defBody st) (tS (cxOf (L2.CX P w) P w K mg base N qual (defScope st) f cdv A outer s H E) (fun c d _ H => E c d H) b)) :
    CalM P w K mg base (k + 1) c m (fnB ps.length N.length b) := by
  obtain ⟨C, f, fd, hm, cl, me, F, bd⟩ := T
  exact ⟨C, f, fd, ps, hm, cl, me, fn_ok F S (hb f), bd, fnB_ar⟩
end
section
variable {K : PySem.W.Frag} {mg : Str → Option Value} {h : Heap}
theorem tm_mk {c m qual : Str} {st : Stmt} {ps : List Str} {C f : Addr} {oc : Value} {od an : Option Addr} {osl : Array (Option Value)} {kV doc pm cdv ct : Value} (X : K.In h) (G : h.Ns mainGlobals mg) (a : PySem.W.nsIn K mainGlobals c = some (some (.ref C)))
    (m1 : PySem.W.findIn K (.ref C) m = some (some (.ref f))) (l : K.lookup f = some ⟨oc, od, .func (PySem.W.fnOf m qual (defArgs st) (defBody st) (defScope st) .none kV doc pm an cdv ct), osl⟩) (cc : PySem.W.codeIn K cdv qual = true) (k : PySem.W.keepIn K (.ref f) = true)
    (m2 : PySem.W.isFn K (.ref f) = true) (c1 : PySem.W.plainGet K C Str.empty = true) (c2 : PySem.W.hasDictIn K C = true) (c3 : PySem.W.plainOver K C = true) (c4 : PySem.W.findIn K (.ref C) "__setattr__" = some (some (.builtin "object.__setattr__")))
    (hb : ∀ (kV doc pm : Value) (an : Option Addr) (cdv ct : Value) (us : List Value), us.length = ps.length → bindArgs (PySem.W.fnOf m qual (defArgs st) (defBody st) (defScope st) .none kV doc pm an cdv ct) ⟨us, []⟩ = pure (ps.zip us)) : TM K mg c m qual st ps :=
  ⟨C, f, _, PySem.W.mg_of X G a, ⟨c1, c2, c3, c4⟩, ⟨m1, m2, k⟩, fun_mk l cc k, (fun_mk l cc k).binds hb⟩
theorem fld_mk {c f : Str} {C : Addr} (X : K.In h) (G : h.Ns mainGlobals mg) (a : PySem.W.nsIn K mainGlobals c = some (some (.ref C))) (n : PySem.W.findIn K (.ref C) f = some none)
    (c1 : PySem.W.plainGet K C Str.empty = true) (c2 : PySem.W.hasDictIn K C = true) (c3 : PySem.W.plainOver K C = true) (c4 : PySem.W.findIn K (.ref C) "__setattr__" = some (some (.builtin "object.__setattr__"))) : FldC K mg c f :=
  ⟨C, PySem.W.mg_of X G a, ⟨c1, c2, c3, c4⟩, n⟩
theorem mkc_mk {c : Str} {C f : Addr} (X : K.In h) (G : h.Ns mainGlobals mg) (a : PySem.W.nsIn K mainGlobals c = some (some (.ref C))) (i : PySem.W.findIn K (.ref C) "__init__" = some (some (.ref f))) (mk : PySem.W.makesIn K C = true) (fn : PySem.W.isFn K (.ref f) = true) (kp : PySem.W.keepIn K (.ref C) = true) : MkC K mg c :=
  ⟨C, f, PySem.W.mg_of X G a, ⟨mk, i, fn, kp⟩⟩
end
end Kw
namespace Kw
open PySem PySem.Spec PyProof.Rows L2
end Kw
namespace Kw
open PySem PySem.Spec PyProof.Rows L2
end Kw
namespace Kw
open PySem PySem.Spec PyProof.Rows L2
abbrev Cl2 := List Value × Option Nat × (Addr → Value → Option Addr → TS)
def wCls2 (K : PySem.W.Frag) (Wout : WX) (D : Ends) : List Cl2 → WX
  | [] => Wout
  | (cs, o, ts) :: r => fun cls d σ H => ∃ b, PySem.W.exmAny K cls cs = some b ∧ (b = true → ∀ a, H a = none → hit o (ts a cls d) D a σ H) ∧ (b = false → wCls2 K Wout D r cls d σ H)
inductive ClsOk2 [Wo] (X : Cx) : List ExceptHandler → List Cl2 → Prop
  | nil : ClsOk2 X [] []
  | plain {x : Str} {c : Value} {ts : Addr → Value → Option Addr → TS} {b₀ : Stmt} {su : List Stmt} {np q : Pos} {hds : List ExceptHandler} {l : List Cl2} (nm : Names X x c) (k : SuOk X (b₀ :: su) ts) (r : ClsOk2 X hds l) :
      ClsOk2 X (.ExceptHandler (some (.Name x np)) none (b₀ :: su) q :: hds) (([c], none, ts) :: l)
  | two {x y : Str} {c d : Value} {ts : Addr → Value → Option Addr → TS} {b₀ : Stmt} {su : List Stmt} {np np2 tp q : Pos} {kk : Nat} {hds : List ExceptHandler} {l : List Cl2} (nm : Names X x c) (nm2 : Names X y d) (k : SuOk X (b₀ :: su) ts) (r : ClsOk2 X hds l) :
      ClsOk2 X (.ExceptHandler (some (.Tuple [.Name x np, .Name y np2] kk tp)) none (b₀ :: su) q :: hds) (([c, d], none, ts) :: l)
inductive ClsF2 [Wo] (X : Cx) (es : List Str) : List ExceptHandler → List ClF → Prop
  | nil : ClsF2 X es [] []
  | plain {x : Str} {sub : Str → Bool} {c : Str → Addr → FS} {b₀ : Stmt} {su : List Stmt} {np q : Pos} {hds : List ExceptHandler} {l : List ClF} (h : CatF X.K X.mg es x sub) (hg : Gl X x) (k : SuF X es (b₀ :: su) c) (r : ClsF2 X es hds l) (hd : (x == ("__debug__" : Str)) = false := by decide) :
      ClsF2 X es (.ExceptHandler (some (.Name x np)) none (b₀ :: su) q :: hds) ((sub, none, c) :: l)
  | two {x y : Str} {sub sub2 : Str → Bool} {c : Str → Addr → FS} {b₀ : Stmt} {su : List Stmt} {np np2 tp q : Pos} {kk : Nat} {hds : List ExceptHandler} {l : List ClF} (h : CatF X.K X.mg es x sub) (h2 : CatF X.K X.mg es y sub2) (hg : Gl X x) (hg2 : Gl X y) (k : SuF X es (b₀ :: su) c) (r : ClsF2 X es hds l) (hd : (x == ("__debug__" : Str)) = false := by decide) (hd2 : (y == ("__debug__" : Str)) = false := by decide) :
      ClsF2 X es (.ExceptHandler (some (.Tuple [.Name x np, .Name y np2] kk tp)) none (b₀ :: su) q :: hds) ((fun z => sub z || sub2 z, none, c) :: l)
section
variable {X : Cx} {W : WX} {es : List Str}
theorem exmAny_one {K : PySem.W.Frag} {cls c : Value} {b : Bool} (h : PySem.W.exmOne K cls c = some b) : PySem.W.exmAny K cls [c] = some b := by
  simp [PySem.W.exmAny, h]
theorem exmAny_two {K : PySem.W.Frag} {cls c d : Value} {b b2 : Bool} (h : PySem.W.exmOne K cls c = some b) (h2 : PySem.W.exmOne K cls d = some b2) : PySem.W.exmAny K cls [c, d] = some (b || b2) := by
  simp [PySem.W.exmAny, h, h2]
theorem ClsF2.go [Wo] {hds : List ExceptHandler} {cs : List ClF} (h : ClsF2 X es hds cs) (hk : ∀ y ∈ es, ExcK X.K X.mg y) : ∃ l, ClsOk2 X hds l ∧ ∀ (D : Ends) (w : Wd) (x : Ex) (ρ : FEnv) (S : Store) (σ : L2.St) (H : Hp) (cy : Value) (od : Option Addr), x.cls ∈ es → x.ns = [] → Sto X.K X.mg w S H → EnvR X.K X.mg w H ρ σ → ExR X.K X.mg w H x cy od →
    EndS X.K X.mg w H (clsR x ρ S cs) D W → wCls2 X.K W D l cy od σ H := by
  have ex0 : ∀ {w : Wd} {H : Hp} {x : Ex} {cy : Value} {od : Option Addr}, x.cls ∈ es → x.ns = [] → ExR X.K X.mg w H x cy od → ∃ C, X.mg x.cls = some (.ref C) ∧ cy = .ref C ∧ od = none := by
    intro w H x cy od hx hn ex
    obtain ⟨gy, hr⟩ := ex
    obtain ⟨C, gC, _⟩ := hk _ hx
    cases gC.symm.trans gy
    refine ⟨C, gC, rfl, ?_⟩
    rcases hr with ⟨_, _, z⟩ | ⟨d, vs, z, _⟩
    · exact z
    · exact absurd hn z
  have yes : ∀ {sub : Str → Bool} {c : Str → Addr → FS} {l : List ClF} {D : Ends} {w : Wd} {x : Ex} {ρ : FEnv} {S : Store} {σ : L2.St} {H : Hp} {C : Addr}, x.cls ∈ es → X.mg x.cls = some (.ref C) → Sto X.K X.mg w S H → EnvR X.K X.mg w H ρ σ → EndS X.K X.mg w H (clsR x ρ S ((sub, none, c) :: l)) D W → sub x.cls = true → ∀ a, H a = none → hit none (tsOf X es c a (.ref C) none) D a σ H := by
    intro sub c l D w x ρ S σ H C hx gC s en h hs a na
    have h2 : EndS X.K X.mg w H (aInd (clRun none (c x.cls) ρ S)) D W := by
      have h' := h
      unfold clsR at h'
      rw [if_pos hs] at h'
      exact h'
    by_cases hno : aInd (clRun none (c x.cls) ρ S) = .no
    · rw [hno] at h2; exact h2.elim
    · rw [← aInd_at a rfl hno] at h2
      exact ⟨x.cls, C, hx, gC, rfl, rfl, w, ρ, S, s, en, h2.nox⟩
  have noo : ∀ {sub : Str → Bool} {c : Str → Addr → FS} {l : List ClF} {D : Ends} {w : Wd} {x : Ex} {ρ : FEnv} {S : Store} {H : Hp}, EndS X.K X.mg w H (clsR x ρ S ((sub, none, c) :: l)) D W → sub x.cls = false → EndS X.K X.mg w H (clsR x ρ S l) D W := by
    intro sub c l D w x ρ S H h hs
    have h' := h
    unfold clsR at h'
    rw [if_neg (by rw [hs]; decide)] at h'
    exact h'
  induction h with
  | nil =>
    refine ⟨[], .nil, fun D w x ρ S σ H cy od hx hn s en ex h => ?_⟩
    exact h w H σ cy od Ext.refl s en ex
  | @plain x sub c b₀ su np q hds l hc hg k r hd ih =>
    obtain ⟨cv, nm, hx1⟩ := hc.names hg hd
    obtain ⟨l', ok', go'⟩ := ih
    refine ⟨([cv], none, tsOf X es c) :: l', .plain nm k.su ok', fun D w x ρ S σ H cy od hx hn s en ex h => ?_⟩
    obtain ⟨C, gC, rfl, rfl⟩ := ex0 hx hn ex
    exact ⟨sub x.cls, exmAny_one (hx1 _ hx _ gC), fun hs a na => yes hx gC s en h hs a na, fun hs => go' D w x ρ S σ H _ _ hx hn s en ex (noo h hs)⟩
  | @two x y sub sub2 c b₀ su np np2 tp q kk hds l hc hc2 hg hg2 k r hd hd2 ih =>
    obtain ⟨cv, nm, hx1⟩ := hc.names hg hd
    obtain ⟨cv2, nm2, hx2⟩ := hc2.names hg2 hd2
    obtain ⟨l', ok', go'⟩ := ih
    refine ⟨([cv, cv2], none, tsOf X es c) :: l', .two nm nm2 k.su ok', fun D w x ρ S σ H cy od hx hn s en ex h => ?_⟩
    obtain ⟨C, gC, rfl, rfl⟩ := ex0 hx hn ex
    exact ⟨sub x.cls || sub2 x.cls, exmAny_two (hx1 _ hx _ gC) (hx2 _ hx _ gC), fun hs a na => yes hx gC s en h hs a na, fun hs => go' D w x ρ S σ H _ _ hx hn s en ex (noo h hs)⟩
end
end Kw
namespace Kw
open PySem PySem.Spec PyProof.Rows L2
/-- classes that are asked for, by their names -/
inductive IsL (X : Cx) (ys : List Str) : List Expr → (Str → Bool) → Prop
  | nil : IsL X ys [] fun _ => false
  | cons {x : Str} {p : Pos} {es : List Expr} {sub sub2 : Str → Bool} (hg : Gl X x) (h : ∀ y ∈ ys, IsxO X.K X.mg y x (sub y)) (t : IsL X ys es sub2) (hd : (x == ("__debug__" : Str)) = false := by decide)
      (hs : starEach (.Name x p :: es) X.env = (false, eval (.Name x p) X.env) :: starEach es X.env := by rfl) : IsL X ys (.Name x p :: es) fun y => sub y || sub2 y
theorem IsL.get {X : Cx} {ys : List Str} {es : List Expr} {sub : Str → Bool} (h : IsL X ys es sub) (hne : ys ≠ []) : ∃ Bs : List Addr, es.length = Bs.length ∧ PA X es (fun _ H Q => Q (Bs.map V.ref) H) ∧ Paired ClsV (Bs.map V.ref) (Bs.map Value.ref) ∧ ∀ y ∈ ys, ∀ C, X.mg y = some (.ref C) → PySem.W.kitAny X.K (.ref C) (Bs.map Value.ref) = some (sub y) := by
  induction h with
  | nil => exact ⟨[], rfl, pa_nil, .nil, fun _ _ _ _ => rfl⟩
  | @cons x p es sub sub2 hg h t hd hs ih =>
    obtain ⟨Bs, l, pa, pr, k⟩ := ih
    obtain ⟨y0, hy0⟩ := List.exists_mem_of_ne_nil ys hne
    obtain ⟨C0, B, _, mB, _⟩ := h y0 hy0
    have n1 : PE X (.Name x p) (tC (.ref B)) := pe_glob hg mB rfl hd
    refine ⟨B :: Bs, by simp [l], pa_cons n1 pa hs, .cons (.own B) pr, fun y hy C hC => ?_⟩
    obtain ⟨C1, B1, m1, m2, e⟩ := h y hy
    cases hC.symm.trans m1
    cases mB.symm.trans m2
    have := k y hy C hC
    show PySem.W.kitAny X.K (.ref C) (.ref B :: Bs.map Value.ref) = _
    unfold PySem.W.kitAny
    rw [e]
    cases hs2 : sub y with
    | true => simp [hs2]
    | false => simpa [hs2] using this
end Kw
namespace Kw
open PySem PySem.Spec PyProof.Rows L2
end Kw
namespace PySem
end PySem
namespace PySem.W
open PySem PySem.Spec PySem.Calls PyProof.Rows
end PySem.W
namespace Kw
open PySem PySem.Spec PySem.Calls PyProof.Rows L2
end Kw
namespace L2
open PySem PySem.Spec PyProof.Rows
end L2
namespace Kw
open PySem PySem.Spec PySem.Calls PyProof.Rows L2
end Kw
namespace Kw
open PySem PySem.Spec PySem.Calls PyProof.Rows L2
abbrev entP : NestedKey × V × V → NestedKey × Value × Value → Prop := fun p q => p.1 = q.1 ∧ RelV p.2.1 q.2.1 ∧ RelV p.2.2 q.2.2
section
variable {K : PySem.W.Frag} {mg : Str → Option Value} {P : Program} {w0 : World} {w : Wd} {H : Hp} {h : Heap}
mutual
/-- a tree that is a key lies there as one -/
theorem key_at (ok : HOk P w0 H h) (kin : K.In h) : ∀ (d : D) (k : NestedKey) (v : V) (u : Value), keyOf d = some k → Rp K mg w H d v → RelV v u → NestedIs h k u
  | .non, k, v, u, e, r, q => by
    simp only [keyOf, Option.some.injEq] at e; unfold Rp at r; subst e r
    obtain rfl : u = Value.none := q
    exact .none
  | .bl _, _, _, _, e, _, _ => by simp [keyOf] at e
  | .int i, k, v, u, e, r, q => by
    simp only [keyOf, Option.some.injEq] at e; unfold Rp at r; subst e r
    obtain ⟨t, rfl⟩ : ∃ t, u = Value.int i t := q
    exact .int _ _
  | .str x, k, v, u, e, r, q => by
    simp only [keyOf, Option.some.injEq] at e; unfold Rp at r; subst e r
    obtain ⟨t, rfl⟩ : ∃ t, u = Value.str x t := q
    exact .text _ _
  | .tup ds, k, v, u, e, r, q => by
    simp only [keyOf, Option.map_eq_some_iff] at e
    obtain ⟨ks, e1, rfl⟩ := e
    unfold Rp at r
    obtain ⟨a, xs, rfl, t, rl⟩ := r
    obtain rfl : u = Value.ref a := q
    rcases t with ⟨t, _⟩ | ⟨o, its, n, lk, hc, hd, _, vs⟩
    · obtain ⟨_, its, vs, o, g1, g2, n, g3⟩ := ok a _ t
      exact .tup g1 g2 g3 (by simpa using keys_at ok kin ds ks xs its e1 rl vs)
    · exact .tup (kin a o lk) hc hd (keys_at ok kin ds ks xs its.toList e1 rl vs)
  | .lst _, _, _, _, e, _, _ => by simp [keyOf] at e
  | .dic _ _, _, _, _, e, _, _ => by simp [keyOf] at e
  | .ins _ _ _, _, _, _, e, _, _ => by simp [keyOf] at e
  | .loc _, _, _, _, e, _, _ => by simp [keyOf] at e
  | .glo _, _, _, _, e, _, _ => by simp [keyOf] at e
  | .fls _, _, _, _, e, _, _ => by simp [keyOf] at e
  | .exn _, _, _, _, e, _, _ => by simp [keyOf] at e
  | .exo _ _ _, _, _, _, e, _, _ => by simp [keyOf] at e
  | .lam _ _ _, _, _, _, e, _, _ => by simp [keyOf] at e
theorem keys_at (ok : HOk P w0 H h) (kin : K.In h) : ∀ (ds : List D) (ks : List NestedKey) (vs : List V) (us : List Value), keysOf ds = some ks → RpL K mg w H ds vs → Vals vs us → NestedAll h ks us
  | [], ks, vs, us, e, r, q => by
    simp only [keysOf, Option.some.injEq] at e; unfold RpL at r; subst e r
    cases q; exact .nil
  | d :: ds, ks, vs, us, e, r, q => by
    simp only [keysOf] at e
    split at e
    · rename_i k rk h1 h2
      cases e
      unfold RpL at r
      obtain ⟨v, r', rfl, r1, r2⟩ := r
      cases q with
      | cons q1 q2 => exact .cons (key_at ok kin d k v _ h1 r1 q1) (keys_at ok kin ds rk r' _ h2 r2 q2)
    · cases e
end
end
def isTupK : NestedKey → Bool | .tup _ => true | _ => false
def isNumK : NestedKey → Bool | .num _ => true | _ => false
def numK : NestedKey → Int | .num i => i | _ => 0
def vad : Value → Addr | .ref a => a | _ => 0
def dAt : List NestedKey → List D → NestedKey → Option D
  | k :: ks, d :: ds, x => if k = x then some d else dAt ks ds x
  | _, _, _ => none
theorem tupK_ref {h : Heap} {k : NestedKey} {u : Value} (n : NestedIs h k u) (e : isTupK k = true) : u = .ref (vad u) := by
  cases n <;> first | rfl | cases e
/-- as a dict under tuples -/
abbrev hEnt (q : NestedKey × Value × Value) : NestedKey × Addr × Value := (q.1, vad q.2.1, q.2.2)
theorem ents_H {P : Program} {ww : World} {h : Heap} : ∀ {vs : List (NestedKey × Value × Value)}, (∀ q ∈ vs, q.2.1 = .ref (vad q.2.1)) → vs.map (entV ww) = (vs.map hEnt).map (entryOfKey (nestedKind P ww))
  | [], _ => rfl
  | q :: vs, e => by
    have e0 := e q List.mem_cons_self
    rw [List.map_cons, List.map_cons, List.map_cons, ← ents_H (P := P) (h := h) (vs := vs) fun q hq => e q (List.mem_cons_of_mem _ hq)]
    congr 1
    show (⟨q.1.hash ww, q.2.1, q.2.2⟩ : DictEntry) = ⟨q.1.hash ww, .ref (vad q.2.1), q.2.2⟩
    rw [← e0]
theorem paired_mem {α β : Type} {F : α → β → Prop} : ∀ {l : List α} {m : List β}, Paired F l m → ∀ b ∈ m, ∃ a ∈ l, F a b
  | _, _, .nil, b, hb => nomatch hb
  | _, _, .cons r t, b, hb => by
    rcases List.mem_cons.mp hb with rfl | hb
    · exact ⟨_, List.mem_cons_self, r⟩
    · obtain ⟨a, ha, f⟩ := paired_mem t b hb
      exact ⟨a, List.mem_cons_of_mem _ ha, f⟩
theorem paired_keys {es : DEnt} {vs : List (NestedKey × Value × Value)} (p : Paired entP es vs) : vs.map (·.1) = es.map (·.1) := by
  induction p with
  | nil => rfl
  | cons r _ ih => rw [List.map_cons, List.map_cons, ih, r.1]
theorem dct_H {P : Program} {ww : World} {h : Heap} {a : Addr} {es : DEnt} {vs : List (NestedKey × Value × Value)} {o : Obj} {en : Array DictEntry} {ep : Nat} (p : Paired entP es vs) (g : h.get? a = some o) (x : o.ExactDict) (dd : o.data = .dict en ep) (ee : en.toList = vs.map (entV ww))
    (kn : ∀ x ∈ es, ∀ u, RelV x.2.1 u → NestedIs h x.1 u) (dp : ∀ x ∈ es, x.1.depth ≤ 8) (ht : ∀ x ∈ es, isTupK x.1 = true) (nd : (es.map (·.1)).Nodup) : h.DictOfH (nestedKind P ww) a (vs.map hEnt) := by
  have rf : ∀ q ∈ vs, q.2.1 = .ref (vad q.2.1) := fun q hq => by
    obtain ⟨y, hy, f1, f2, f3⟩ := paired_mem p q hq
    exact tupK_ref (kn y hy _ f2) (ht y hy)
  refine ⟨o, en, ep, g, x, dd, by rw [ee]; exact ents_H (h := h) rf, fun z hz => ?_, ?_⟩
  · obtain ⟨q, hq, rfl⟩ := List.mem_map.mp hz
    obtain ⟨y, hy, f1, f2, f3⟩ := paired_mem p q hq
    have n := kn y hy _ f2
    rw [rf q hq] at n
    refine ⟨?_, ?_⟩
    · rw [f1] at n; exact n
    · show q.1.depth ≤ 8
      rw [← f1]; exact dp y hy
  · rw [List.map_map]
    show (vs.map (·.1)).Nodup
    rw [paired_keys p]; exact nd
/-- and back -/
theorem H_dct {P : Program} {ww : World} {h : Heap} {a : Addr} {es : DEnt} {vs : List (NestedKey × Value × Value)} (p : Paired entP es vs) (hs : (a == sysModules) = false) (rf : ∀ q ∈ vs, q.2.1 = .ref (vad q.2.1)) (d : h.DictOfH (nestedKind P ww) a (vs.map hEnt)) : DctP ww a es h := by
  obtain ⟨o, en, ep, g, x, dd, ee, _, _⟩ := d
  exact ⟨hs, vs, p, o, en, ep, g, x, dd, by rw [ee, ← ents_H (h := h) rf]⟩
def eAt : DEnt → NestedKey → Option V
  | [], _ => none
  | x :: es, k => if x.1 = k then some x.2.2 else eAt es k
theorem dAt_e {K : PySem.W.Frag} {mg : Str → Option Value} {w : Wd} {H : Hp} {k : NestedKey} {d : D} : ∀ {es : DEnt} {ds : List D}, RpL K mg w H ds (es.map (·.2.2)) → dAt (es.map (·.1)) ds k = some d → ∃ v, eAt es k = some v ∧ Rp K mg w H d v
  | [], ds, _, e => by cases ds <;> simp [dAt] at e
  | x :: es, [], _, e => by simp [dAt] at e
  | x :: es, d' :: ds, rl, e => by
    rw [List.map_cons] at rl e
    unfold RpL at rl
    obtain ⟨v, rr, ev, q1, q2⟩ := rl
    cases ev
    simp only [dAt] at e
    simp only [eAt]
    by_cases hk : x.1 = k
    · rw [if_pos hk] at e ⊢
      cases e
      exact ⟨_, rfl, q1⟩
    · rw [if_neg hk] at e ⊢
      exact dAt_e q2 e
theorem eAt_p {k : NestedKey} {v : V} {es : DEnt} {vs : List (NestedKey × Value × Value)} (p : Paired entP es vs) : eAt es k = some v → ∃ p : Value × Value, ((vs.find? fun x => decide (x.1 = k)).map (·.2)) = some p ∧ RelV v p.2 := by
  induction p with
  | nil => intro e; simp [eAt] at e
  | @cons x q es vs r t ih =>
    intro e
    simp only [eAt] at e
    by_cases hk : x.1 = k
    · rw [if_pos hk] at e
      cases e
      have hq : q.1 = k := r.1 ▸ hk
      exact ⟨q.2, by simp [List.find?_cons, hq], r.2.2⟩
    · rw [if_neg hk] at e
      have hq : ¬ q.1 = k := fun z => hk (r.1.trans z)
      obtain ⟨p, h1, h2⟩ := ih e
      exact ⟨p, by simpa [List.find?_cons, hq] using h1, h2⟩
theorem atKey_map {k : NestedKey} : ∀ (vs : List (NestedKey × Value × Value)), atKey (vs.map hEnt) k = ((vs.find? fun x => decide (x.1 = k)).map (·.2)).map fun p => (vad p.1, p.2)
  | [] => rfl
  | q :: vs => by
    by_cases hk : q.1 = k
    · simp [atKey, List.find?_cons, hk]
    · have := atKey_map (k := k) vs
      simpa [atKey, List.find?_cons, hk] using this
theorem find_none {k : NestedKey} : ∀ {es : DEnt} {vs : List (NestedKey × Value × Value)}, Paired entP es vs → ((vs.find? fun x => decide (x.1 = k)).isSome = decide (k ∈ es.map (·.1)))
  | _, _, .nil => rfl
  | _, _, .cons (a := x) (b := q) (l₁ := es) (l₂ := vs) r t => by
    have ih := find_none (k := k) t
    by_cases hk : q.1 = k
    · have hx : x.1 = k := r.1.trans hk
      simp [List.find?_cons, hk, hx]
    · have hx : ¬ x.1 = k := fun z => hk (r.1.symm.trans z)
      have hx' : ¬ k = x.1 := fun z => hx z.symm
      rw [List.find?_cons]
      simp only [hk, decide_false, List.map_cons, List.mem_cons, hx', false_or]
      exact ih
/-- x is the key k, wherever the abstract heap lies -/
def KyH (P : Program) (w0 : World) (K : PySem.W.Frag) (H : Hp) (k : NestedKey) (x : V) : Prop := ∀ h, HOk P w0 H h → K.In h → ∀ u, RelV x u → NestedIs h k u
structure DcH (X : Cx) (H : Hp) (a : Addr) (es : DEnt) : Prop where
  at_ : H a = some (DctO X.w a es)
  ky : ∀ e ∈ es, KyH X.prog X.w X.K H e.1 e.2.1
  dp : ∀ e ∈ es, e.1.depth ≤ 8
  nk : ∀ e ∈ es, isNumK e.1 = true → e.2.1 = .int (numK e.1)
  nd : (es.map (·.1)).Nodup
/-- tuples alone, or numbers alone -/
def hom (ks : List NestedKey) : Bool := ks.all isTupK || ks.all isNumK
theorem num_Of {P : Program} {ww : World} {h : Heap} {a : Addr} {es : DEnt} {vs : List (NestedKey × Value × Value)} {o : Obj} {en : Array DictEntry} {ep : Nat} (p : Paired entP es vs) (g : h.get? a = some o) (x : o.ExactDict) (dd : o.data = .dict en ep) (ee : en.toList = vs.map (entV ww))
    (nk : ∀ e ∈ es, e.1 = .num (numK e.1) ∧ e.2.1 = .int (numK e.1)) (nd : (es.map (·.1)).Nodup) : h.DictOf (intKind P ww) a (vs.map fun q => (numK q.1, q.2.2)) := by
  have at_ : ∀ q ∈ vs, q.1 = .num (numK q.1) ∧ ∃ t, q.2.1 = .int (numK q.1) t := fun q hq => by
    obtain ⟨y, hy, f1, f2, f3⟩ := paired_mem p q hq
    obtain ⟨n1, n2⟩ := nk y hy
    rw [n2] at f2
    rw [← f1]
    exact ⟨n1, f2⟩
  refine ⟨o, en, ep, g, x, dd, fun e he => ?_, ?_, ?_⟩
  · have : e ∈ en.toList := by simpa using he
    rw [ee] at this
    obtain ⟨q, hq, rfl⟩ := List.mem_map.mp this
    obtain ⟨h1, t, h2⟩ := at_ q hq
    refine ⟨numK q.1, ?_, ?_⟩
    · show (intKind P ww).is _ q.2.1 = true
      rw [h2]; exact intKind_is P ww _ t
    · show q.1.hash ww = hashInt (numK q.1)
      have e1 : q.1.hash ww = (NestedKey.num (numK q.1)).hash ww := congrArg (fun z => NestedKey.hash ww z) h1
      rw [e1]; rfl
  · rw [ee]
    have go : ∀ l : List (NestedKey × Value × Value), (∀ q ∈ l, q ∈ vs) → Pairs (intKind P ww) (l.map (entV ww)) (l.map fun q => (numK q.1, q.2.2)) := by
      intro l
      induction l with
      | nil => exact fun _ => .nil
      | cons q l ih =>
        intro hl
        obtain ⟨h1, t, h2⟩ := at_ q (hl q List.mem_cons_self)
        refine .cons ?_ rfl (ih fun z hz => hl z (List.mem_cons_of_mem _ hz))
        show (intKind P ww).is _ q.2.1 = true
        rw [h2]; exact intKind_is P ww _ t
    exact go vs fun q hq => hq
  · rw [List.map_map]
    have e1 : vs.map (·.1) = (vs.map ((·.1) ∘ fun q => (numK q.1, q.2.2))).map NestedKey.num := by
      rw [List.map_map]
      refine List.map_congr_left fun q hq => ?_
      exact (at_ q hq).1
    rw [← paired_keys p, e1] at nd
    exact (List.pairwise_map.mp nd).imp fun h e => h (by rw [e])
theorem num_back {P : Program} {ww : World} {ens : List DictEntry} {kvs : List (Int × Value)} (p : Pairs (intKind P ww) ens kvs) : (∀ e ∈ ens, ∃ k, (intKind P ww).is k e.key = true ∧ e.hash = (intKind P ww).hash k) → ∀ {es : DEnt}, Paired (fun (x : NestedKey × V × V) (kv : Int × Value) => x.1 = .num kv.1 ∧ x.2.1 = .int kv.1 ∧ RelV x.2.2 kv.2) es kvs → ∃ vs, Paired entP es vs ∧ ens = vs.map (entV ww) := by
  induction p with
  | nil => intro _ es q; cases q; exact ⟨[], .nil, rfl⟩
  | @cons e kv ens kvs h1 h2 t ih =>
    intro hk es q
    cases q with
    | @cons x _ es _ q1 q2 =>
      obtain ⟨vs, v1, v2⟩ := ih (fun e he => hk e (List.mem_cons_of_mem _ he)) q2
      obtain ⟨k, k1, k2⟩ := hk e List.mem_cons_self
      obtain ⟨tk, ek⟩ := Value.isInt_shape h1
      obtain ⟨tk2, ek2⟩ := Value.isInt_shape k1
      rw [ek] at ek2
      cases ek2
      refine ⟨(.num kv.1, e.key, e.val) :: vs, .cons ⟨q1.1, ?_, ?_⟩ v1, ?_⟩
      · rw [q1.2.1, ek]; exact ⟨_, rfl⟩
      · show RelV _ e.val
        rw [h2]; exact q1.2.2
      · rw [List.map_cons, ← v2]
        congr 1
        cases e
        show DictEntry.mk _ _ _ = DictEntry.mk _ _ _
        congr 1
theorem find_num {k : Int} : ∀ (vs : List (NestedKey × Value × Value)), (∀ q ∈ vs, q.1 = .num (numK q.1)) → valueAt (vs.map fun q => (numK q.1, q.2.2)) k = ((vs.find? fun x => decide (x.1 = .num k)).map (·.2)).map (·.2)
  | [], _ => rfl
  | q :: vs, h => by
    have h0 := h q List.mem_cons_self
    have ih := find_num (k := k) vs fun q hq => h q (List.mem_cons_of_mem _ hq)
    by_cases hk : numK q.1 = k
    · have : q.1 = .num k := by rw [h0, hk]
      have e2 : decide (numK q.1 = k) = true := decide_eq_true hk
      have e3 : decide (q.1 = .num k) = true := decide_eq_true this
      rw [List.map_cons]
      unfold valueAt
      rw [List.find?_cons, List.find?_cons, e3]
      simp only [e2]
      rfl
    · have : ¬ q.1 = .num k := fun z => hk (by rw [z]; rfl)
      simpa [valueAt, List.find?_cons, hk, this] using ih
section
variable {X : Cx} {pins : List (Addr × Obj)} {σ : L2.St} {H : Hp} {s : Shared} {a : Addr} {es : DEnt} {k : NestedKey} {x : V} {u : Value} {A : Around} {E : Value → Shared → Prop}
theorem DcH.typeIs (I : Inv X pins σ H s) (D : DcH X H a es) : s.TypeIs (.ref a) "dict" := by
  obtain ⟨⟨_, _, _, o, _, _, g, x, _⟩, _⟩ := (show ObjOk X.prog X.w H s.heap a (DctO X.w a es) from I.hok a _ D.at_)
  exact ⟨o, g, x.1⟩
theorem DcH.ne (I : Inv X pins σ H s) (D : DcH X H a es) : (a == sysModules) = false := by
  obtain ⟨⟨n, _⟩, _⟩ := (show ObjOk X.prog X.w H s.heap a (DctO X.w a es) from I.hok a _ D.at_)
  exact n
theorem DcH.toH (I : Inv X pins σ H s) (D : DcH X H a es) (ht : ∀ e ∈ es, isTupK e.1 = true) : ∃ vs, Paired entP es vs ∧ (∀ q ∈ vs, q.2.1 = .ref (vad q.2.1)) ∧ s.heap.DictOfH (nestedKind X.prog X.w) a (vs.map hEnt) := by
  obtain ⟨⟨n, vs, p, o, en, ep, g, x, dd, ee⟩, _⟩ := (show ObjOk X.prog X.w H s.heap a (DctO X.w a es) from I.hok a _ D.at_)
  have kn : ∀ x ∈ es, ∀ u, RelV x.2.1 u → NestedIs s.heap x.1 u := fun x hx u r => D.ky x hx _ I.hok I.kIn u r
  refine ⟨vs, p, fun q hq => ?_, dct_H p g x dd ee kn D.dp ht D.nd⟩
  obtain ⟨y, hy, f1, f2, f3⟩ := paired_mem p q hq
  exact tupK_ref (kn y hy _ f2) (ht y hy)
theorem DcH.toN (I : Inv X pins σ H s) (D : DcH X H a es) (ht : ∀ e ∈ es, isNumK e.1 = true) : ∃ vs, Paired entP es vs ∧ (∀ q ∈ vs, q.1 = .num (numK q.1)) ∧ s.heap.DictOf (intKind X.prog X.w) a (vs.map fun q => (numK q.1, q.2.2)) := by
  obtain ⟨⟨n, vs, p, o, en, ep, g, x, dd, ee⟩, _⟩ := (show ObjOk X.prog X.w H s.heap a (DctO X.w a es) from I.hok a _ D.at_)
  have nk : ∀ e ∈ es, e.1 = .num (numK e.1) ∧ e.2.1 = .int (numK e.1) := fun e he => ⟨by
    have := ht e he
    revert this
    cases e.1 <;> simp [isNumK, numK], D.nk e he (ht e he)⟩
  refine ⟨vs, p, fun q hq => ?_, num_Of p g x dd ee nk D.nd⟩
  obtain ⟨y, hy, f1, f2, f3⟩ := paired_mem p q hq
  rw [← f1]; exact (nk y hy).1
theorem room8 (hu : A.units + 200 < cLine) : (nestedKind X.prog X.w).room A.in1 := by show A.in1.units + 8 < cLine; rw [Around.in1_units]; omega
theorem room8' (hu : A.units + 200 < cLine) : (nestedKind X.prog X.w).room A := by show A.units + 8 < cLine; omega
/-- k not in d -/
theorem n_not {Q : Value → Shared → Prop} (hu : A.units + 200 < cLine) (I : Inv X pins σ H s) (D : DcH X H a es) (ky : KyH X.prog X.w X.K H k x) (rx : RelV x u) (hk : isTupK k = true) (dk : k.depth ≤ 8) (ht : ∀ e ∈ es, isTupK e.1 = true)
    (q : ∀ s', Inv X pins σ H s' → Q (.bool (!decide (k ∈ es.map (·.1)))) s') : wpAny (model X.prog X.w) A (compareOp .NotIn u (.ref a)) Q E s := by
  obtain ⟨vs, p, rf, m⟩ := D.toH I ht
  have n := ky _ I.hok I.kIn u rx
  have eu := tupK_ref n hk
  rw [eu] at n ⊢
  refine wpAny_notIn_heap (room8 hu) (show (nestedKind X.prog X.w).is s.heap k (vad u) from ⟨n, dk⟩) (D.ne I) m ?_
  rw [atKey_map, Option.isSome_map, Option.isSome_map, find_none p]
  exact q _ (I.tok _)
/-- d[k] -/
theorem n_get {v : V} {Q : Value → Shared → Prop} (hu : A.units + 200 < cLine) (I : Inv X pins σ H s) (D : DcH X H a es) (ky : KyH X.prog X.w X.K H k x) (rx : RelV x u) (dk : k.depth ≤ 8) (ho : hom (k :: es.map (·.1)) = true) (nk : isNumK k = true → x = .int (numK k)) (hv : eAt es k = some v)
    (q : ∀ w' s', Inv X pins σ H s' → RelV v w' → Q w' s') : wpAny (model X.prog X.w) A (getItem (.ref a) u) Q E s := by
  unfold hom at ho
  rcases Bool.or_eq_true_iff.mp ho with ho | ho
  · rw [List.all_cons, Bool.and_eq_true, List.all_eq_true] at ho
    obtain ⟨vs, p, rf, m⟩ := D.toH I fun e he => ho.2 e.1 (List.mem_map_of_mem he)
    have n := ky _ I.hok I.kIn u rx
    have eu := tupK_ref n ho.1
    obtain ⟨pv, h1, h2⟩ := eAt_p p hv
    rw [eu] at n ⊢
    refine wpAny_getItem_heap (p := (vad pv.1, pv.2)) (room8 hu) (show (nestedKind X.prog X.w).is s.heap k (vad u) from ⟨n, dk⟩) m ?_ ?_
    · rw [atKey_map, h1]; rfl
    · exact q _ _ (I.tok _) h2
  · rw [List.all_cons, Bool.and_eq_true, List.all_eq_true] at ho
    obtain ⟨vs, p, rf, m⟩ := D.toN I fun e he => ho.2 e.1 (List.mem_map_of_mem he)
    have ek := nk ho.1
    subst ek
    obtain ⟨t, rfl⟩ : ∃ t, u = Value.int (numK k) t := rx
    obtain ⟨pv, h1, h2⟩ := eAt_p p hv
    refine wpAny_getItem_of (intKind_is X.prog X.w _ t) m.mapOf (v := pv.2) ?_ (q _ _ (I.tok _) h2)
    have ekk : k = .num (numK k) := by
      have := ho.1
      revert this
      cases k <;> simp [isNumK, numK]
    show valueAt _ _ = _
    rw [find_num vs rf, ← ekk, h1]; rfl
theorem dct_ok {P : Program} {w0 : World} {H : Hp} {h : Heap} {ww : World} (d : DctP ww a es h) : ObjOk P w0 H h a (DctO ww a es) := by
  refine ⟨d, ?_, fun h1 h2 d1 st => ?_⟩
  · obtain ⟨_, vs, _, o, _, _, g, _⟩ := d
    exact ⟨o, g⟩
  · obtain ⟨n, vs, p, o, en, ep, g, r⟩ := d1
    exact ⟨n, vs, p, o, en, ep, st o g, r⟩
theorem nfind {vs : List (NestedKey × Value × Value)} (p : Paired entP es vs) (hn : k ∉ es.map (·.1)) : atKey (vs.map hEnt) k = none := by
  have z := find_none (k := k) p
  rw [decide_eq_false hn] at z
  rw [atKey_map, Option.map_eq_none_iff, Option.map_eq_none_iff]
  cases hf : vs.find? fun x => decide (x.1 = k) with
  | none => rfl
  | some _ => rw [hf] at z; cases z
/-- the dict with one entry more -/
theorem put_H {y : V} {r : Value} {h' : Heap} {vs : List (NestedKey × Value × Value)} (I : Inv X pins σ H s) (D : DcH X H a es) (p : Paired entP es vs) (rf : ∀ q ∈ vs, q.2.1 = .ref (vad q.2.1)) (rx : RelV x u) (eu : u = .ref (vad u)) (ry : RelV y r) (hn : k ∉ es.map (·.1))
    (dd : h'.DictOfH (nestedKind X.prog X.w) a (storedH (vs.map hEnt) k (vad u) r)) (hs : Heap.SameBut a s.heap h') {t' : Nat} : Inv X pins σ (upd H a (DctO X.w a (es ++ [(k, x, y)]))) { s with heap := h', toks := t' } := by
  have p2 : Paired entP (es ++ [(k, x, y)]) (vs ++ [(k, u, r)]) := Paired.snoc p ⟨rfl, rx, ry⟩
  have e2 : storedH (vs.map hEnt) k (vad u) r = (vs ++ [(k, u, r)]).map hEnt := by rw [storedH_new (nfind p hn), List.map_append]; rfl
  rw [e2] at dd
  have rf2 : ∀ q ∈ vs ++ [(k, u, r)], q.2.1 = .ref (vad q.2.1) := fun q hq => by
    rcases List.mem_append.mp hq with z | z
    · exact rf q z
    · have : q = (k, u, r) := by simpa using z
      rw [this]; exact eu
  have dp := H_dct p2 (D.ne I) rf2 dd
  have he : ∃ q, h'.get? a = some q := by obtain ⟨_, _, _, o, _, _, g, _⟩ := dp; exact ⟨o, g⟩
  exact d_write I (by rw [D.at_]; exact True.intro) hs he (dct_ok dp)
theorem vs_len {vs : List (NestedKey × Value × Value)} (p : Paired entP es vs) : vs.length = es.length := by
  have := congrArg List.length (paired_keys p)
  simpa using this
/-- d[k] = v, a new key -/
theorem n_put {y : V} {r : Value} {Q : Unit → Shared → Prop} (hu : A.units + 200 < cLine) (I : Inv X pins σ H s) (D : DcH X H a es) (ky : KyH X.prog X.w X.K H k x) (rx : RelV x u) (hk : isTupK k = true) (dk : k.depth ≤ 8) (ht : ∀ e ∈ es, isTupK e.1 = true) (hn : k ∉ es.map (·.1)) (hz : es.length < sizeLine) (ry : RelV y r)
    (q : ∀ s', Inv X pins σ (upd H a (DctO X.w a (es ++ [(k, x, y)]))) s' → Q () s') : wpAny (model X.prog X.w) A (setItem (.ref a) u r) Q E s := by
  obtain ⟨vs, p, rf, m⟩ := D.toH I ht
  have n := ky _ I.hok I.kIn u rx
  have eu := tupK_ref n hk
  have hl : (vs.map hEnt).length ≤ sizeLine := by rw [List.length_map, vs_len p]; omega
  rw [eu] at n ⊢
  refine wpAny_setItem_heap (hsz := hl) (room8 hu) (show (nestedKind X.prog X.w).is s.heap k (vad u) from ⟨n, dk⟩) m fun h' dd hs => q _ ?_
  exact put_H I D p rf rx eu ry hn dd hs
/-- the same, by a comprehension -/
theorem n_set {y : V} {r : Value} {Q : Unit → Shared → Prop} (hu : A.units + 200 < cLine) (I : Inv X pins σ H s) (D : DcH X H a es) (ky : KyH X.prog X.w X.K H k x) (rx : RelV x u) (dk : k.depth ≤ 8) (ho : hom (k :: es.map (·.1)) = true) (nk : isNumK k = true → x = .int (numK k)) (hn : k ∉ es.map (·.1)) (hz : es.length < sizeLine) (ry : RelV y r)
    (q : ∀ s', Inv X pins σ (upd H a (DctO X.w a (es ++ [(k, x, y)]))) s' → Q () s') : wpAny (model X.prog X.w) A (dictSet a u r) Q E s := by
  unfold hom at ho
  rcases Bool.or_eq_true_iff.mp ho with ho | ho
  · rw [List.all_cons, Bool.and_eq_true, List.all_eq_true] at ho
    obtain ⟨vs, p, rf, m⟩ := D.toH I fun e he => ho.2 e.1 (List.mem_map_of_mem he)
    have n := ky _ I.hok I.kIn u rx
    have eu := tupK_ref n ho.1
    have hl : (vs.map hEnt).length ≤ sizeLine := by rw [List.length_map, vs_len p]; omega
    rw [eu] at n ⊢
    refine wpAny_dictSet_heap (hsz := hl) (room8' hu) (show (nestedKind X.prog X.w).is s.heap k (vad u) from ⟨n, dk⟩) m fun h' dd hs => q _ ?_
    exact put_H I D p rf rx eu ry hn dd hs
  · rw [List.all_cons, Bool.and_eq_true, List.all_eq_true] at ho
    obtain ⟨vs, p, rf, m⟩ := D.toN I fun e he => ho.2 e.1 (List.mem_map_of_mem he)
    have ek := nk ho.1
    have ekk : k = .num (numK k) := by
      have := ho.1
      revert this
      cases k <;> simp [isNumK, numK]
    have rx' : RelV (.int (numK k)) u := ek ▸ rx
    obtain ⟨t, eu⟩ : ∃ t, u = Value.int (numK k) t := rx'
    have hl : (vs.map fun q => (numK q.1, q.2.2)).length ≤ sizeLine := by rw [List.length_map, vs_len p]; omega
    have hnone : valueAt (vs.map fun q => (numK q.1, q.2.2)) (numK k) = none := by
      rw [find_num vs rf, ← ekk]
      have z := find_none (k := k) p
      rw [decide_eq_false hn] at z
      cases hf : vs.find? fun x => decide (x.1 = k) with
      | none => rfl
      | some _ => rw [hf] at z; cases z
    have hany : ((vs.map fun q => (numK q.1, q.2.2)).any fun kv => decide (kv.1 = numK k)) = false := by
      rw [List.any_eq_false]
      intro z hz' hc
      have : valueAt (vs.map fun q => (numK q.1, q.2.2)) (numK k) ≠ none := by
        unfold valueAt
        intro h0
        rw [Option.map_eq_none_iff, List.find?_eq_none] at h0
        exact h0 z hz' hc
      exact this hnone
    have st : stored (vs.map fun q => (numK q.1, q.2.2)) (numK k) r = (vs.map fun q => (numK q.1, q.2.2)) ++ [(numK k, r)] := by
      unfold stored
      rw [hany, if_neg (by decide)]
    subst eu
    refine wpAny_dictSet_pairs (hsz := hl) (intKind_is X.prog X.w _ t) m fun h' dd hs => q _ ?_
    rw [st] at dd
    obtain ⟨o, en, ep, g, xx, od, ko, pp, nd2⟩ := dd
    have pes : Paired (fun (x : NestedKey × V × V) (kv : Int × Value) => x.1 = .num kv.1 ∧ x.2.1 = .int kv.1 ∧ RelV x.2.2 kv.2) (es ++ [(k, x, y)]) ((vs.map fun q => (numK q.1, q.2.2)) ++ [(numK k, r)]) := by
      refine Paired.snoc ?_ ⟨ekk, ek, ry⟩
      have go : ∀ {l : DEnt} {m : List (NestedKey × Value × Value)}, Paired entP l m → (∀ e ∈ l, isNumK e.1 = true ∧ e.2.1 = .int (numK e.1)) → Paired (fun (x : NestedKey × V × V) (kv : Int × Value) => x.1 = .num kv.1 ∧ x.2.1 = .int kv.1 ∧ RelV x.2.2 kv.2) l (m.map fun q => (numK q.1, q.2.2)) := by
        intro l m pm
        induction pm with
        | nil => exact fun _ => .nil
        | @cons a b l m r t ih =>
          intro h
          obtain ⟨n1, n2⟩ := h a List.mem_cons_self
          refine .cons ⟨?_, ?_, r.2.2⟩ (ih fun e he => h e (List.mem_cons_of_mem _ he))
          · show a.1 = .num (numK b.1)
            rw [← r.1]
            revert n1
            cases a.1 <;> simp [isNumK, numK]
          · show a.2.1 = .int (numK b.1)
            rw [← r.1]; exact n2
      exact go p fun e he => ⟨ho.2 e.1 (List.mem_map_of_mem he), D.nk e he (ho.2 e.1 (List.mem_map_of_mem he))⟩
    obtain ⟨vs2, p2, ee⟩ := num_back pp (fun e he => ko e (by simpa using he)) pes
    have dp : DctP X.w a (es ++ [(k, x, y)]) h' := ⟨D.ne I, vs2, p2, o, en, ep, g, xx, od, ee⟩
    exact d_write I (by rw [D.at_]; exact True.intro) hs ⟨o, g⟩ (dct_ok dp)
theorem dct_new {h : Heap} {ww : World} (hb : sysModules < h.objs.size) : DctP ww h.objs.size [] (h.push { cls := .type "dict", data := .dict #[] }) :=
  ⟨beq_eq_false_iff_ne.mpr (Ne.symm (Nat.ne_of_lt hb)), [], .nil, _, #[], 0, Heap.get?_push_size _ rfl, ⟨rfl, rfl, rfl⟩, rfl, rfl⟩
/-- {} -/
def tNewN (ww : World) : TE := fun _ H Q => ∀ p, H p = none → Q (.ref p) (upd H p (DctO ww p []))
theorem pe_dnewN {pos : Pos} : PE X (.Dict [] [] pos) (tNewN X.w) := ⟨fun pins s σ H Q I h =>
  wpAny_Dict_empty ⟨.ref s.heap.objs.size, _, I.laid (a := s.heap.objs.size) (o := DctO X.w s.heap.objs.size []) (t' := s.toks) (fun _ _ q => Heap.get?_push_of_some _ q) (Nat.le_refl _) (dct_ok (dct_new I.big)), rfl, h _ (I.hok.fresh (Nat.le_refl _))⟩⟩
end
end Kw
namespace Kw
open PySem PySem.Spec PySem.Calls PyProof.Rows L2
section
variable {X : Cx} {w : Wd} {S : Store} {H : Hp} {n : Nat} {a : Addr} {es : DEnt} {ks : List NestedKey} {ds : List D}
theorem key_num {K : PySem.W.Frag} {mg : Str → Option Value} {d : D} {k : NestedKey} {v : V} (hk : keyOf d = some k) (r : Rp K mg w H d v) (hn : isNumK k = true) : v = .int (numK k) := by
  cases d <;> simp only [keyOf, Option.some.injEq, reduceCtorEq, Option.map_eq_some_iff] at hk
  · subst hk; cases hn
  · subst hk; unfold Rp at r; rw [r]; rfl
  · subst hk; cases hn
  · obtain ⟨_, _, rfl⟩ := hk; cases hn
theorem dc_mk (hH : H a = some (DctO X.w a es)) (hk : ∀ x ∈ es, x.1.depth ≤ 8 ∧ ∃ d, keyOf d = some x.1 ∧ Rp X.K X.mg w H d x.2.1) (nd : (es.map (·.1)).Nodup) : DcH X H a es where
  at_ := hH
  ky := fun e he h ok kin u r => by
    obtain ⟨_, d, k1, k2⟩ := hk e he
    exact key_at ok kin d e.1 e.2.1 u k1 k2 r
  dp := fun e he => (hk e he).1
  nk := fun e he hn => by
    obtain ⟨_, d, k1, k2⟩ := hk e he
    exact key_num k1 k2 hn
  nd := nd
theorem dc_of [Wo] (hW : Wo.ww = X.w) (s : Sto X.K X.mg w S H) (hz : S[n]? = some (.dct ks ds)) : ∃ a es, w.φ[n]? = some (some a) ∧ DcH X H a es ∧ es.map (·.1) = ks ∧ (∀ x ∈ es, x.1.depth ≤ 8 ∧ ∃ d, keyOf d = some x.1 ∧ Rp X.K X.mg w H d x.2.1) ∧ RpL X.K X.mg w H ds (es.map (·.2.2)) := by
  obtain ⟨a, es, h1, h2, h3, h4, h5, h6⟩ := s.cell n _ hz
  rw [hW] at h2
  exact ⟨a, es, h1, dc_mk h2 h5 (h3 ▸ h4), h3, h5, h6⟩
theorem ky_of {d : D} {k : NestedKey} {x : V} (hk : keyOf d = some k) (r : Rp X.K X.mg w H d x) : KyH X.prog X.w X.K H k x := fun h ok kin u q => key_at ok kin d k x u hk r q
end
/-- x not in d -/
def gDnot (x y : D) (S : Store) : RE D := match y with
  | .loc n => (match S[n]? with
    | some (.dct ks _) => (match keyOf x with
      | some k => if isTupK k = true ∧ ks.all isTupK = true ∧ k.depth ≤ 8 then .ok (.bl (!decide (k ∈ ks))) S else .no
      | none => .no)
    | _ => .no)
  | _ => .no
/-- d[x] -/
def gDget (y x : D) (S : Store) : RE D := match y with
  | .loc n => (match S[n]? with
    | some (.dct ks ds) => (match keyOf x with
      | some k => if hom (k :: ks) = true ∧ k.depth ≤ 8 then (match dAt ks ds k with
        | some d => .ok d S
        | none => .no) else .no
      | none => .no)
    | _ => .no)
  | _ => .no
/-- {} -/
def fNewD : FE := fun _ S => .ok (.loc S.length) (S ++ [.dct [] []])
/-- d[x] = v, x new -/
def sDput (fo fi fv : FE) : FS := fun ρ S => (fv ρ S).toS ρ fun y S1 => (fo ρ S1).toS ρ fun o S2 => (fi ρ S2).toS ρ fun x S3 => match o with
  | .loc n => (match S3[n]? with
    | some (.dct ks ds) => (match keyOf x with
      | some k => if isTupK k = true ∧ ks.all isTupK = true ∧ k.depth ≤ 8 ∧ k ∉ ks ∧ ks.length < sizeLine then .nx ρ (S3.set n (.dct (ks ++ [k]) (ds ++ [y]))) else .no
      | none => .no)
    | _ => .no)
  | _ => .no
section
variable {K : PySem.W.Frag} {mg : Str → Option Value} {w : Wd} {H : Hp} {S : Store}
/-- a cell is written -/
theorem Sto.setC [Wo] {n : Nat} {l : Addr} {o : HO} {c : Cell} (s : Sto K mg w S H) (hw : w.φ[n]? = some (some l)) (hn : n < S.length) (hc : CellR K mg w (upd H l o) c n) : Sto K mg w (S.set n c) (upd H l o) := by
  have ex : Ext w H w (upd H l o) := Ext.write hw
  refine ⟨by rw [List.length_set]; exact s.len, s.nd, fun a ha => ⟨upd_some (s.ap a ha).1, (s.ap a ha).2⟩, fun m c' hc' => ?_⟩
  by_cases e : m = n
  · subst e
    rw [List.getElem?_set_self hn] at hc'
    cases hc'
    exact hc
  · rw [List.getElem?_set_ne (Ne.symm e)] at hc'
    refine CellR.ext ex (fun a ha => ⟨ha, ?_⟩) id (s.cell m c' hc')
    exact upd_ne fun z => e (s.nd m n a ha (z ▸ hw))
/-- a new cell -/
theorem Sto.newC [Wo] {p : Addr} {o : HO} {c : Cell} (s : Sto K mg w S H) (np : H p = none) (hc : CellR K mg ⟨w.φ ++ [some p], w.hd⟩ (upd H p o) c w.φ.length) : Sto K mg ⟨w.φ ++ [some p], w.hd⟩ (S ++ [c]) (upd H p o) := by
  have ex : Ext w H ⟨w.φ ++ [some p], w.hd⟩ (upd H p o) := Ext.cell np
  refine ⟨by show (w.φ ++ [some p]).length = _; rw [List.length_append, List.length_append, s.len]; rfl, fun m n a h1 h2 => ?_, fun a ha => ⟨upd_some (s.ap a ha).1, fun z => ?_⟩, fun n c' hc' => ?_⟩
  · have key : ∀ k, (w.φ ++ [some p])[k]? = some (some a) → (w.φ[k]? = some (some a) ∧ k < w.φ.length) ∨ (k = w.φ.length ∧ a = p) := fun k hk => by
      by_cases hl : k < w.φ.length
      · rw [List.getElem?_append_left hl] at hk; exact .inl ⟨hk, hl⟩
      · have hl' : w.φ.length ≤ k := Nat.le_of_not_lt hl
        rw [List.getElem?_append_right hl'] at hk
        have : k - w.φ.length = 0 := by
          cases e : k - w.φ.length with
          | zero => rfl
          | succ j => rw [e] at hk; simp at hk
        rw [this] at hk; simp at hk
        exact .inr ⟨by omega, hk.symm⟩
    rcases key m h1 with ⟨a1, b1⟩ | ⟨a1, b1⟩ <;> rcases key n h2 with ⟨a2, b2⟩ | ⟨a2, b2⟩
    · exact s.nd m n a a1 a2
    · subst b2; exact absurd (List.mem_of_getElem? a1) (s.new np).1
    · subst b1; exact absurd (List.mem_of_getElem? a2) (s.new np).1
    · omega
  · rcases List.mem_append.mp (show some a ∈ w.φ ++ [some p] from z) with h | h
    · exact (s.ap a ha).2 h
    · simp at h; subst h; exact (s.ap a ha).1 np
  · by_cases hl : n < S.length
    · rw [List.getElem?_append_left hl] at hc'
      refine CellR.ext ex (fun a ha => ⟨by show (w.φ ++ [some p])[n]? = _; rw [List.getElem?_append_left (s.len ▸ hl)]; exact ha, ?_⟩) (fun hd => by show (w.φ ++ [some p])[n]? = _; rw [List.getElem?_append_left (s.len ▸ hl)]; exact hd) (s.cell n c' hc')
      have : a ≠ p := fun z => by subst z; exact (s.new np).1 (List.mem_of_getElem? ha)
      rw [upd_ne this]
    · have hl' : S.length ≤ n := Nat.le_of_not_lt hl
      rw [List.getElem?_append_right hl'] at hc'
      have e0 : n - S.length = 0 := by
        cases e : n - S.length with
        | zero => rfl
        | succ j => rw [e] at hc'; simp at hc'
      rw [e0] at hc'; simp at hc'; subst hc'
      have en : n = w.φ.length := by rw [s.len]; omega
      subst en
      exact hc
theorem loc_new {w : Wd} {S : Store} {p : Addr} (hl : w.φ.length = S.length) {H : Hp} : Rp K mg ⟨w.φ ++ [some p], w.hd⟩ H (.loc S.length) (.ref p) := by
  unfold Rp
  refine ⟨by show S.length < (w.φ ++ [some p]).length; rw [List.length_append, hl]; exact Nat.lt_succ_self _, fun a ha => ?_⟩
  have ha' : (w.φ ++ [some p])[S.length]? = some (some a) := ha
  rw [← hl, List.getElem?_append_right (Nat.le_refl _), Nat.sub_self] at ha'
  simp at ha'; rw [ha']
end
section
variable {X : Cx} {W : WX} {a b o i value : Expr} {fa fb fo fi fv : FE} {pos pos' : Pos}
def rNinD (X : Cx) : R2 := fun x y H Q => ∃ a es k, y = .ref a ∧ DcH X H a es ∧ KyH X.prog X.w X.K H k x ∧ isTupK k = true ∧ k.depth ≤ 8 ∧ (∀ e ∈ es, isTupK e.1 = true) ∧ Q (.bl (!decide (k ∈ es.map (·.1)))) H
theorem op_ninD (hu : X.A.units + 200 < cLine) : OpR X (compareOp .NotIn) (rNinD X) := by
  intro pins s σ H x y v u Q I rx ry h
  obtain ⟨a, es, k, rfl, D, ky, hk, dk, ht, q⟩ := h
  obtain rfl : u = Value.ref a := ry
  exact n_not hu I D ky rx hk dk ht fun s' I' => ⟨V.bl (!decide (k ∈ List.map (fun x : NestedKey × V × V => x.1) es)), H, I', rfl, q⟩
theorem ninD_v [Wo] (hW : Wo.ww = X.w) : OpV X.K X.mg (rNinD X) gDnot := by
  intro w S H x y d e Q E s r1 r2 h
  unfold gDnot at h
  cases e <;> try exact h.elim
  rename_i n
  simp only at h
  split at h
  case h_2 => exact h.elim
  rename_i ks ds hz
  split at h
  case h_2 => exact h.elim
  rename_i k hk
  split at h
  case isFalse => exact h.elim
  rename_i hc
  obtain ⟨a, es, h1, D, e1, h5, h6⟩ := dc_of hW s hz
  unfold Rp at r2
  subst e1
  exact ⟨a, es, k, r2.2 a h1, D, ky_of hk r1, hc.1, hc.2.2, fun e he => List.all_eq_true.mp hc.2.1 e.1 (List.mem_map_of_mem he), h.ret s (by unfold Rp; rfl)⟩
theorem qt_ninD [Wo] (hW : Wo.ww = X.w) (hu : X.A.units + 200 < cLine) (ha : PE X a (tF X W fa)) (hb : PE X b (tF X W fb)) (hm : behindInMarks .NotIn b = false := by rfl) : PT X (.Compare a [.NotIn] [b] pos) (tT X W (fB (f2 gDnot fa fb))) :=
  PT.wk (pt_cmpR (op_ninD hu) ha hb hm) fun σ H Q h => two (ninD_v hW) (tF_of_fB h)
theorem q_dget [Wo] (hW : Wo.ww = X.w) (hu : X.A.units + 200 < cLine) (ho : PE X o (tF X W fo)) (hi : PE X i (tF X W fi)) (hs : NoSl i) : PE X (.Subscript o i pos) (tF X W (f2 gDget fo fi)) := by
  refine ⟨fun pins s σ H Q I h => ?_⟩
  obtain ⟨w, ρ, S, s0, en, h⟩ := h
  have h : End X.K X.mg (fun w H => Rp X.K X.mg w H) w H ((fo ρ S).bnd fun x S1 => (fi ρ S1).bnd fun y S2 => gDget x y S2) Q (fun c od H' => W c od σ H') := h
  refine subD_of PySem.F.slot_dict_getitem.lookup hs (thn (ho.run pins s σ H _ I ⟨w, ρ, S, s0, en, (End.bind (R := fun w H => Rp X.K X.mg w H) h).imp (fun _ _ z => z) (fun _ _ _ z => z)⟩) fun u s1 ⟨x, H1, I1, rx, w1, S1, d1, e1, st1, r1, h1⟩ => ?_)
  refine thn (hi.run pins s1 σ H1 _ I1 ⟨w1, ρ, S1, st1, en.ext e1, (End.bind (R := fun w H => Rp X.K X.mg w H) h1).imp (fun _ _ z => z) (fun _ _ _ z => z)⟩) fun iv s2 ⟨y, H2, I2, ry, w2, S2, d2, e2, st2, r2, h2⟩ => ?_
  have r1' := Rp.ext e2 d1 _ r1
  unfold gDget at h2
  cases d1 <;> try exact h2.elim
  rename_i n
  simp only at h2
  split at h2
  case h_2 => exact h2.elim
  rename_i ks ds hz
  split at h2
  case h_2 => exact h2.elim
  rename_i k hk
  split at h2
  case isFalse => exact h2.elim
  rename_i hc
  split at h2
  case h_2 => exact h2.elim
  rename_i d hd
  obtain ⟨a, es, h1', D, e1', h5, h6⟩ := dc_of hW st2 hz
  subst e1'
  unfold Rp at r1'
  obtain rfl : x = .ref a := r1'.2 a h1'
  obtain rfl : u = Value.ref a := rx
  obtain ⟨v, hv, rv⟩ := dAt_e h6 hd
  exact ⟨D.typeIs I2, n_get hu I2 D (ky_of hk r2) ry hc.2 hc.1 (fun hn => key_num hk r2 hn) hv fun w' s3 I3 rw' => ⟨v, H2, I3, rw', h2.ret st2 rv⟩⟩
theorem q_newD [Wo] (hW : Wo.ww = X.w) : PE X (.Dict [] [] pos) (tF X W fNewD) :=
  PE.wk pe_dnewN fun σ H Q ⟨w, ρ, S, s, en, h⟩ => by
    intro p np
    have st := s.newC (o := DctO X.w p []) (c := .dct [] []) np ⟨p, [], by show (w.φ ++ [some p])[w.φ.length]? = _; rw [List.getElem?_append_right (Nat.le_refl _), Nat.sub_self]; rfl, by rw [upd_same, hW], rfl, List.nodup_nil, fun x hx => (nomatch hx), RpL.nil⟩
    exact h _ _ _ (Ext.cell np) st (loc_new s.len)
theorem q_dput [Wo] (hW : Wo.ww = X.w) (hu : X.A.units + 200 < cLine) (ho : PE X o (tF X W fo)) (hi : PE X i (tF X W fi)) (hv : PE X value (tF X W fv)) (hs : swapsWith value (some (.Subscript o i pos')) pos.line X.env = pure false := by rfl) :
    PS X (.Assign [.Subscript o i pos'] value pos) (tS X W (sDput fo fi fv)) := by
  refine ⟨fun pins s σ H D I h => ?_⟩
  obtain ⟨w, ρ, S, s0, en, h⟩ := h
  unfold sDput at h
  refine wpAny_Assign_Subscript (thn (hv.run pins s σ H _ I ⟨w, ρ, S, s0, en, (h.of (R := fun w H => Rp X.K X.mg w H) en).imp (fun _ _ z => z) (fun _ _ _ z => z)⟩) fun r s1 ⟨y, H1, I1, rv, w1, S1, dy, e1, st1, r1, h1⟩ => ?_) hs
  refine thn (ho.run pins s1 σ H1 _ I1 ⟨w1, ρ, S1, st1, en.ext e1, (h1.of (R := fun w H => Rp X.K X.mg w H) (en.ext e1)).imp (fun _ _ z => z) (fun _ _ _ z => z)⟩) fun u s2 ⟨x, H2, I2, rx, w2, S2, dx, e2, st2, r2, h2⟩ => ?_
  have en2 := (en.ext e1).ext e2
  refine thn (hi.run pins s2 σ H2 _ I2 ⟨w2, ρ, S2, st2, en2, (h2.of (R := fun w H => Rp X.K X.mg w H) en2).imp (fun _ _ z => z) (fun _ _ _ z => z)⟩) fun iv s3 ⟨z, H3, I3, rz, w3, S3, dz, e3, st3, r3, h3⟩ => ?_
  have r2' := Rp.ext e3 dx _ r2
  have r1' := Rp.ext e3 dy _ (Rp.ext e2 dy _ r1)
  obtain ⟨n, rfl⟩ : ∃ n, dx = .loc n := by cases dx <;> first | exact ⟨_, rfl⟩ | exact h3.elim
  simp only at h3
  split at h3
  case h_2 => exact h3.elim
  rename_i ks ds hz
  split at h3
  case h_2 => exact h3.elim
  rename_i k hk
  split at h3
  case isFalse => exact h3.elim
  rename_i hc
  obtain ⟨a, es, ha, Dc, ek, h5, h6⟩ := dc_of hW st3 hz
  subst ek
  unfold Rp at r2'
  obtain rfl : x = .ref a := r2'.2 a ha
  obtain rfl : u = Value.ref a := rx
  have hn : n < S3.length := by
    rcases Nat.lt_or_ge n S3.length with z | z
    · exact z
    · rw [List.getElem?_eq_none z] at hz; cases hz
  have ex : Ext w3 H3 w3 (upd H3 a (DctO X.w a (es ++ [(k, z, y)]))) := Ext.write ha
  have st4 : Sto X.K X.mg w3 (S3.set n (.dct (es.map (·.1) ++ [k]) (ds ++ [dy]))) (upd H3 a (DctO X.w a (es ++ [(k, z, y)]))) := by
    refine st3.setC ha hn ⟨a, es ++ [(k, z, y)], ha, by rw [upd_same, hW], by rw [List.map_append]; rfl, ?_, fun q hq => ?_, ?_⟩
    · rw [List.nodup_append]
      refine ⟨Dc.nd, by simp, fun q hq r hr e => hc.2.2.2.1 ?_⟩
      have : r = k := by simpa using hr
      rw [← this, ← e]; exact hq
    · rcases List.mem_append.mp hq with hq | hq
      · obtain ⟨q1, d, q2, q3⟩ := h5 q hq
        exact ⟨q1, d, q2, Rp.ext ex _ _ q3⟩
      · have : q = (k, z, y) := by simpa using hq
        subst this
        exact ⟨hc.2.2.1, dz, hk, Rp.ext ex _ _ r3⟩
    · rw [List.map_append]
      exact (RpL.ext ex _ _ h6).append (RpL.one (Rp.ext ex _ _ r1'))
  exact n_put hu I3 Dc (ky_of hk r3) rz hc.1 hc.2.2.1 (fun e he => List.all_eq_true.mp hc.2.1 e.1 (List.mem_map_of_mem he)) hc.2.2.2.1 (by have := hc.2.2.2.2; simpa using this) rv fun s4 I4 => ⟨σ, _, I4, h3 w3 _ σ ex st4 ((en2.ext e3).ext ex)⟩
end
end Kw
namespace Kw
open PySem PySem.Spec PySem.Calls PyProof.Rows L2
/-- a dict that a comprehension lays at D -/
def tDcN (X : Cx) (wi : TI) (g : TG) (tt : TT) (tk tv : TE) (vs : List Nat) : TE := fun σ H Q => wi σ H fun J H1 => ∀ D, H1 D = none → D ≠ sysModules → ∃ W : Nat → Nat → Hp → Prop, (∃ m, W 0 m (upd H1 D (DctO X.w D []))) ∧ ∀ i m H, W i m H →
  (J.stop i H ∧ Q (.ref D) H) ∨ (J.go i H ∧ ∃ Nx : Hp → Prop, (∀ H', Nx H' → ∃ m', m' < m ∧ W (i + 1) m' H') ∧ ∀ x H', J.yld i H x H' → g x (wipe σ vs) H' fun σ2 H2 => wipe σ2 vs = wipe σ vs ∧ tt σ2 H2 fun b H3 =>
    if b = true then tk σ2 H3 fun y H4 => tv σ2 H4 fun z H5 => ∃ es k, DcH X H5 D es ∧ KyH X.prog X.w X.K H5 k y ∧ k.depth ≤ 8 ∧ hom (k :: es.map (·.1)) = true ∧ (isNumK k = true → y = .int (numK k)) ∧ k ∉ es.map (·.1) ∧ es.length < sizeLine ∧ Nx (upd H5 D (DctO X.w D (es ++ [(k, y, z)]))) else Nx H3)
theorem pe_dcN {X : Cx} {kx vx tg iter : Expr} {ifs : List Expr} {scope : Scope} {own : List (Str × Nat)} {pos : Pos} {wi : TI} {g : TG} {tt : TT} {tk tv : TE} (hu : X.A.units + 200 < cLine) (hc : X.calm = true) (hN : X.N.Nodup) (hi : PI X tg iter wi) (ok : BlkOk X.N X.env.scope scope own)
    (hg : ∀ (s : Shared) (H : Hp) (C : Addr) (cl : List (Str × Addr)) (fp : List Addr), PG (X.blk s H scope (compEnvC scope cl C X.env) fp) tg g) (ht : ∀ (s : Shared) (H : Hp) (C : Addr) (cl : List (Str × Addr)) (fp : List Addr), PTs (X.blk s H scope (compEnvC scope cl C X.env) fp) ifs tt)
    (hk : ∀ (s : Shared) (H : Hp) (C : Addr) (cl : List (Str × Addr)) (fp : List Addr), PE (X.blk s H scope (compEnvC scope cl C X.env) fp) kx tk) (hv : ∀ (s : Shared) (H : Hp) (C : Addr) (cl : List (Str × Addr)) (fp : List Addr), PE (X.blk s H scope (compEnvC scope cl C X.env) fp) vx tv)
    (hs : ∀ x, foldedSetIterable iter X.env x = pure x := by intro _; rfl) : PE X (.DictComp kx vx [⟨tg, iter, ifs, 0⟩] scope pos) (tDcN X wi g tt tk tv (own.map (·.2))) := by
  refine ⟨fun pins s σ H Q I h => ?_⟩
  rw [arm_eval_DictComp]
  have hfree : ∀ y ∈ scope.names, y.2 = .free → ∃ c, X.env.cells.lookup y.1 = some c := fun y hy e => by
    rcases ok.free y hy e with k | k
    · exact I.ok.has _ (.inl k)
    · exact I.ok.has _ (.inr k)
  refine wpAny_comprehension_free rfl hs (closure_ok hfree) ok.kind (fun y hy e => by rw [ok.uniq y hy, e])
    (thn (hi.run pins s σ H _ I h) fun xv s1 hx => thn hx fun itv s2 h2 => ?_)
  obtain ⟨it, fp, tn, J, H2, e, I2, T, st2, f2, q⟩ := h2
  subst e
  refine wpAny_newObj_type (newEnv_comp ?_)
  have hbig := I2.big
  generalize hD : s2.heap.objs.size = D at hbig
  have hDn : H2 D = none := I2.hok.fresh (Nat.le_of_eq hD)
  obtain ⟨W, ⟨m0, w0⟩, turn⟩ := q D hDn (Ne.symm (Nat.ne_of_lt hbig))
  generalize hs3 : ({ s2 with heap := s2.heap.push { cls := .type "dict", data := .dict #[] } } : Shared) = s3
  have I3 : Inv X pins σ (upd H2 D (DctO X.w D [])) s3 := by
    rw [← hs3]
    refine I2.laid (t' := s2.toks) (fun b o e => Heap.get?_push_of_some _ e) (Nat.le_of_eq hD) ?_
    rw [← hD]
    exact dct_ok (dct_new I2.big)
  have h3 : s3.heap = s2.heap.push { cls := .type "dict", data := .dict #[] } := by rw [← hs3]
  have sz : ∀ b ∈ fp, b < s2.heap.objs.size := fun b hb => by
    obtain ⟨o, e, _⟩ := T.obj _ _ st2 b hb
    exact Heap.lt_size e
  have f3 : ∀ b ∈ fp, FpOk X pins (upd H2 D (DctO X.w D [])) b ∧ b < s3.heap.objs.size := fun b hb => by
    have hlt := sz b hb
    refine ⟨⟨?_, (f2 b hb).2⟩, by rw [h3, Heap.size_push]; exact Nat.lt_succ_of_lt hlt⟩
    rw [upd_ne (by rw [← hD]; exact Nat.ne_of_lt hlt)]
    exact (f2 b hb).1
  have st3 : tn 0 s3.heap := T.keep _ _ _ st2 fun b _ o e => by rw [h3]; exact Heap.get?_push_of_some _ e
  have I4 := block_start I3 ok hN f3
  generalize hcl : cellsFrom (s3.heap.objs.size + 1) scope.names (cloFrom X.env.cells scope.names []) = cls at I4
  have pg := hg s3 (upd H2 D (DctO X.w D [])) s3.heap.objs.size cls fp
  have pt := ht s3 (upd H2 D (DctO X.w D [])) s3.heap.objs.size cls fp
  have pk := hk s3 (upd H2 D (DctO X.w D [])) s3.heap.objs.size cls fp
  have pv := hv s3 (upd H2 D (DctO X.w D [])) s3.heap.objs.size cls fp
  have nfp : ∀ b ∈ fp, (upd H2 D (DctO X.w D [])) b = none := fun b hb => (f3 b hb).1.1
  show codeAny _ _ (.compStart (.DictComp kx vx [⟨tg, iter, ifs, 0⟩] scope pos) 0 (.ref it) (.ref D) (compEnvC scope cls s3.heap.objs.size X.env)) _ { s3 with heap := pushCells (s3.heap.push { cls := .type "dict", data := .dict #[] }) scope.names }
  generalize hce : compEnvC scope cls s3.heap.objs.size X.env = ce at I4 pg pt pk pv ⊢
  have cL : ce.locals = s3.heap.objs.size := by subst hce; rfl
  generalize hH3 : upd H2 D (DctO X.w D []) = H3 at I3 I4 pg pt pk pv w0 nfp f3
  generalize hs4 : ({ s3 with heap := pushCells (s3.heap.push { cls := .type "dict", data := .dict #[] }) scope.names } : Shared) = s4 at I4 ⊢
  have st4 : tn 0 s4.heap := T.keep _ _ _ st3 fun b _ o e => by rw [← hs4]; exact pushCells_keeps _ _ _ _ (Heap.get?_push_of_some _ e)
  have stat : ∀ {σ' : L2.St} {H' : Hp} {s' : Shared}, Inv (X.blk s3 H3 scope ce fp) [] σ' H' s' → (∀ b ∈ fp, H' b = none) → ∀ b ∈ fp, FpOk (X.blk s3 H3 scope ce fp) [] H' b := fun {σ' H' s'} I' hn b hb =>
    ⟨hn b hb, (I'.ok.exf b hb).1, I'.ok.exfs b hb, .inl hb, fun x c e => (I'.ok.exf b hb).2 x c e, fun p hp => absurd (show p ∈ ([] : List (Addr × Obj)) ++ [] from hp) (by simp)⟩
  refine codeAny_compStart_dict ?loop (T.self X.A 0 _ _ _ st4 ?loop)
  refine compLoop_anyD (fun n s' => ∃ i H', Inv (X.blk s3 H3 scope ce fp) [] (wipe σ (own.map (·.2))) H' s' ∧ tn i s'.heap ∧ (∀ b ∈ fp, H' b = none) ∧ W i n H') ?_ m0 ⟨0, H3, I4, st4, nfp, w0⟩
  rintro n s5 ⟨i, H5, I5, st5, n5, w5⟩
  rcases turn i n H5 w5 with ⟨stop, qq⟩ | ⟨go, Nx, hNx, step⟩
  · have td := T.done (X.blk s3 H3 scope ce fp) rfl rfl rfl hc i [] s5 _ H5 (fun _ _ => False) I5 (stat I5 n5) st5 stop
    refine thnF td fun r s6 ⟨hr, I6⟩ => ?_
    subst hr
    have I7 : Inv X pins σ H5 s6 := I3.call' (ch := fp) I6.os I6.base I6.hok I6.bare fun b hb => ⟨(f3 b hb).1.2.2.2.1, (f3 b hb).1.2.1, (f3 b hb).1.2.2.2.2.1, (f3 b hb).1.2.2.2.2.2⟩
    have nC : H5 s3.heap.objs.size = none := by
      have z : H5 ce.locals = none := I6.free
      rw [cL] at z
      exact z
    obtain ⟨m, hn, _⟩ := I6.loc
    have hn : s6.heap.Ns ce.locals m := hn
    rw [cL] at hn
    refine ⟨m, hn, fun h'' sb => ?_⟩
    obtain ⟨f0, f1, f2', f3', f4, f5⟩ := I3.fpOk (Nat.le_refl _) nC
    exact ⟨.ref D, H5, I7.turned (t' := s6.toks) (fun b o hb e => (sb.2 b hb).trans e) f0 f1 f3' f4 f5, rfl, qq⟩
  · have ti := T.item (X.blk s3 H3 scope ce fp) rfl rfl rfl hc i [] s5 _ H5 (fun _ _ => False) I5 (stat I5 n5) st5 go
    refine thnF ti fun r s6 ⟨u, hr, h6⟩ => ?_
    subst hr
    refine thnF h6 fun _ s7 ⟨x, H7, I7, r7, y7, st7, n7⟩ => ?_
    have I7' := I7.pinned (stat I7 n7) (T.obj _ _ st7)
    refine thnF (pg.run _ s7 _ H7 x u _ I7' r7 (step x H7 y7)) fun _ s8 ⟨σ8, H8, I8, hw8, q8⟩ => ?_
    refine thnF (pt.run _ s8 σ8 H8 _ I8 q8) fun b s9 ⟨H9, I9, q9⟩ => ?_
    have fin : ∀ {s' : Shared} {H' : Hp}, Inv (X.blk s3 H3 scope ce fp) ([] ++ pinsAt fp s7.heap) σ8 H' s' → Nx H' → ∃ m, m < n ∧ ∃ i H', Inv (X.blk s3 H3 scope ce fp) [] (wipe σ (own.map (·.2))) H' s' ∧ tn i s'.heap ∧ (∀ b ∈ fp, H' b = none) ∧ W i m H' := fun {s' H'} I' nx => by
      obtain ⟨m', hm, w'⟩ := hNx H' nx
      have pin' : ∀ b ∈ fp, ∀ o, s7.heap.get? b = some o → s'.heap.get? b = some o ∧ H' b = none := fun b hb o e =>
        let z := I'.pin (b, o) (List.mem_append_right _ (List.mem_append_right _ (mem_pinsAt hb e)))
        ⟨z.1, z.2.1⟩
      have hl : (wipe σ (own.map (·.2))).length = σ8.length := by rw [← hw8, wipe_length]
      refine ⟨m', hm, i + 1, H', (I'.unpinned (pins := [])).weak hl (fun j v e => ?_), T.keep _ _ _ st7 fun b hb o e => (pin' b hb o e).1, fun b hb => ?_, w'⟩
      · rw [← hw8] at e
        exact (wipe_some e).1
      · obtain ⟨o, e, _⟩ := T.obj _ _ st7 b hb
        exact (pin' b hb o e).2
    cases b with
    | false =>
      simp only [Bool.false_eq_true, if_false] at q9 ⊢
      exact fin I9 q9
    | true =>
      simp only [if_true] at q9 ⊢
      refine thnF (pk.run _ s9 σ8 H9 _ I9 q9) fun z s10 ⟨yk, H10, I10, r10, q10⟩ => ?_
      refine thnF (pv.run _ s10 σ8 H10 _ I10 q10) fun z2 s11 ⟨yv, H11, I11, r11, es, k, Dc, ky, dk, ho, nk, hn, hz, nx⟩ => ?_
      exact n_set (X := X.blk s3 H3 scope ce fp) (A := X.A) hu I11 ⟨Dc.at_, Dc.ky, Dc.dp, Dc.nk, Dc.nd⟩ ky r10 dk ho nk hn hz r11 fun s12 I12 => fin I12 nx
section
variable {K : PySem.W.Frag} {mg : Str → Option Value} {w : Wd} {H : Hp} {S : Store}
theorem Sto.pokeN [Wo] {C : Addr} {o : HO} (s : Sto K mg w S H) (hC : C ∈ w.hd) (hne : C ≠ sysModules) : Sto K mg w S (upd H C o) := by
  have m : Mv w H w (upd H C o) := Mv.poke hC
  refine ⟨s.len, s.nd, fun a ha => ⟨upd_some (s.ap a ha).1, (s.ap a ha).2⟩, fun n c hc => ?_⟩
  have c0 := s.cell n c hc
  have ne : ∀ a, w.φ[n]? = some (some a) → upd H C o a = H a := fun a ha => upd_ne fun z => by subst z; exact (s.ap a hC).2 (List.mem_of_getElem? ha)
  unfold CellR at c0 ⊢
  split at c0
  · obtain ⟨b, xs, h2, h3, h4⟩ := c0; exact ⟨b, xs, h2, (ne b h2).trans h3, RpL.mv m _ _ h4⟩
  · obtain ⟨b, xs, o', h2, h3, h4⟩ := c0; exact ⟨b, xs, o', h2, (ne b h2).trans h3, RpL.mv m _ _ h4⟩
  · exact c0
  · obtain ⟨c1, P, ht, t1, t2⟩ := c0; exact ⟨c1, P, ht, t1, TabW.mv m (ne _ t1) t2⟩
  · obtain ⟨h1, h2, h3, ⟨φ, h4, h6⟩, h5⟩ := c0
    exact ⟨h1, h2, h3, ⟨φ, (upd_ne (Ne.symm hne)).trans h4, h6⟩, h5⟩
  · exact ⟨c0.1, EnvR.mv m c0.2⟩
  · obtain ⟨b, C1, dx, vs, h2, h3, h4, h5, h6⟩ := c0; exact ⟨b, C1, dx, vs, h2, h3, (ne b h2).trans h4, h5, RpL.mv m _ _ h6⟩
  · obtain ⟨b, es, h2, h3, h4, h5, h6, h7⟩ := c0; exact ⟨b, es, h2, (ne b h2).trans h3, h4, h5, dct_mv m h6, RpL.mv m _ _ h7⟩
/-- what was hidden becomes a cell -/
theorem Sto.bare [Wo] {C : Addr} {h0 : List Addr} {c : Cell} (s : Sto K mg w S H) (e : w.hd = C :: h0) (hnh : C ∉ h0) (hne : C ≠ sysModules) :
    Mv w H ⟨w.φ ++ [some C], h0⟩ H ∧ (CellR K mg ⟨w.φ ++ [some C], h0⟩ H c w.φ.length → Sto K mg ⟨w.φ ++ [some C], h0⟩ (S ++ [c]) H) := by
  have hCin : C ∈ w.hd := by rw [e]; exact List.mem_cons_self
  have hout : some C ∉ w.φ := (s.ap C hCin).2
  have ph : ∀ (n : Nat) a, (w.φ ++ [some C])[n]? = some (some a) → (w.φ[n]? = some (some a) ∧ n < w.φ.length) ∨ (n = w.φ.length ∧ a = C) := fun n a hk => by
    by_cases hl : n < w.φ.length
    · rw [List.getElem?_append_left hl] at hk; exact .inl ⟨hk, hl⟩
    · have hl' : w.φ.length ≤ n := Nat.le_of_not_lt hl
      rw [List.getElem?_append_right hl'] at hk
      have : n - w.φ.length = 0 := by
        cases e : n - w.φ.length with
        | zero => rfl
        | succ j => rw [e] at hk; simp at hk
      rw [this] at hk; simp at hk
      exact .inr ⟨by omega, hk.symm⟩
  have m : Mv w H ⟨w.φ ++ [some C], h0⟩ H := ⟨fun a o h n => by
    have hn : a ≠ C := fun z => by subst z; exact n.2 hCin
    refine ⟨h, fun z => ?_, fun z => n.2 (by rw [e]; exact List.mem_cons_of_mem _ z)⟩
    rcases List.mem_append.mp (show some a ∈ w.φ ++ [some C] from z) with z | z
    · exact n.1 z
    · simp at z; exact hn z, by show _ ≤ (w.φ ++ [some C]).length; rw [List.length_append]; omega, fun n a h l => by
    rcases ph n a h with z | z
    · exact z.1
    · omega⟩
  refine ⟨m, fun hcell => ⟨by show (w.φ ++ [some C]).length = _; rw [List.length_append, List.length_append, s.len]; rfl, fun i j a q1 q2 => ?_, fun a ha => ?_, fun n cc hc => ?_⟩⟩
  · rcases ph i a q1 with ⟨z1, z2⟩ | ⟨z1, z2⟩ <;> rcases ph j a q2 with ⟨y1, y2⟩ | ⟨y1, y2⟩
    · exact s.nd i j a z1 y1
    · subst y2; exact absurd (List.mem_of_getElem? z1) hout
    · subst z2; exact absurd (List.mem_of_getElem? y1) hout
    · omega
  · have ha' : a ∈ w.hd := by rw [e]; exact List.mem_cons_of_mem _ ha
    refine ⟨(s.ap a ha').1, fun z => ?_⟩
    rcases List.mem_append.mp (show some a ∈ w.φ ++ [some C] from z) with z | z
    · exact (s.ap a ha').2 z
    · simp at z; subst z; exact hnh ha
  · by_cases hl : n < S.length
    · rw [List.getElem?_append_left hl] at hc
      have c0 := s.cell n cc hc
      have gl : (w.φ ++ [some C])[n]? = w.φ[n]? := List.getElem?_append_left (s.len ▸ hl)
      unfold CellR at c0 ⊢
      split at c0
      · obtain ⟨b, ys, h2, h3, h4⟩ := c0; exact ⟨b, ys, gl.trans h2, h3, RpL.mv m _ _ h4⟩
      · obtain ⟨b, ys, o', h2, h3, h4⟩ := c0; exact ⟨b, ys, o', gl.trans h2, h3, RpL.mv m _ _ h4⟩
      · exact gl.trans c0
      · obtain ⟨c1, P, ht, t1, t2⟩ := c0; exact ⟨c1, P, ht, gl.trans t1, TabW.mv m rfl t2⟩
      · obtain ⟨y1, y2, y3, ⟨φ, y4, y6⟩, y5⟩ := c0
        refine ⟨gl.trans y1, ?_, fun z => ?_, ⟨φ, y4, y6⟩, y5⟩
        · rw [e] at y2
          rcases List.mem_cons.mp y2 with z | z
          · exact absurd z.symm hne
          · exact z
        · rcases List.mem_append.mp (show some sysModules ∈ w.φ ++ [some C] from z) with z | z
          · exact y3 z
          · simp at z; exact hne z.symm
      · exact ⟨gl.trans c0.1, EnvR.mv m c0.2⟩
      · obtain ⟨b, C1, dx, vs', h2, h3, h4, h5, h6⟩ := c0; exact ⟨b, C1, dx, vs', gl.trans h2, h3, h4, h5, RpL.mv m _ _ h6⟩
      · obtain ⟨b, es, h2, h3, h4, h5, h6, h7⟩ := c0; exact ⟨b, es, gl.trans h2, h3, h4, h5, dct_mv m h6, RpL.mv m _ _ h7⟩
    · have hl' : S.length ≤ n := Nat.le_of_not_lt hl
      rw [List.getElem?_append_right hl'] at hc
      have e0 : n - S.length = 0 := by
        cases e : n - S.length with
        | zero => rfl
        | succ j => rw [e] at hc; simp at hc
      rw [e0] at hc; simp at hc; subst hc
      have en' : n = w.φ.length := by rw [s.len]; omega
      subst en'
      exact hcell
end
noncomputable def dctL (tg : FG) (fk fv : FE) (g : Option (Nat × List D)) (ρ : FEnv) : List D → List NestedKey → List D → Store → RE (List NestedKey × List D)
  | [], ks, ds, S => gchk g S (.ok (ks, ds) S) .no
  | d :: r, ks, ds, S => gchk g S (match tg d ρ S with
    | some (ρ1, S1) => (match fk ρ1 S1 with
      | .ok y S2 => (match fv ρ1 S2 with
        | .ok z S3 => (match keyOf y with
          | some k => if k.depth ≤ 8 ∧ hom (k :: ks) = true ∧ k ∉ ks ∧ ks.length < sizeLine then dctL tg fk fv g ρ r (ks ++ [k]) (ds ++ [z]) S3 else .no
          | none => .no)
        | _ => .no)
      | _ => .no)
    | none => .no) .no
def dctFin : RE (List NestedKey × List D) → RE D
  | .ok p S => .ok (.loc S.length) (S ++ [.dct p.1 p.2])
  | _ => .no
noncomputable def fDc (fi : FI) (tg : FG) (fk fv : FE) (vs : List Nat) : FE := fun ρ S => (fi ρ S).bnd fun p S1 => dctFin (dctL tg fk fv p.2 (wipeR ρ vs) p.1 [] [] S1)
section
variable {X : Cx} {W : WX} {kx vx tg iter : Expr} {scope : Scope} {own : List (Str × Nat)} {pos : Pos} {fi : FI} {g : FG} {sl : List Nat} {fk fv : FE}
theorem dc_core [Wo] (hW : Wo.ww = X.w) {σ : L2.St} {H : Hp} {Q : VK} {vs : List Nat} (hsl : ∀ i ∈ sl, i ∈ vs) (h : tF X W (fDc fi g fk fv vs) σ H Q) : tDcN X (tI X W fi) (tG X sl g) (tT X W0 fYes) (tF X W0 fk) (tF X W0 fv) vs σ H Q := by
  obtain ⟨w, ρ, S, s, en, h⟩ := h
  refine ⟨w, ρ, S, s, en, (End.bind (R := ItOk X.K X.mg) h).imp ?_ (fun _ _ _ z => z)⟩
  rintro J H1 ⟨w1, S1, ⟨items, gu⟩, e1, s1, J1, h1⟩ C hC hne
  have enw : EnvR X.K X.mg w1 H1 (wipeR ρ vs) (wipe σ vs) := (en.ext e1).wipe vs
  have h1' : End X.K X.mg (fun w H => Rp X.K X.mg w H) w1 H1 (dctFin (dctL g fk fv gu (wipeR ρ vs) items [] [] S1)) Q (fun c od H' => W c od σ H') := h1
  let G : Hp → List NestedKey → List D → Store → RE (List NestedKey × List D) → Prop := fun H' ks ds S' r => ∃ w' es, ExtD C w1 H1 w' H' ∧ Sto X.K X.mg w' S' H' ∧ H' C = some (DctO X.w C es) ∧ es.map (·.1) = ks ∧ (∀ x ∈ es, x.1.depth ≤ 8 ∧ ∃ d, keyOf d = some x.1 ∧ Rp X.K X.mg w' H' d x.2.1) ∧ ks.Nodup ∧ RpL X.K X.mg w' H' ds (es.map (·.2.2)) ∧ ∃ r0, dctFin r = r0 ∧ End X.K X.mg (fun w H => Rp X.K X.mg w H) w1 H1 r0 Q (fun c od H' => W c od σ H')
  refine ⟨fun i m H' => ∃ ks ds S', i + m = items.length ∧ G H' ks ds S' (dctL g fk fv gu (wipeR ρ vs) (items.drop i) ks ds S'), ⟨items.length, [], [], S1, by omega, ⟨w1.φ, C :: w1.hd⟩, [], ExtD.begin_ hC, s1.mvd hC, upd_same, rfl, fun x hx => (nomatch hx), List.nodup_nil, RpL.nil, _, rfl, h1'⟩, ?_⟩
  rintro i m H' ⟨ks, ds, S', hm, w', es, ed, s', hx, ek, hky, hnd, ra, r0, hr0, he⟩
  have hCin : C ∈ w'.hd := by rw [ed.hd]; exact List.mem_cons_self
  have no_end : ∀ {r : RE D}, r = .no → End X.K X.mg (fun w H => Rp X.K X.mg w H) w1 H1 r Q (fun c od H' => W c od σ H') → False := fun e h => by rw [e] at h; exact h
  cases hd : items.drop i with
  | nil =>
    rw [hd] at hr0
    unfold dctL gchk at hr0
    split at hr0
    · rename_i gd1
      have hl : items.length ≤ i := List.drop_eq_nil_iff.mp hd
      refine .inl ⟨(J1 w' S' H' ed.mv s' gd1).1 i hl, ?_⟩
      have hnh : C ∉ w1.hd := fun z => (s1.ap C z).1 hC
      obtain ⟨mv2, mk⟩ := s'.bare (c := .dct ks ds) ed.hd hnh hne
      have cell : CellR X.K X.mg ⟨w'.φ ++ [some C], w1.hd⟩ H' (.dct ks ds) w'.φ.length := ⟨C, es, by show (w'.φ ++ [some C])[w'.φ.length]? = _; rw [List.getElem?_append_right (Nat.le_refl _), Nat.sub_self]; rfl, by rw [hW]; exact hx, ek, hnd, dct_mv mv2 hky, RpL.mv mv2 _ _ ra⟩
      have ex2 : Ext w1 H1 ⟨w'.φ ++ [some C], w1.hd⟩ H' := ⟨ed.done.fr, Nat.le_trans ed.ln mv2.ln, fun n a h l => by
        have ll := ed.ln
        have h' : (w'.φ ++ [some C])[n]? = some (some a) := h
        rw [List.getElem?_append_left (by omega)] at h'
        exact ed.ph n a h' l, fun a h => by
        rcases List.mem_append.mp (show some a ∈ w'.φ ++ [some C] from h) with z | z
        · exact ed.nw a z
        · simp at z; subst z; exact .inr hC, rfl⟩
      subst hr0
      have rl : Rp X.K X.mg ⟨w'.φ ++ [some C], w1.hd⟩ H' (.loc S'.length) (.ref C) := by
        unfold Rp
        refine ⟨by show S'.length < (w'.φ ++ [some C]).length; rw [List.length_append, s'.len]; exact Nat.lt_succ_self _, fun a ha => ?_⟩
        have ha' : (w'.φ ++ [some C])[S'.length]? = some (some a) := ha
        rw [← s'.len, List.getElem?_append_right (Nat.le_refl _), Nat.sub_self] at ha'
        simp at ha'; rw [ha']
      exact he ⟨w'.φ ++ [some C], w1.hd⟩ H' (.ref C) ex2 (mk cell) rl
    · exact (no_end hr0.symm he).elim
  | cons d r =>
    rw [hd] at hr0
    unfold dctL gchk at hr0
    split at hr0
    · rename_i gd1
      have hi' : items[i]? = some d := by
        have := congrArg (·[0]?) hd
        simpa using this
      have hr : items.drop (i + 1) = r := by
        have := congrArg List.tail hd
        simpa using this
      have hlt : i < items.length := (List.getElem?_eq_some_iff.mp hi').1
      obtain ⟨j1, j2⟩ := (J1 w' S' H' ed.mv s' gd1).2 i d hi'
      refine .inr ⟨j1, fun H2 => ∃ ks2 ds2 S2, G H2 ks2 ds2 S2 (dctL g fk fv gu (wipeR ρ vs) r ks2 ds2 S2), fun H2 ⟨ks2, ds2, S2, z⟩ => ⟨m - 1, by omega, ks2, ds2, S2, by omega, by rw [hr]; exact z⟩, ?_⟩
      intro x H'' hy
      obtain ⟨j3, j4, j5⟩ := j2 x H'' hy
      have enw' : EnvR X.K X.mg w' H'' (wipeR ρ vs) (wipe σ vs) := (enw.mv ed.mv).ext j3
      refine ⟨w', wipeR ρ vs, S', d, j4, enw', j5, ?_⟩
      split at hr0
      · rename_i ρ1 S1' hg1
        rw [hg1]
        intro w2 H2 σ2 e2 s2 en2 k2 l2
        have hw : wipe σ2 vs = wipe σ vs := by
          rw [← wipe_wipe σ vs]
          exact wipe_eq l2 fun i hi => k2 i (fun z => hi (hsl i z))
        refine ⟨hw, w2, ρ1, S1', s2, en2, ?_⟩
        have ed2 : ExtD C w1 H1 w2 H2 := (ed.step j3).step e2
        intro w3 H3 b e3 s3 hb
        cases hb
        rw [if_pos rfl]
        refine ⟨w3, ρ1, S1', s3, en2.ext e3, ?_⟩
        split at hr0
        · rename_i y S2' hy'
          rw [hy']
          intro w4 H4 u e4 s4 r4
          refine ⟨w4, ρ1, S2', s4, (en2.ext e3).ext e4, ?_⟩
          split at hr0
          · rename_i z S3' hz'
            rw [hz']
            intro w5 H5 u2 e5 s5 r5
            have ed5 : ExtD C w1 H1 w5 H5 := (((ed2.step e3).step e4)).step e5
            have hC5 : C ∈ w5.hd := by rw [ed5.hd]; exact List.mem_cons_self
            have exx : Ext w' H' w5 H5 := (((j3.trans e2).trans e3).trans e4).trans e5
            have hx5 : H5 C = some (DctO X.w C es) := exx.fr C _ hx (s'.ap C hCin).2
            have ra5 := RpL.ext exx _ _ ra
            have ky5 : ∀ x ∈ es, x.1.depth ≤ 8 ∧ ∃ d, keyOf d = some x.1 ∧ Rp X.K X.mg w5 H5 d x.2.1 := fun x hx => ⟨(hky x hx).1, let ⟨d, q1, q2⟩ := (hky x hx).2; ⟨d, q1, Rp.ext exx _ _ q2⟩⟩
            have r4' := Rp.ext e5 _ _ r4
            split at hr0
            · rename_i k hk
              split at hr0
              · rename_i hc
                subst ek
                have pk := Mv.poke (H := H5) (o := DctO X.w C (es ++ [(k, u, u2)])) hC5
                refine ⟨es, k, dc_mk hx5 ky5 hnd, ky_of hk r4', hc.1, hc.2.1, fun hn => key_num hk r4 hn, hc.2.2.1, by have := hc.2.2.2; simpa using this, es.map (·.1) ++ [k], ds ++ [z], S3', w5, es ++ [(k, u, u2)], ed5.poke, s5.pokeN hC5 hne, upd_same, by rw [List.map_append]; rfl, fun q hq => ?_, ?_, ?_, _, hr0, he⟩
                · rcases List.mem_append.mp hq with hq | hq
                  · exact dct_mv pk ky5 q hq
                  · have : q = (k, u, u2) := by simpa using hq
                    subst this
                    exact ⟨hc.1, y, hk, Rp.mv pk _ _ r4'⟩
                · rw [List.nodup_append]
                  refine ⟨hnd, by simp, fun q hq r hr e => hc.2.2.1 ?_⟩
                  have : r = k := by simpa using hr
                  rw [← this, ← e]; exact hq
                · rw [List.map_append]
                  exact (RpL.mv pk _ _ ra5).append (RpL.one (Rp.mv pk _ _ r5))
              · exact (no_end hr0.symm he).elim
            · exact (no_end hr0.symm he).elim
          · exact (no_end hr0.symm he).elim
        · exact (no_end hr0.symm he).elim
      · exact (no_end hr0.symm he).elim
    · exact (no_end hr0.symm he).elim
theorem q_dc [Wo] (hW : Wo.ww = X.w) (hu : X.A.units + 200 < cLine) (hc : X.calm = true) (hN : X.N.Nodup) (hi : PI X tg iter (tI X W fi)) (ok : BlkOk X.N X.env.scope scope own) (hsl : ∀ i ∈ sl, i ∈ own.map (·.2))
    (hg : ∀ (s : Shared) (H : Hp) (C : Addr) (cl : List (Str × Addr)) (fp : List Addr), PG (X.blk s H scope (compEnvC scope cl C X.env) fp) tg (tG (X.blk s H scope (compEnvC scope cl C X.env) fp) sl g)) (ht : ∀ (s : Shared) (H : Hp) (C : Addr) (cl : List (Str × Addr)) (fp : List Addr), PTs (X.blk s H scope (compEnvC scope cl C X.env) fp) [] (tT (X.blk s H scope (compEnvC scope cl C X.env) fp) W0 fYes))
    (hk : ∀ (s : Shared) (H : Hp) (C : Addr) (cl : List (Str × Addr)) (fp : List Addr), PE (X.blk s H scope (compEnvC scope cl C X.env) fp) kx (tF (X.blk s H scope (compEnvC scope cl C X.env) fp) W0 fk)) (hv : ∀ (s : Shared) (H : Hp) (C : Addr) (cl : List (Str × Addr)) (fp : List Addr), PE (X.blk s H scope (compEnvC scope cl C X.env) fp) vx (tF (X.blk s H scope (compEnvC scope cl C X.env) fp) W0 fv))
    (hs : ∀ x, foldedSetIterable iter X.env x = pure x := by intro _; rfl) :
    PE X (.DictComp kx vx [⟨tg, iter, [], 0⟩] scope pos) (tF X W (fDc fi g fk fv (own.map (·.2)))) :=
  PE.wk (pe_dcN (g := tG X sl g) (tt := tT X W0 fYes) (tk := tF X W0 fk) (tv := tF X W0 fv) hu hc hN hi ok hg ht hk hv hs) fun σ H Q h => dc_core hW hsl h
end
/-- C(..), the cells that the making lays being kept -/
def mkR2 (c : Str) (F : FF) (ds : List D) (S1 : Store) : RE D := (F (.loc S1.length :: ds) (S1 ++ [.ob c [] []])).bnd fun r S2 => match r with
  | .non => (match S2[S1.length]? with
    | some (.ob c' fs' ds') => .ok (.ins c' fs' ds') (S2.set S1.length .dead)
    | _ => .no)
  | _ => .no
def fMk2 (c : Str) (F : FF) (fs : FA) : FE := fun ρ S => (fs ρ S).bnd (mkR2 c F)
section
variable {X : Cx} {W : WX} {e : Expr} {es : List Expr} {fs : FA} {pos p : Pos} {k : Nat}
theorem q_make2 [Wo] {c : Str} {F : FF} (C : CalM X.prog X.w X.K X.mg X.base k c "__init__" F) (M : MkC X.K X.mg c) (hr : RoomG (k + 1) X.A) (tk : Takes X W) (hg : Gl X c) (ha : PA X (e :: es) (tA X W fs)) (hdb : (c == ("__debug__" : Str)) = false := by decide)
    (he : starEach (e :: es) X.env = (false, eval e X.env) :: starEach es X.env := by rfl) (hpl : (backTo pos (starEach es X.env)).any (·.1) = false := by rfl) : PE X (.Call (.Name c p) (e :: es) [] pos) (tF X W (fMk2 c F fs)) := by
  obtain ⟨A1, a, fd, ps, hm, cl, me, Fn, bd, ar⟩ := C
  obtain ⟨A2, a2, hm2, mk⟩ := M
  rw [hm] at hm2; cases hm2
  have ea : a2 = a := by
    have z := mk.init.symm.trans me.at_
    simpa using z
  subst ea
  refine ⟨fun pins s σ H Q I ⟨w, ρ, S, s0, en, h⟩ => ?_⟩
  refine wpAny_Call_Name_kw (ld_glob I hg hm ?_ hdb)
  refine PySem.W.callWith_K (h₀ := X.base) I.ok.mod.kin mk.kp (thn (ha.run pos pins s σ H (fun vs H1 => ∃ w1 S1 ds, Sto X.K X.mg w1 S1 H1 ∧ RpL X.K X.mg w1 H1 ds vs ∧ End X.K X.mg (fun w H => Rp X.K X.mg w H) w1 H1 (mkR2 c F ds S1) Q (WE W σ)) I
    ⟨w, ρ, S, s0, en, (End.bind (R := fun w H => RpL X.K X.mg w H) h).imp (fun vs H1 ⟨w1, S1, ds, e1, s1, r1, h1⟩ => ⟨w1, S1, ds, s1, r1, h1⟩) (fun _ _ _ z => z)⟩) fun us s1 ⟨vs, H1, I1, r, w1, S1, ds, st1, r1, h1⟩ => ⟨I1.kIn, ?_⟩) he hpl
  -- the object
  have nx : H1 (s1.heap.objs.size + 1) = none := I1.hok.fresh (Nat.le_succ _)
  have nd : H1 s1.heap.objs.size = none := I1.hok.fresh (Nat.le_refl _)
  have I2 := Inv.made (C := A1) I1
  have stB := st1.beside (o := .own (s1.heap.objs.size + 1)) nd
  have nx2 : upd H1 s1.heap.objs.size (.own (s1.heap.objs.size + 1)) (s1.heap.objs.size + 1) = none := by
    rw [upd_ne (Nat.succ_ne_self _)]; exact nx
  have st2 := stB.obNew (C := A1) (dx := s1.heap.objs.size) (c := c) nx2 hm
  have ex1 : Ext w1 H1 w1 (upd H1 s1.heap.objs.size (.own (s1.heap.objs.size + 1))) := Ext.new nd
  have ex2 : Ext w1 (upd H1 s1.heap.objs.size (.own (s1.heap.objs.size + 1))) ⟨w1.φ ++ [some (s1.heap.objs.size + 1)], w1.hd⟩ (upd (upd H1 s1.heap.objs.size (.own (s1.heap.objs.size + 1))) (s1.heap.objs.size + 1) (.ins A1 s1.heap.objs.size [])) := Ext.cell nx2
  have h2 := End.on (ex1.trans ex2) h1
  have hsp : spF X.K X.mg ps.length F (.ref (s1.heap.objs.size + 1) :: vs) (upd (upd H1 s1.heap.objs.size (.own (s1.heap.objs.size + 1))) (s1.heap.objs.size + 1) (.ins A1 s1.heap.objs.size [])) (fun v H' => v = .non ∧ Q (.ref (s1.heap.objs.size + 1)) H') (WE W σ) := by
    refine ⟨_, _, .loc S1.length :: ds, st2, RpL.cons ?_ (RpL.ext (ex1.trans ex2) _ _ r1), ?_, ?_⟩
    · unfold Rp
      refine ⟨by show S1.length < (w1.φ ++ [some (s1.heap.objs.size + 1)]).length; rw [List.length_append, st1.len]; exact Nat.lt_succ_self _, fun a ha => ?_⟩
      have ha' : (w1.φ ++ [some (s1.heap.objs.size + 1)])[S1.length]? = some (some a) := ha
      rw [← st1.len, List.getElem?_append_right (Nat.le_refl _), Nat.sub_self] at ha'
      simp at ha'; rw [ha']
    · apply Classical.byContradiction
      intro hn
      have : mkR2 c F ds S1 = .no := by
        unfold mkR2
        rw [ar _ _ hn]; rfl
      rw [this] at h1
      exact h1
    · refine (End.bind (R := fun w H => Rp X.K X.mg w H) h2).imp ?_ (fun _ _ _ z => z)
      rintro v H' ⟨w3, S3, d3, e3, s3, r3, h3⟩
      cases d3 <;> try exact h3.elim
      unfold Rp at r3
      refine ⟨r3, ?_⟩
      simp only at h3
      split at h3
      case h_2 => exact h3.elim
      rename_i c' fs' ds' hz
      obtain ⟨b, C', dx, vs', hb1, hb2, hb3, hb4, hb5⟩ := s3.cell _ _ hz
      have hlt : S1.length < (w1.φ ++ [some (s1.heap.objs.size + 1)]).length := by rw [List.length_append, st1.len]; exact Nat.lt_succ_self _
      have hb6 := e3.ph _ _ hb1 hlt
      have hb7 : (w1.φ ++ [some (s1.heap.objs.size + 1)])[S1.length]? = some (some b) := hb6
      rw [← st1.len, List.getElem?_append_right (Nat.le_refl _), Nat.sub_self] at hb7
      simp at hb7
      rw [hb7]
      exact oz_at s3 hz hb1 h3
  have r2 : Vals (V.ref (s1.heap.objs.size + 1) :: vs) (Value.ref (s1.heap.objs.size + 1) :: us) := .cons rfl r
  have hl : (Value.ref (s1.heap.objs.size + 1) :: us).length = ps.length := by
    rw [← r2.length]; exact Fn.size _ _ _ _ hsp
  have hrm : RoomG k (X.A.under (.builtin "type.__call__" ⟨.ref A1 :: us, []⟩)) := ⟨hr.rm.make A1 us [], hr.gd⟩
  refine wpAny_call (make_map (f := a2) I1.kIn mk.makes mk.init (beq_iff_eq.mp mk.fn) (codeAny_mono (Fn.runs _ X.stack _ _ ⟨Value.ref (s1.heap.objs.size + 1) :: us, []⟩ (Value.ref (s1.heap.objs.size + 1) :: us) _ _ (WE W σ) hrm
    (I2.env0.make A1 us []) (binds0 (us := Value.ref (s1.heap.objs.size + 1) :: us) bd I2.kIn hl) r2 hsp) fun r s' hq' => ?_))
  cases r with
  | error e => exact passAt tk σ pins _ _ e s' I2 hq'
  | ok fl =>
    cases fl with
    | ret u =>
      obtain ⟨v, H', I3, rv, ev, q3⟩ := I2.after hq'
      subst ev
      exact ⟨rv, ⟨V.ref (s1.heap.objs.size + 1), H', I3, rfl, q3⟩⟩
    | next => exact False.elim hq'
    | brk => exact False.elim hq'
    | cont => exact False.elim hq'
end
end Kw
namespace Kw
open PySem PySem.Spec PySem.Calls PyProof.Rows L2
def rStrT (K : PySem.W.Frag) : List V → Hp → VK → Prop := fun xs H Q => ∃ a p b, xs = [.ref a] ∧ Rs K H b (.ref a) p ∧ okSh b p = true ∧ Q (.str p.shown) H
theorem call_strT {X : Cx} (hg : X.A.guards = some []) (hu : X.A.units + 200 < cLine) : CallR X (.type "str") (rStrT X.K) := by
  intro pins s σ H xs us Q I r h
  obtain ⟨a, p, b, rfl, hx, ok, q⟩ := h
  obtain ⟨u, rfl, ru⟩ := vals1 r
  simp only [okSh, Bool.and_eq_true, decide_eq_true_eq, Bool.or_eq_true, Bool.not_eq_true'] at ok
  obtain ⟨⟨⟨sh, dp⟩, sz⟩, nl⟩ := ok
  have sz' : p.shown.length ≤ sizeLine := by rw [sizeLine_eq]; exact sz
  obtain ⟨as, rd, ns⟩ := Rs.reads I p _ u hx ru
  obtain rfl : u = Value.ref a := ru
  exact str_of_reads (h₀ := s.heap) rd sh (fun z => ns (by
    rcases nl with (h1 | h1) | h1
    · rw [z] at h1; cases h1
    · exact .inl h1
    · exact .inr h1)) hg (by omega) (fun _ _ e => e) (fun h' t tk hk => ⟨.str _, H, I.kept hk, ⟨_, rfl⟩, q⟩) sz'
def gStrT (ds : List D) (S : Store) : RE D := match ds with
  | [.tup xs] => gRepr [.tup xs] S
  | _ => .no
theorem strT_v [Wo] {K : PySem.W.Frag} {mg : Str → Option Value} : CallV K mg (rStrT K) gStrT := by
  intro w S H vs ds Q E s r h
  unfold gStrT at h
  split at h
  · rename_i xs
    unfold gRepr at h
    simp only at h
    split at h
    · rename_i p hp
      split at h
      · rename_i ok
        obtain ⟨v, rfl, r1⟩ := r.one_inv
        have hr := shS_at s (fun z => z) (.tup xs) v p r1 hp
        have r2 := r1
        unfold Rp at r2
        obtain ⟨a, ys, rfl, _⟩ := r2
        exact ⟨a, p, sysB S, rfl, hr, ok, h.ret s rp_s⟩
      · exact h.elim
    · exact h.elim
  · exact h.elim
end Kw
namespace Kz
open PySem PySem.Spec PyProof.Rows L2 Kw
def topS (i : Nat) : Stmt := PySem.Challenge.pw_kindswap_k54_doing_refused.main.body.getD i (.Pass ⟨0, 0, 0, 0⟩)
inductive Fn where
  | f_Reckoner___init__
  | f_Reckoner_all_of
  | f_Reckoner_held
  | f_Reckoner_told
  | f_Reckoner_worked
  | f_Told___init__
  | f_Told_handed
  | f_Made___init__
  | f_Made_handed
  | f_is_from
  | f_inner_of
  | f_is_kind
  | f_sure_kind
  | f_sure_sizes
  | f_power_up_to
  | f_number_up_to
  | f_sure_taken
  | f_lists_of
  | f_all_worths
  | f_worths
  | f_is_plain_worth
  | f_is_worth
  | f_is_shape
  | f_kind_of_given
  | f_kind_of_two
  | f_kind_in
  | f_sure_kind_in
  | f_done
  | f__law_well
  | f__law_draw
  | f__law_word
  | f__law_one
  | f__law_function
  | f__law_great
  | f_law
def methS (i j : Nat) : Stmt := match topS i with
  | .ClassDef _ _ _ body _ _ _ _ _ _ _ => body.getD j (.Pass ⟨0, 0, 0, 0⟩)
  | s => s
abbrev s_Reckoner___init__ : Stmt := methS 34 0
theorem sc_Reckoner___init__ : FnScope ["self", "sizes"] ["self", "sizes"] (defScope s_Reckoner___init__) := ⟨rfl, rfl, rfl, by decide +kernel, rfl, by decide +kernel, by decide +kernel⟩
abbrev s_Reckoner_all_of : Stmt := methS 34 1
theorem sc_Reckoner_all_of : FnScope ["self", "kind", "spot", "worth"] ["self", "kind"] (defScope s_Reckoner_all_of) := ⟨rfl, rfl, rfl, by decide +kernel, rfl, by decide +kernel, by decide +kernel⟩
abbrev s_Reckoner_held : Stmt := methS 34 2
theorem sc_Reckoner_held : FnScope ["self", "kind", "worth"] ["self", "kind", "worth"] (defScope s_Reckoner_held) := ⟨rfl, rfl, rfl, by decide +kernel, rfl, by decide +kernel, by decide +kernel⟩
abbrev s_Reckoner_told : Stmt := methS 34 3
theorem sc_Reckoner_told : FnScope ["self", "kind", "thing", "some", "worth", "one"] ["self", "kind", "thing"] (defScope s_Reckoner_told) := ⟨rfl, rfl, rfl, by decide +kernel, rfl, by decide +kernel, by decide +kernel⟩
abbrev s_Reckoner_worked : Stmt := methS 34 4
theorem sc_Reckoner_worked : FnScope ["self", "term", "things", "word", "one"] ["self", "term", "things"] (defScope s_Reckoner_worked) := ⟨rfl, rfl, rfl, by decide +kernel, rfl, by decide +kernel, by decide +kernel⟩
abbrev s_Told___init__ : Stmt := methS 35 0
theorem sc_Told___init__ : FnScope ["self", "reckoner", "kind", "worth"] ["self", "reckoner", "kind", "worth"] (defScope s_Told___init__) := ⟨rfl, rfl, rfl, by decide +kernel, rfl, by decide +kernel, by decide +kernel⟩
abbrev s_Told_handed : Stmt := methS 35 1
theorem sc_Told_handed : FnScope ["self", "thing", "one"] ["self", "thing"] (defScope s_Told_handed) := ⟨rfl, rfl, rfl, by decide +kernel, rfl, by decide +kernel, by decide +kernel⟩
abbrev s_Made___init__ : Stmt := methS 36 0
theorem sc_Made___init__ : FnScope ["self", "reckoner", "body", "things"] ["self", "reckoner", "body", "things"] (defScope s_Made___init__) := ⟨rfl, rfl, rfl, by decide +kernel, rfl, by decide +kernel, by decide +kernel⟩
abbrev s_Made_handed : Stmt := methS 36 1
theorem sc_Made_handed : FnScope ["self", "thing"] ["self", "thing"] (defScope s_Made_handed) := ⟨rfl, rfl, rfl, by decide +kernel, rfl, by decide +kernel, by decide +kernel⟩
abbrev s_is_from : Stmt := topS 10
theorem sc_is_from : FnScope ["thing", "low", "high"] ["thing", "low", "high"] (defScope s_is_from) := ⟨rfl, rfl, rfl, by decide +kernel, rfl, by decide +kernel, by decide +kernel⟩
abbrev s_inner_of : Stmt := topS 11
theorem sc_inner_of : FnScope ["thing"] ["thing"] (defScope s_inner_of) := ⟨rfl, rfl, rfl, by decide +kernel, rfl, by decide +kernel, by decide +kernel⟩
abbrev s_is_kind : Stmt := topS 12
theorem sc_is_kind : FnScope ["thing", "left", "inner"] ["thing"] (defScope s_is_kind) := ⟨rfl, rfl, rfl, by decide +kernel, rfl, by decide +kernel, by decide +kernel⟩
abbrev s_sure_kind : Stmt := topS 13
theorem sc_sure_kind : FnScope ["thing"] ["thing"] (defScope s_sure_kind) := ⟨rfl, rfl, rfl, by decide +kernel, rfl, by decide +kernel, by decide +kernel⟩
abbrev s_sure_sizes : Stmt := topS 18
theorem sc_sure_sizes : FnScope ["thing", "good", "size"] ["thing"] (defScope s_sure_sizes) := ⟨rfl, rfl, rfl, by decide +kernel, rfl, by decide +kernel, by decide +kernel⟩
abbrev s_power_up_to : Stmt := topS 19
theorem sc_power_up_to : FnScope ["base", "times", "found", "turn"] ["base", "times"] (defScope s_power_up_to) := ⟨rfl, rfl, rfl, by decide +kernel, rfl, by decide +kernel, by decide +kernel⟩
abbrev s_number_up_to : Stmt := topS 20
theorem sc_number_up_to : FnScope ["kind", "sizes", "one", "other"] ["kind", "sizes"] (defScope s_number_up_to) := ⟨rfl, rfl, rfl, by decide +kernel, rfl, by decide +kernel, by decide +kernel⟩
abbrev s_sure_taken : Stmt := topS 21
theorem sc_sure_taken : FnScope ["kind", "sizes"] ["kind", "sizes"] (defScope s_sure_taken) := ⟨rfl, rfl, rfl, by decide +kernel, rfl, by decide +kernel, by decide +kernel⟩
abbrev s_lists_of : Stmt := topS 22
theorem sc_lists_of : FnScope ["things", "many", "found", "place", "row", "thing"] ["things", "many"] (defScope s_lists_of) := ⟨rfl, rfl, rfl, by decide +kernel, rfl, by decide +kernel, by decide +kernel⟩
abbrev s_all_worths : Stmt := topS 23
theorem sc_all_worths : FnScope ["kind", "sizes", "others", "one", "other"] ["kind", "sizes"] (defScope s_all_worths) := ⟨rfl, rfl, rfl, by decide +kernel, rfl, by decide +kernel, by decide +kernel⟩
abbrev s_worths : Stmt := topS 24
theorem sc_worths : FnScope ["kind", "sizes"] ["kind", "sizes"] (defScope s_worths) := ⟨rfl, rfl, rfl, by decide +kernel, rfl, by decide +kernel, by decide +kernel⟩
abbrev s_is_plain_worth : Stmt := topS 25
theorem sc_is_plain_worth : FnScope ["kind", "sizes", "thing", "one"] ["kind", "sizes", "thing"] (defScope s_is_plain_worth) := ⟨rfl, rfl, rfl, by decide +kernel, rfl, by decide +kernel, by decide +kernel⟩
abbrev s_is_worth : Stmt := topS 26
theorem sc_is_worth : FnScope ["kind", "sizes", "thing"] ["kind", "sizes", "thing"] (defScope s_is_worth) := ⟨rfl, rfl, rfl, by decide +kernel, rfl, by decide +kernel, by decide +kernel⟩
abbrev s_is_shape : Stmt := topS 29
theorem sc_is_shape : FnScope ["thing"] ["thing"] (defScope s_is_shape) := ⟨rfl, rfl, rfl, by decide +kernel, rfl, by decide +kernel, by decide +kernel⟩
abbrev s_kind_of_given : Stmt := topS 30
theorem sc_kind_of_given : FnScope ["k", "given"] ["k", "given"] (defScope s_kind_of_given) := ⟨rfl, rfl, rfl, by decide +kernel, rfl, by decide +kernel, by decide +kernel⟩
abbrev s_kind_of_two : Stmt := topS 31
theorem sc_kind_of_two : FnScope ["word", "one", "other"] ["word", "one", "other"] (defScope s_kind_of_two) := ⟨rfl, rfl, rfl, by decide +kernel, rfl, by decide +kernel, by decide +kernel⟩
abbrev s_kind_in : Stmt := topS 32
theorem sc_kind_in : FnScope ["term", "given", "word", "one", "body"] ["term", "given"] (defScope s_kind_in) := ⟨rfl, rfl, rfl, by decide +kernel, rfl, by decide +kernel, by decide +kernel⟩
abbrev s_sure_kind_in : Stmt := topS 33
theorem sc_sure_kind_in : FnScope ["term", "given", "found"] ["term", "given"] (defScope s_sure_kind_in) := ⟨rfl, rfl, rfl, by decide +kernel, rfl, by decide +kernel, by decide +kernel⟩
abbrev s_done : Stmt := topS 37
theorem sc_done : FnScope ["term", "sizes", "worth", "kind", "reckoner"] ["term", "sizes", "worth"] (defScope s_done) := ⟨rfl, rfl, rfl, by decide +kernel, rfl, by decide +kernel, by decide +kernel⟩
abbrev s__law_well : Stmt := topS 39
theorem sc__law_well : FnScope ["_law_cell"] ["_law_cell"] (defScope s__law_well) := ⟨rfl, rfl, rfl, by decide +kernel, rfl, by decide +kernel, by decide +kernel⟩
abbrev s__law_draw : Stmt := topS 40
theorem sc__law_draw : FnScope ["_law_well_here", "_law_width", "_law_low", "_law_digit_told"] ["_law_well_here", "_law_width"] (defScope s__law_draw) := ⟨rfl, rfl, rfl, by decide +kernel, rfl, by decide +kernel, by decide +kernel⟩
abbrev s__law_word : Stmt := topS 41
theorem sc__law_word : FnScope ["_law_term", "_law_sizes", "_law_worth", "_law_word_here", "e", "_law_kinds"] ["_law_term", "_law_sizes", "_law_worth"] (defScope s__law_word) := ⟨rfl, rfl, rfl, by decide +kernel, rfl, by decide +kernel, by decide +kernel⟩
abbrev s__law_one : Stmt := topS 42
theorem sc__law_one : FnScope ["_law_well_here", "_law_some"] ["_law_well_here", "_law_some"] (defScope s__law_one) := ⟨rfl, rfl, rfl, by decide +kernel, rfl, by decide +kernel, by decide +kernel⟩
abbrev s__law_function : Stmt := topS 43
theorem sc__law_function : FnScope ["_law_well_here", "_law_n", "_law_base", "_law_way", "_law_bad"] ["_law_well_here", "_law_n"] (defScope s__law_function) := ⟨rfl, rfl, rfl, by decide +kernel, rfl, by decide +kernel, by decide +kernel⟩
abbrev s__law_great : Stmt := topS 44
theorem sc__law_great : FnScope ["_law_well_here", "_law_n", "_law_base", "_law_step", "_law_some"] ["_law_well_here", "_law_n"] (defScope s__law_great) := ⟨rfl, rfl, rfl, by decide +kernel, rfl, by decide +kernel, by decide +kernel⟩
abbrev s_law : Stmt := topS 45
theorem sc_law : FnScope ["_law_script", "_law_cell", "_law_well_here", "_law_n", "_law_kind", "_law_good", "_law_bad", "_law_term", "_law_sizes", "_law_worth", "_law_due", "_law_kept", "_law_turn", "_law_odd"] ["_law_script"] (defScope s_law) := ⟨rfl, rfl, rfl, by decide +kernel, rfl, by decide +kernel, by decide +kernel⟩
def kv_MARKS : List (Str × D) := [("both", D.str "*"), ("from", D.str ">")]
def kv_PARTS : List (Str × D) := [("given", D.int 2), ("make", D.int 3), ("do", D.int 3), ("both", D.int 3), ("first", D.int 2), ("second", D.int 2), ("unit", D.int 1)]
def excs : List Str := ["NoKind", "NoSizes", "NoTerm", "NoWorth", "TooMany"]
def isxT : List (Str × Str) := ([("NoKind", "NoKind"), ("NoKind", "SwapError"), ("NoSizes", "NoSizes"), ("NoSizes", "SwapError"), ("NoTerm", "NoTerm"), ("NoTerm", "SwapError"), ("NoWorth", "NoWorth"), ("NoWorth", "SwapError"), ("TooMany", "SwapError"), ("TooMany", "TooMany")] : List (Str × Str))
def isx (y x : Str) : Bool := isxT.any fun p => p.1 == y && p.2 == x
noncomputable def b_Reckoner___init__ (cl : Fn → FF) : FS :=
  (sSeq (sFl ["Reckoner"] "sizes" (fVar 0) (fVar 1))
  (sSeq (sFl ["Reckoner"] "lists" (fVar 0) fNewD)
  (sFl ["Reckoner"] "spots" (fVar 0) fNewD)))
noncomputable def b_Reckoner_all_of (cl : Fn → FF) : FS :=
  (sSeq (sIf (fB (f2 gDnot (fVar 1) (f1 (gFld ["Reckoner"] "lists") (fVar 0)))) (sSeq (sDput (f1 (gFld ["Reckoner"] "lists") (fVar 0)) (fVar 1) (fArg (cl .f_worths) (fCons (fVar 1) (fCons (f1 (gFld ["Reckoner"] "sizes") (fVar 0)) fNil))))
  (sDput (f1 (gFld ["Reckoner"] "spots") (fVar 0)) (fVar 1) (fDc (fiE (fCons (f2 gDget (f1 (gFld ["Reckoner"] "lists") (fVar 0)) (fVar 1)) fNil)) (gTu 2 (gsCons (gN 2) (gsCons (gN 3) gsNil))) (fVar 3) (fVar 2) [2, 3]))) sNil)
  (sRet (f2 gDget (f1 (gFld ["Reckoner"] "lists") (fVar 0)) (fVar 1))))
noncomputable def b_Reckoner_held (cl cl2 : Fn → FF) : FS :=
  (sSeq (sIf (fB (f2 gEq (f2 gIx (fVar 1) (fC (.int 0))) (fC (.str "both")))) (sRet (fArg mkTup (fCons (fMe [("Reckoner", cl .f_Reckoner_held)] "held" (fVar 0) (fCons (f2 gIx (fVar 1) (fC (.int 1))) (fCons (f2 gIx (fVar 2) (fC (.int 0))) fNil))) (fCons (fMe [("Reckoner", cl .f_Reckoner_held)] "held" (fVar 0) (fCons (f2 gIx (fVar 1) (fC (.int 2))) (fCons (f2 gIx (fVar 2) (fC (.int 1))) fNil))) fNil)))) sNil)
  (sSeq (sIf (fB (f2 gEq (f2 gIx (fVar 1) (fC (.int 0))) (fC (.str "from")))) (sRet (fMk "Told" (cl2 .f_Told___init__) (fCons (fVar 0) (fCons (fVar 1) (fCons (fVar 2) fNil))))) sNil)
  (sRet (fVar 2))))
noncomputable def b_Reckoner_told (cl : Fn → FF) : FS :=
  (sSeq (sIf (fB (f2 gEq (f2 gIx (fVar 1) (fC (.int 0))) (fC (.str "both")))) (sRet (fArg mkTup (fCons (fMe [("Reckoner", cl .f_Reckoner_told)] "told" (fVar 0) (fCons (f2 gIx (fVar 1) (fC (.int 1))) (fCons (f2 gIx (fVar 2) (fC (.int 0))) fNil))) (fCons (fMe [("Reckoner", cl .f_Reckoner_told)] "told" (fVar 0) (fCons (f2 gIx (fVar 1) (fC (.int 2))) (fCons (f2 gIx (fVar 2) (fC (.int 1))) fNil))) fNil)))) sNil)
  (sSeq (sIf (fB (f2 gEq (f2 gIx (fVar 1) (fC (.int 0))) (fC (.str "from")))) (sSeq (sSet 3 (fLc false (fiL (fMe [("Reckoner", cl .f_Reckoner_all_of)] "all_of" (fVar 0) (fCons (f2 gIx (fVar 1) (fC (.int 1))) fNil))) (gN 4) fYes (fMe [("Told", cl .f_Told_handed), ("Made", cl .f_Made_handed)] "handed" (fVar 2) (fCons (fMe [("Reckoner", cl .f_Reckoner_held)] "held" (fVar 0) (fCons (f2 gIx (fVar 1) (fC (.int 1))) (fCons (fVar 4) fNil))) fNil)) [4]))
  (sRet (fArg gTuple (fCons (fLc false (fiL (fVar 3)) (gN 5) fYes (fMe [("Reckoner", cl .f_Reckoner_told)] "told" (fVar 0) (fCons (f2 gIx (fVar 1) (fC (.int 2))) (fCons (fVar 5) fNil))) [5]) fNil)))) sNil)
  (sRet (fVar 2))))
noncomputable def b_Reckoner_worked (cl cl2 : Fn → FF) : FS :=
  (sSeq (sSet 3 (f2 gIx (fVar 1) (fC (.int 0))))
  (sSeq (sIf (fB (f2 gEq (fVar 3) (fC (.str "given")))) (sRet (f2 gIx (fVar 2) (f2 gIx (fVar 1) (fC (.int 1))))) sNil)
  (sSeq (sIf (fB (f2 gEq (fVar 3) (fC (.str "unit")))) (sRet (fArg mkTup fNil)) sNil)
  (sSeq (sIf (fB (f2 gEq (fVar 3) (fC (.str "make")))) (sRet (fMk "Made" (cl2 .f_Made___init__) (fCons (fVar 0) (fCons (f2 gIx (fVar 1) (fC (.int 2))) (fCons (fVar 2) fNil))))) sNil)
  (sSeq (sSet 4 (fMe [("Reckoner", cl .f_Reckoner_worked)] "worked" (fVar 0) (fCons (f2 gIx (fVar 1) (fC (.int 1))) (fCons (fVar 2) fNil))))
  (sSeq (sIf (fB (f2 gEq (fVar 3) (fC (.str "do")))) (sRet (fMe [("Told", cl .f_Told_handed), ("Made", cl .f_Made_handed)] "handed" (fVar 4) (fCons (fMe [("Reckoner", cl .f_Reckoner_worked)] "worked" (fVar 0) (fCons (f2 gIx (fVar 1) (fC (.int 2))) (fCons (fVar 2) fNil))) fNil))) sNil)
  (sSeq (sIf (fB (f2 gEq (fVar 3) (fC (.str "both")))) (sRet (fArg mkTup (fCons (fVar 4) (fCons (fMe [("Reckoner", cl .f_Reckoner_worked)] "worked" (fVar 0) (fCons (f2 gIx (fVar 1) (fC (.int 2))) (fCons (fVar 2) fNil))) fNil)))) sNil)
  (sRet (f2 gIx (fVar 4) (fArg gInt (fCons (f2 gEq (fVar 3) (fC (.str "second"))) fNil)))))))))))
noncomputable def b_Told___init__ (cl : Fn → FF) : FS :=
  (sSeq (sFl ["Told", "Made"] "reckoner" (fVar 0) (fVar 1))
  (sSeq (sFl ["Told"] "kind" (fVar 0) (fVar 2))
  (sFl ["Told"] "worth" (fVar 0) (fVar 3))))
noncomputable def b_Told_handed (cl : Fn → FF) : FS :=
  (sSeq (sSet 2 (fMe [("Reckoner", cl .f_Reckoner_told)] "told" (f1 (gFld ["Told", "Made"] "reckoner") (fVar 0)) (fCons (f2 gIx (f1 (gFld ["Told"] "kind") (fVar 0)) (fC (.int 1))) (fCons (fVar 1) fNil))))
  (sSeq (sExp (fMe [("Reckoner", cl .f_Reckoner_all_of)] "all_of" (f1 (gFld ["Told", "Made"] "reckoner") (fVar 0)) (fCons (f2 gIx (f1 (gFld ["Told"] "kind") (fVar 0)) (fC (.int 1))) fNil)))
  (sRet (fMe [("Reckoner", cl .f_Reckoner_held)] "held" (f1 (gFld ["Told", "Made"] "reckoner") (fVar 0)) (fCons (f2 gIx (f1 (gFld ["Told"] "kind") (fVar 0)) (fC (.int 2))) (fCons (f2 gIx (f1 (gFld ["Told"] "worth") (fVar 0)) (f2 gDget (f2 gDget (f1 (gFld ["Reckoner"] "spots") (f1 (gFld ["Told", "Made"] "reckoner") (fVar 0))) (f2 gIx (f1 (gFld ["Told"] "kind") (fVar 0)) (fC (.int 1)))) (fVar 2))) fNil))))))
noncomputable def b_Made___init__ (cl : Fn → FF) : FS :=
  (sSeq (sFl ["Told", "Made"] "reckoner" (fVar 0) (fVar 1))
  (sSeq (sFl ["Made"] "body" (fVar 0) (fVar 2))
  (sFl ["Made"] "things" (fVar 0) (fVar 3))))
noncomputable def b_Made_handed (cl : Fn → FF) : FS :=
  (sRet (fMe [("Reckoner", cl .f_Reckoner_worked)] "worked" (f1 (gFld ["Told", "Made"] "reckoner") (fVar 0)) (fCons (f1 (gFld ["Made"] "body") (fVar 0)) (fCons (f2 (gAdd false) (f1 (gFld ["Made"] "things") (fVar 0)) (fArg mkLst (fCons (fVar 1) fNil))) fNil))))
noncomputable def b_is_from (cl : Fn → FF) : FS :=
  (sRet (fAndV (fIsi "int" (fVar 0)) (fAndV (fNotV (fIsi "bool" (fVar 0))) (fChain (gCmp fun i j => decide (i ≤ j)) (gCmp fun i j => decide (i ≤ j)) (fVar 1) (fVar 0) (fVar 2)))))
noncomputable def b_inner_of (cl : Fn → FF) : FS :=
  (sSeq (sIf (fOr (fNot (fTru (fIsi "tuple" (fVar 0)))) (fOr (fB (f2 gEq (fArg gLen (fCons (fVar 0) fNil)) (fC (.int 0)))) (fNot (fTru (fIsi "str" (f2 gIx (fVar 0) (fC (.int 0)))))))) (sRet (fC .non)) sNil)
  (sSeq (sIf (fB (f2 gEq (f2 gIx (fVar 0) (fC (.int 0))) (fC (.str "base")))) (sRet (fIf (fAnd (fB (f2 gEq (fArg gLen (fCons (fVar 0) fNil)) (fC (.int 2)))) (fTru (fArg (cl .f_is_from) (fCons (f2 gIx (fVar 0) (fC (.int 1))) (fCons (fC (.int 0)) (fCons (f2 gSub (fArg gLen (fCons (fC (.str "abcdefgh")) fNil)) (fC (.int 1))) fNil)))))) (fArg mkLst fNil) (fC .non))) sNil)
  (sSeq (sIf (fB (f2 gEq (f2 gIx (fVar 0) (fC (.int 0))) (fC (.str "unit")))) (sRet (fIf (fB (f2 gEq (fArg gLen (fCons (fVar 0) fNil)) (fC (.int 1)))) (fArg mkLst fNil) (fC .non))) sNil)
  (sRet (fIf (fAnd (fB (f2 (gInG false "MARKS" kv_MARKS) (f2 gIx (fVar 0) (fC (.int 0))) (fC (.glo "MARKS")))) (fB (f2 gEq (fArg gLen (fCons (fVar 0) fNil)) (fC (.int 3))))) (fArg (gList false) (fCons (fSl (gSl false) (fVar 0) (fSome (fC (.int 1))) fNone) fNil)) (fC .non))))))
noncomputable def l_is_kind_0 (cl : Fn → FF) : FS :=
  (sSeq (sSet 2 (fArg (cl .f_inner_of) (fCons (fMth gPop0 (fVar 1) fNil) fNil)))
  (sSeq (sIf (fB (f2 (gIs false) (fVar 2) (fC .non))) (sRet (fC (.bl false))) sNil)
  (sExp (fMth gExtend (fVar 1) (fCons (fVar 2) fNil)))))
noncomputable def b_is_kind (cl : Fn → FF) : FS :=
  (sSeq (sSet 1 (fArg mkCel (fCons (fVar 0) fNil)))
  (sSeq (sWhile (fB (f2 gNe (fVar 1) (fArg mkLst fNil))) (l_is_kind_0 cl))
  (sRet (fC (.bl true)))))
noncomputable def b_sure_kind (cl : Fn → FF) : FS :=
  (sIf (fNot (fTru (fArg (cl .f_is_kind) (fCons (fVar 0) fNil)))) (sRaise "NoKind") sNil)
noncomputable def b_sure_sizes (cl : Fn → FF) : FS :=
  (sSeq (sSet 1 (fAndV (fIsi "list" (fVar 0)) (f2 gEq (fArg gLen (fCons (fVar 0) fNil)) (fC (.int 8)))))
  (sIf (fOr (fNot (fTru (fVar 1))) (fNot (fTru (fArg gAll (fCons (fLc false (fiL (fVar 0)) (gN 2) fYes (fArg (cl .f_is_from) (fCons (fVar 2) (fCons (fC (.int 1)) (fCons (fC (.int 999)) fNil)))) [2]) fNil))))) (sRaise "NoSizes") sNil))
noncomputable def l_power_up_to_0 (cl : Fn → FF) : FS :=
  (sSeq (sSet 2 (f2 (gMul false) (fVar 2) (fVar 0)))
  (sIf (fB (f2 (gCmp fun i j => decide (j < i)) (fVar 2) (fC (.int 5000)))) (sRet (f2 (gAdd false) (fC (.int 5000)) (fC (.int 1)))) sNil))
noncomputable def b_power_up_to (cl : Fn → FF) : FS :=
  (sSeq (sIf (fB (f2 gEq (fVar 0) (fC (.int 1)))) (sRet (fC (.int 1))) sNil)
  (sSeq (sSet 2 (fC (.int 1)))
  (sSeq (sFor (fiR1 (fCons (fVar 1) fNil)) (gN 3) (l_power_up_to_0 cl))
  (sRet (fVar 2)))))
noncomputable def b_number_up_to (cl : Fn → FF) : FS :=
  (sSeq (sIf (fB (f2 gEq (f2 gIx (fVar 0) (fC (.int 0))) (fC (.str "base")))) (sRet (f2 gIx (fVar 1) (f2 gIx (fVar 0) (fC (.int 1))))) sNil)
  (sSeq (sIf (fB (f2 gEq (f2 gIx (fVar 0) (fC (.int 0))) (fC (.str "unit")))) (sRet (fC (.int 1))) sNil)
  (sSeq (sSet 2 (fArg (cl .f_number_up_to) (fCons (f2 gIx (fVar 0) (fC (.int 1))) (fCons (fVar 1) fNil))))
  (sSeq (sSet 3 (fArg (cl .f_number_up_to) (fCons (f2 gIx (fVar 0) (fC (.int 2))) (fCons (fVar 1) fNil))))
  (sSeq (sIf (fB (f2 gEq (f2 gIx (fVar 0) (fC (.int 0))) (fC (.str "both")))) (sRet (fArg gMin (fCons (f2 (gMul false) (fVar 2) (fVar 3)) (fCons (f2 (gAdd false) (fC (.int 5000)) (fC (.int 1))) fNil)))) sNil)
  (sRet (fArg (cl .f_power_up_to) (fCons (fVar 3) (fCons (fVar 2) fNil)))))))))
noncomputable def b_sure_taken (cl : Fn → FF) : FS :=
  (sIf (fB (f2 (gIn false) (f2 gIx (fVar 0) (fC (.int 0))) (fArg mkTup (fCons (fC (.str "both")) (fCons (fC (.str "from")) fNil))))) (sSeq (sIf (fAnd (fB (f2 gEq (f2 gIx (fVar 0) (fC (.int 0))) (fC (.str "from")))) (fB (f2 (gCmp fun i j => decide (j < i)) (fArg (cl .f_number_up_to) (fCons (f2 gIx (fVar 0) (fC (.int 1))) (fCons (fVar 1) fNil))) (fC (.int 5000))))) (sRaise "TooMany") sNil)
  (sSeq (sExp (fArg (cl .f_sure_taken) (fCons (f2 gIx (fVar 0) (fC (.int 1))) (fCons (fVar 1) fNil))))
  (sExp (fArg (cl .f_sure_taken) (fCons (f2 gIx (fVar 0) (fC (.int 2))) (fCons (fVar 1) fNil)))))) sNil)
noncomputable def l_lists_of_0 (cl : Fn → FF) : FS :=
  (sSet 2 (fLc2 (fiL (fVar 2)) (gN 4) (fiL (fVar 0)) (gN 5) (f2 (gAdd false) (fVar 4) (fArg mkTup (fCons (fVar 5) fNil))) [4, 5] [5]))
noncomputable def b_lists_of (cl : Fn → FF) : FS :=
  (sSeq (sSet 2 (fArg mkLst (fCons (fArg mkTup fNil) fNil)))
  (sSeq (sFor (fiR1 (fCons (fVar 1) fNil)) (gN 3) (l_lists_of_0 cl))
  (sRet (fVar 2))))
noncomputable def b_all_worths (cl : Fn → FF) : FS :=
  (sSeq (sIf (fB (f2 gEq (f2 gIx (fVar 0) (fC (.int 0))) (fC (.str "base")))) (sRet (f1 gRng (f2 gIx (fVar 1) (f2 gIx (fVar 0) (fC (.int 1)))))) sNil)
  (sSeq (sIf (fB (f2 gEq (f2 gIx (fVar 0) (fC (.int 0))) (fC (.str "unit")))) (sRet (fArg mkLst (fCons (fArg mkTup fNil) fNil))) sNil)
  (sSeq (sSet 2 (fArg (cl .f_all_worths) (fCons (f2 gIx (fVar 0) (fC (.int 2))) (fCons (fVar 1) fNil))))
  (sSeq (sIf (fB (f2 gEq (f2 gIx (fVar 0) (fC (.int 0))) (fC (.str "from")))) (sRet (fArg (cl .f_lists_of) (fCons (fVar 2) (fCons (fArg (cl .f_number_up_to) (fCons (f2 gIx (fVar 0) (fC (.int 1))) (fCons (fVar 1) fNil))) fNil)))) sNil)
  (sRet (fLc2 (fiL (fArg (cl .f_all_worths) (fCons (f2 gIx (fVar 0) (fC (.int 1))) (fCons (fVar 1) fNil)))) (gN 3) (fiL (fVar 2)) (gN 4) (fArg mkTup (fCons (fVar 3) (fCons (fVar 4) fNil))) [3, 4] [4]))))))
noncomputable def b_worths (cl : Fn → FF) : FS :=
  (sSeq (sExp (fArg (cl .f_sure_kind) (fCons (fVar 0) fNil)))
  (sSeq (sExp (fArg (cl .f_sure_sizes) (fCons (fVar 1) fNil)))
  (sSeq (sExp (fArg (cl .f_sure_taken) (fCons (fVar 0) (fCons (fVar 1) fNil))))
  (sSeq (sIf (fB (f2 (gCmp fun i j => decide (j < i)) (fArg (cl .f_number_up_to) (fCons (fVar 0) (fCons (fVar 1) fNil))) (fC (.int 5000)))) (sRaise "TooMany") sNil)
  (sRet (fArg (cl .f_all_worths) (fCons (fVar 0) (fCons (fVar 1) fNil))))))))
noncomputable def b_is_plain_worth (cl : Fn → FF) : FS :=
  (sSeq (sIf (fB (f2 gEq (f2 gIx (fVar 0) (fC (.int 0))) (fC (.str "base")))) (sRet (fArg (cl .f_is_from) (fCons (fVar 2) (fCons (fC (.int 0)) (fCons (f2 gSub (f2 gIx (fVar 1) (f2 gIx (fVar 0) (fC (.int 1)))) (fC (.int 1))) fNil))))) sNil)
  (sSeq (sIf (fNot (fTru (fIsi "tuple" (fVar 2)))) (sRet (fC (.bl false))) sNil)
  (sSeq (sIf (fB (f2 gEq (f2 gIx (fVar 0) (fC (.int 0))) (fC (.str "unit")))) (sRet (f2 gEq (fVar 2) (fArg mkTup fNil))) sNil)
  (sSeq (sIf (fB (f2 gEq (f2 gIx (fVar 0) (fC (.int 0))) (fC (.str "from")))) (sSeq (sIf (fB (f2 gNe (fArg gLen (fCons (fVar 2) fNil)) (fArg (cl .f_number_up_to) (fCons (f2 gIx (fVar 0) (fC (.int 1))) (fCons (fVar 1) fNil))))) (sRet (fC (.bl false))) sNil)
  (sRet (fArg gAll (fCons (fLc false (fiT (fVar 2)) (gN 3) fYes (fArg (cl .f_is_plain_worth) (fCons (f2 gIx (fVar 0) (fC (.int 2))) (fCons (fVar 1) (fCons (fVar 3) fNil)))) [3]) fNil)))) sNil)
  (sSeq (sIf (fB (f2 gNe (fArg gLen (fCons (fVar 2) fNil)) (fC (.int 2)))) (sRet (fC (.bl false))) sNil)
  (sRet (fAndV (fArg (cl .f_is_plain_worth) (fCons (f2 gIx (fVar 0) (fC (.int 1))) (fCons (fVar 1) (fCons (f2 gIx (fVar 2) (fC (.int 0))) fNil)))) (fArg (cl .f_is_plain_worth) (fCons (f2 gIx (fVar 0) (fC (.int 2))) (fCons (fVar 1) (fCons (f2 gIx (fVar 2) (fC (.int 1))) fNil)))))))))))
noncomputable def b_is_worth (cl : Fn → FF) : FS :=
  (sSeq (sExp (fArg (cl .f_sure_kind) (fCons (fVar 0) fNil)))
  (sSeq (sExp (fArg (cl .f_sure_sizes) (fCons (fVar 1) fNil)))
  (sSeq (sExp (fArg (cl .f_sure_taken) (fCons (fVar 0) (fCons (fVar 1) fNil))))
  (sRet (fArg (cl .f_is_plain_worth) (fCons (fVar 0) (fCons (fVar 1) (fCons (fVar 2) fNil))))))))
noncomputable def b_is_shape (cl : Fn → FF) : FS :=
  (sSeq (sIf (fOr (fNot (fTru (fIsi "tuple" (fVar 0)))) (fOr (fB (f2 gEq (fArg gLen (fCons (fVar 0) fNil)) (fC (.int 0)))) (fNot (fTru (fIsi "str" (f2 gIx (fVar 0) (fC (.int 0)))))))) (sRet (fC (.bl false))) sNil)
  (sRet (f2 gEq (fGetG "PARTS" kv_PARTS (fC (.glo "PARTS")) (f2 gIx (fVar 0) (fC (.int 0)))) (fArg gLen (fCons (fVar 0) fNil)))))
noncomputable def b_kind_of_given (cl : Fn → FF) : FS :=
  (sSeq (sIf (fOr (fNot (fTru (fIsi "int" (fVar 0)))) (fOr (fTru (fIsi "bool" (fVar 0))) (fNot (fB (fChain (gCmp fun i j => decide (i ≤ j)) (gCmp fun i j => decide (i < j)) (fC (.int 0)) (fVar 0) (fArg gLen (fCons (fVar 1) fNil))))))) (sRet (fC .non)) sNil)
  (sRet (f2 gIx (fVar 1) (fVar 0))))
noncomputable def b_kind_of_two (cl : Fn → FF) : FS :=
  (sSeq (sIf (fOr (fB (f2 (gIs false) (fVar 1) (fC .non))) (fB (f2 (gIs false) (fVar 2) (fC .non)))) (sRet (fC .non)) sNil)
  (sSeq (sIf (fB (f2 gEq (fVar 0) (fC (.str "both")))) (sRet (fArg mkTup (fCons (fC (.str "both")) (fCons (fVar 1) (fCons (fVar 2) fNil))))) sNil)
  (sRet (fIf (fAnd (fB (f2 gEq (f2 gIx (fVar 1) (fC (.int 0))) (fC (.str "from")))) (fB (f2 gEq (f2 gIx (fVar 1) (fC (.int 1))) (fVar 2)))) (f2 gIx (fVar 1) (fC (.int 2))) (fC .non)))))
noncomputable def b_kind_in (cl : Fn → FF) : FS :=
  (sSeq (sIf (fNot (fTru (fArg (cl .f_is_shape) (fCons (fVar 0) fNil)))) (sRet (fC .non)) sNil)
  (sSeq (sSet 2 (f2 gIx (fVar 0) (fC (.int 0))))
  (sSeq (sIf (fB (f2 gEq (fVar 2) (fC (.str "unit")))) (sRet (fArg mkTup (fCons (fC (.str "unit")) fNil))) sNil)
  (sSeq (sIf (fB (f2 gEq (fVar 2) (fC (.str "given")))) (sRet (fArg (cl .f_kind_of_given) (fCons (f2 gIx (fVar 0) (fC (.int 1))) (fCons (fVar 1) fNil)))) sNil)
  (sSeq (sIf (fB (f2 gEq (fVar 2) (fC (.str "make")))) (sSeq (sSet 4 (fIf (fTru (fArg (cl .f_is_kind) (fCons (f2 gIx (fVar 0) (fC (.int 1))) fNil))) (fArg (cl .f_kind_in) (fCons (f2 gIx (fVar 0) (fC (.int 2))) (fCons (f2 (gAdd false) (fVar 1) (fArg mkLst (fCons (f2 gIx (fVar 0) (fC (.int 1))) fNil))) fNil))) (fC .non)))
  (sRet (fIf (fB (f2 (gIs false) (fVar 4) (fC .non))) (fC .non) (fArg mkTup (fCons (fC (.str "from")) (fCons (f2 gIx (fVar 0) (fC (.int 1))) (fCons (fVar 4) fNil))))))) sNil)
  (sSeq (sSet 3 (fArg (cl .f_kind_in) (fCons (f2 gIx (fVar 0) (fC (.int 1))) (fCons (fVar 1) fNil))))
  (sSeq (sIf (fB (f2 (gIn false) (fVar 2) (fArg mkTup (fCons (fC (.str "do")) (fCons (fC (.str "both")) fNil))))) (sRet (fArg (cl .f_kind_of_two) (fCons (fVar 2) (fCons (fVar 3) (fCons (fArg (cl .f_kind_in) (fCons (f2 gIx (fVar 0) (fC (.int 2))) (fCons (fVar 1) fNil))) fNil))))) sNil)
  (sSeq (sIf (fOr (fB (f2 (gIs false) (fVar 3) (fC .non))) (fB (f2 gNe (f2 gIx (fVar 3) (fC (.int 0))) (fC (.str "both"))))) (sRet (fC .non)) sNil)
  (sRet (fIf (fB (f2 gEq (fVar 2) (fC (.str "first")))) (f2 gIx (fVar 3) (fC (.int 1))) (f2 gIx (fVar 3) (fC (.int 2)))))))))))))
noncomputable def b_sure_kind_in (cl : Fn → FF) : FS :=
  (sSeq (sSet 2 (fArg (cl .f_kind_in) (fCons (fVar 0) (fCons (fVar 1) fNil))))
  (sSeq (sIf (fB (f2 (gIs false) (fVar 2) (fC .non))) (sRaise "NoTerm") sNil)
  (sRet (fVar 2))))
noncomputable def b_done (cl cl2 : Fn → FF) : FS :=
  (sSeq (sSet 3 (fArg (cl .f_sure_kind_in) (fCons (fVar 0) (fCons (fArg mkLst fNil) fNil))))
  (sSeq (sIf (fB (f2 gNe (f2 gIx (fVar 3) (fC (.int 0))) (fC (.str "from")))) (sRaise "NoTerm") sNil)
  (sSeq (sExp (fArg (cl .f_sure_sizes) (fCons (fVar 1) fNil)))
  (sSeq (sExp (fArg (cl .f_sure_taken) (fCons (f2 gIx (fVar 3) (fC (.int 1))) (fCons (fVar 1) fNil))))
  (sSeq (sExp (fArg (cl .f_sure_taken) (fCons (f2 gIx (fVar 3) (fC (.int 2))) (fCons (fVar 1) fNil))))
  (sSeq (sIf (fNot (fTru (fArg (cl .f_is_worth) (fCons (f2 gIx (fVar 3) (fC (.int 1))) (fCons (fVar 1) (fCons (fVar 2) fNil)))))) (sRaise "NoWorth") sNil)
  (sSeq (sSet 4 (fMk2 "Reckoner" (cl2 .f_Reckoner___init__) (fCons (fVar 1) fNil)))
  (sRet (fMe [("Reckoner", cl .f_Reckoner_told)] "told" (fVar 4) (fCons (f2 gIx (fVar 3) (fC (.int 2))) (fCons (fMe [("Told", cl .f_Told_handed), ("Made", cl .f_Made_handed)] "handed" (fMe [("Reckoner", cl .f_Reckoner_worked)] "worked" (fVar 4) (fCons (fVar 0) (fCons (fArg mkLst fNil) fNil))) (fCons (fMe [("Reckoner", cl .f_Reckoner_held)] "held" (fVar 4) (fCons (f2 gIx (fVar 3) (fC (.int 1))) (fCons (fVar 2) fNil))) fNil)) fNil)))))))))))
noncomputable def b__law_well (cl : Fn → FF) : FS :=
  (sRet (fArg mkCel (fCons (f2 (gMul false) (fVar 0) (fArg gInt (fCons (f2 (gCmp fun i j => decide (j ≤ i)) (fVar 0) (f2 gPow (fC (.int 10)) (fC (.int 18)))) fNil))) (fCons (fVar 0) (fCons (fC (.int 0)) fNil)))))
noncomputable def b__law_draw (cl : Fn → FF) : FS :=
  (sSeq (sIf (fB (f2 (gCmp fun i j => decide (j < i)) (f2 gIx (fVar 0) (fC (.int 0))) (fC (.int 0)))) (sSeq (sSet 3 (f2 gMod (f2 gIx (fVar 0) (fC (.int 0))) (fVar 1)))
  (sSeq (sAsg (f2 gDiv (f2 gIx (fVar 0) (fC (.int 0))) (fVar 1)) (gSb (fVar 0) (fC (.int 0))))
  (sRet (fVar 3)))) sNil)
  (sSeq (sAsg (f2 (gAdd false) (f2 gIx (fVar 0) (fC (.int 2))) (fC (.int 1))) (gSb (fVar 0) (fC (.int 2))))
  (sSeq (sSet 2 (f2 (gAdd false) (f2 gMod (f2 gIx (fVar 0) (fC (.int 1))) (fC (.int 2147483629))) (f2 (gMul false) (f2 gDiv (f2 gIx (fVar 0) (fC (.int 1))) (fC (.int 2147483629))) (fC (.int 30013)))))
  (sSeq (sSet 2 (f2 gMod (f2 (gMul false) (f2 (gAdd false) (f2 (gAdd false) (fVar 2) (f2 (gMul false) (fC (.int 69623)) (f2 gIx (fVar 0) (fC (.int 2))))) (fC (.int 1))) (fC (.int 48271))) (fC (.int 2147483647))))
  (sSeq (sSet 2 (f2 gMod (f2 (gMul false) (fVar 2) (f2 (gAdd false) (f2 (gAdd false) (f2 gDiv (fVar 2) (fC (.int 1013))) (fC (.int 69621))) (f2 gIx (fVar 0) (fC (.int 2))))) (fC (.int 2147483629))))
  (sRet (f2 gMod (f2 gMod (f2 (gMul false) (fVar 2) (f2 (gAdd false) (f2 gDiv (fVar 2) (fC (.int 2011))) (fC (.int 40692)))) (fC (.int 2147483399))) (fVar 1))))))))
noncomputable def b__law_word (cl : Fn → FF) : FS :=
  (sSeq (sSet 3 (fC (.str "told")))
  (sSeq (sTryAs excs (fun y => isx y "SwapError") 4 (sExp (fArg (cl .f_done) (fCons (fVar 0) (fCons (fVar 1) (fCons (fVar 2) fNil))))) (fun y a => (sSeq (sSet 5 (fArg mkLst (fCons (fIsE a (isx y "NoTerm") (fVar 4)) (fCons (fIsE a (isx y "NoSizes") (fVar 4)) (fCons (fIsE a (isx y "NoWorth") (fVar 4)) fNil)))))
  (sSeq (sSet 5 (f2 (gAdd false) (fVar 5) (fArg mkLst (fCons (fIsE a (isx y "NoKind") (fVar 4)) (fCons (fIsE a (isx y "TooMany") (fVar 4)) fNil)))))
  (sSeq (sSet 3 (fC (.str "other")))
  (sIf (fB (f2 gEq (fMth gCnt (fVar 5) (fCons (fC (.bl true)) fNil)) (fC (.int 1)))) (sSet 3 (f2 gIx (fArg mkLst (fCons (fC (.str "term")) (fCons (fC (.str "sizes")) (fCons (fC (.str "worth")) (fCons (fC (.str "other")) (fCons (fC (.str "great")) fNil)))))) (fMth gIdx (fVar 5) (fCons (fC (.bl true)) fNil)))) sNil))))))
  (sRet (fVar 3))))
noncomputable def b__law_one (cl : Fn → FF) : FS :=
  (sRet (f2 gIx (fVar 1) (fArg (cl .f__law_draw) (fCons (fVar 0) (fCons (fArg gLen (fCons (fVar 1) fNil)) fNil)))))
noncomputable def b__law_function (cl : Fn → FF) : FS :=
  (sSeq (sSet 2 (fArg mkTup (fCons (fC (.str "base")) (fCons (fVar 1) fNil))))
  (sSeq (sSet 3 (fArg (cl .f__law_draw) (fCons (fVar 0) (fCons (fC (.int 4)) fNil))))
  (sSeq (sIf (fB (f2 gEq (fVar 3) (fC (.int 0)))) (sRet (fArg mkTup (fCons (fVar 2) (fCons (fArg mkLst (fCons (fC (.int 0)) (fCons (fC (.int 1)) fNil))) (fCons (fArg mkLst (fCons (fC (.int 2)) (fCons (f1 gNeg (fC (.int 1))) (fCons (fC (.bl true)) (fCons (fC (.str "0")) (fCons (fC .non) (fCons (fArg mkTup (fCons (fC (.int 0)) fNil)) (fCons (fArg mkLst (fCons (fC (.int 0)) fNil)) (fCons (f2 gPow (fC (.int 10)) (fC (.int 30))) fNil))))))))) fNil))))) sNil)
  (sSeq (sIf (fB (f2 gEq (fVar 3) (fC (.int 1)))) (sSeq (sSet 4 (fArg mkLst (fCons (fArg mkTup (fCons (fC (.int 0)) fNil)) (fCons (fArg mkTup (fCons (fC (.int 0)) (fCons (fArg mkTup fNil) (fCons (fC (.int 0)) fNil)))) (fCons (fArg mkLst (fCons (fC (.int 0)) (fCons (fArg mkTup fNil) fNil))) (fCons (fArg mkTup (fCons (fC (.int 2)) (fCons (fArg mkTup fNil) fNil))) (fCons (fArg mkTup (fCons (fC (.int 0)) (fCons (fC .non) fNil))) (fCons (fArg mkTup (fCons (fC (.int 0)) (fCons (fC (.int 0)) fNil))) (fCons (fArg mkTup fNil) fNil)))))))))
  (sRet (fArg mkTup (fCons (fArg mkTup (fCons (fC (.str "both")) (fCons (fVar 2) (fCons (fArg mkTup (fCons (fC (.str "unit")) fNil)) fNil)))) (fCons (fArg mkLst (fCons (fArg mkTup (fCons (fC (.int 0)) (fCons (fArg mkTup fNil) fNil))) (fCons (fArg mkTup (fCons (fC (.int 1)) (fCons (fArg mkTup fNil) fNil))) fNil))) (fCons (fVar 4) fNil)))))) sNil)
  (sSeq (sIf (fB (f2 gEq (fVar 3) (fC (.int 2)))) (sRet (fArg mkTup (fCons (fArg mkTup (fCons (fC (.str "unit")) fNil)) (fCons (fArg mkLst (fCons (fArg mkTup fNil) fNil)) (fCons (fArg mkLst (fCons (fC (.int 0)) (fCons (fC .non) (fCons (fArg mkLst fNil) (fCons (fArg mkTup (fCons (fC (.int 0)) fNil)) (fCons (fArg mkTup (fCons (fArg mkTup fNil) fNil)) (fCons (fC (.str "")) fNil))))))) fNil))))) sNil)
  (sSeq (sSet 4 (fArg mkLst (fCons (fArg mkTup (fCons (fC (.int 0)) fNil)) (fCons (fArg mkTup (fCons (fC (.int 0)) (fCons (fC (.int 1)) (fCons (fC (.int 0)) fNil)))) (fCons (fArg mkLst (fCons (fC (.int 0)) (fCons (fC (.int 1)) fNil))) (fCons (fArg mkTup (fCons (fC (.int 0)) (fCons (fC (.int 2)) fNil))) (fCons (fArg mkTup (fCons (fC (.bl true)) (fCons (fC (.int 0)) fNil))) (fCons (fArg mkTup (fCons (fC (.int 0)) (fCons (fC .non) fNil))) (fCons (fC (.int 0)) (fCons (fArg mkTup fNil) fNil))))))))))
  (sRet (fArg mkTup (fCons (fArg mkTup (fCons (fC (.str "from")) (fCons (fVar 2) (fCons (fVar 2) fNil)))) (fCons (fArg mkLst (fCons (fArg mkTup (fCons (fC (.int 0)) (fCons (fC (.int 0)) fNil))) (fCons (fArg mkTup (fCons (fC (.int 1)) (fCons (fC (.int 0)) fNil))) (fCons (fArg mkTup (fCons (fC (.int 1)) (fCons (fC (.int 1)) fNil))) fNil)))) (fCons (fVar 4) fNil)))))))))))
noncomputable def b__law_great (cl : Fn → FF) : FS :=
  (sSeq (sSet 2 (fArg mkTup (fCons (fC (.str "base")) (fCons (fVar 1) fNil))))
  (sSeq (sSet 3 (fArg mkTup (fCons (fC (.str "from")) (fCons (fVar 2) (fCons (fVar 2) fNil)))))
  (sSeq (sSet 4 (fArg mkCel (fCons (fArg mkTup (fCons (fC (.str "make")) (fCons (fArg mkTup (fCons (fC (.str "from")) (fCons (fVar 3) (fCons (fVar 2) fNil)))) (fCons (fArg mkTup (fCons (fC (.str "given")) (fCons (fC (.int 0)) fNil))) fNil)))) (fCons (fArg mkTup (fCons (fC (.str "make")) (fCons (fArg mkTup (fCons (fC (.str "unit")) fNil)) (fCons (fArg mkTup (fCons (fC (.str "make")) (fCons (fVar 3) (fCons (fArg mkTup (fCons (fC (.str "unit")) fNil)) fNil)))) fNil)))) fNil))))
  (sSeq (sExp (fMth gAppend (fVar 4) (fCons (fArg mkTup (fCons (fC (.str "make")) (fCons (fArg mkTup (fCons (fC (.str "both")) (fCons (fVar 2) (fCons (fArg mkTup (fCons (fC (.str "from")) (fCons (fVar 3) (fCons (fArg mkTup (fCons (fC (.str "unit")) fNil)) fNil)))) fNil)))) (fCons (fArg mkTup (fCons (fC (.str "first")) (fCons (fArg mkTup (fCons (fC (.str "given")) (fCons (fC (.int 0)) fNil))) fNil))) fNil)))) fNil)))
  (sSeq (sExp (fMth gAppend (fVar 4) (fCons (fArg mkTup (fCons (fC (.str "make")) (fCons (fVar 2) (fCons (fArg mkTup (fCons (fC (.str "both")) (fCons (fArg mkTup (fCons (fC (.str "given")) (fCons (fC (.int 0)) fNil))) (fCons (fArg mkTup (fCons (fC (.str "make")) (fCons (fVar 3) (fCons (fArg mkTup (fCons (fC (.str "do")) (fCons (fArg mkTup (fCons (fC (.str "given")) (fCons (fC (.int 1)) fNil))) (fCons (fArg mkTup (fCons (fC (.str "given")) (fCons (fC (.int 0)) fNil))) fNil)))) fNil)))) fNil)))) fNil)))) fNil)))
  (sRet (f2 gIx (fVar 4) (fArg (cl .f__law_draw) (fCons (fVar 0) (fCons (fC (.int 4)) fNil))))))))))
noncomputable def l_law_0 (cl : Fn → FF) : FS :=
  (sIf (fOr (fB (f2 gNe (fArg (cl .f__law_word) (fCons (fVar 7) (fCons (fVar 8) (fCons (fVar 9) fNil)))) (fVar 10))) (fB (f2 gNe (fArg gStrT (fCons (fArg mkTup (fCons (fVar 7) (fCons (fVar 8) (fCons (fVar 9) fNil)))) fNil)) (fVar 11)))) (sRet (fC (.bl false))) sNil)
noncomputable def l_law_1 (cl : Fn → FF) : FS :=
  (sSeq (sSet 2 (fArg (cl .f__law_well) (fCons (fVar 1) fNil)))
  (sSeq (sSet 3 (fArg (cl .f__law_draw) (fCons (fVar 2) (fCons (fC (.int 8)) fNil))))
  (sSeq (sAsg (fArg (cl .f__law_function) (fCons (fVar 2) (fCons (fVar 3) fNil))) (gTu 3 (gsCons (gN 4) (gsCons (gN 5) (gsCons (gN 6) gsNil)))))
  (sSeq (sSet 7 (fArg mkTup (fCons (fC (.str "make")) (fCons (fVar 4) (fCons (fArg (cl .f__law_one) (fCons (fVar 2) (fCons (fArg mkLst (fCons (fArg mkTup (fCons (fC (.str "given")) (fCons (fC (.int 0)) fNil))) (fCons (fArg mkTup (fCons (fC (.str "unit")) fNil)) (fCons (fArg mkTup (fCons (fC (.str "both")) (fCons (fArg mkTup (fCons (fC (.str "given")) (fCons (fC (.int 0)) fNil))) (fCons (fArg mkTup (fCons (fC (.str "unit")) fNil)) fNil)))) fNil)))) fNil))) fNil)))))
  (sSeq (sSet 8 (fArg mkCel (fCons (fC (.int 1)) (fCons (fC (.int 1)) (fCons (fC (.int 1)) (fCons (fC (.int 1)) (fCons (fC (.int 999)) (fCons (fC (.int 1)) (fCons (fC (.int 1)) (fCons (fC (.int 1)) fNil))))))))))
  (sSeq (sAsg (fC (.int 2)) (gSb (fVar 8) (fVar 3)))
  (sSeq (sSet 9 (fArg (cl .f__law_one) (fCons (fVar 2) (fCons (fVar 5) fNil))))
  (sSeq (sSet 10 (fC (.str "told")))
  (sSeq (sIf (fB (f2 gEq (fArg (cl .f__law_draw) (fCons (fVar 2) (fCons (fC (.int 2)) fNil))) (fC (.int 0)))) (sSeq (sSet 9 (fArg (cl .f__law_one) (fCons (fVar 2) (fCons (fVar 6) fNil))))
  (sSet 10 (fC (.str "worth")))) sNil)
  (sSeq (sIf (fB (f2 gEq (fArg (cl .f__law_draw) (fCons (fVar 2) (fCons (fC (.int 4)) fNil))) (fC (.int 0)))) (sSeq (sSet 7 (fArg (cl .f__law_great) (fCons (fVar 2) (fCons (fVar 3) fNil))))
  (sSeq (sAsg (fC (.int 7)) (gSb (fVar 8) (fVar 3)))
  (sSet 10 (fC (.str "great"))))) sNil)
  (sSeq (sIf (fB (f2 gEq (fArg (cl .f__law_draw) (fCons (fVar 2) (fCons (fC (.int 3)) fNil))) (fC (.int 0)))) (sSeq (sSet 13 (fArg mkCel (fCons (fSl (gSl false) (fVar 8) (fSome (fC (.int 1))) fNone) (fCons (f2 (gAdd false) (fVar 8) (fArg mkLst (fCons (fC (.int 1)) fNil))) (fCons (f2 (gAdd false) (fArg mkLst (fCons (fC (.int 0)) fNil)) (fSl (gSl false) (fVar 8) (fSome (fC (.int 1))) fNone)) (fCons (f2 (gAdd false) (fSl (gSl false) (fVar 8) fNone (fSome (fC (.int 7)))) (fArg mkLst (fCons (fC (.int 1000)) fNil))) (fCons (f2 (gAdd false) (fSl (gSl false) (fVar 8) fNone (fSome (fC (.int 7)))) (fArg mkLst (fCons (fC (.bl true)) fNil))) (fCons (fArg gTuple (fCons (fVar 8) fNil)) fNil))))))))
  (sSeq (sSet 8 (fArg (cl .f__law_one) (fCons (fVar 2) (fCons (f2 (gAdd false) (fVar 13) (fArg mkLst (fCons (fC .non) (fCons (fC (.str "sizes")) (fCons (f2 (gAdd false) (fSl (gSl false) (fVar 8) fNone (fSome (fC (.int 7)))) (fArg mkLst (fCons (fC (.str "1")) fNil))) (fCons (fDic [] []) (fCons (fC (.int 8)) fNil))))))) fNil))))
  (sSet 10 (fC (.str "sizes"))))) sNil)
  (sSeq (sIf (fB (f2 gEq (fArg (cl .f__law_draw) (fCons (fVar 2) (fCons (fC (.int 4)) fNil))) (fC (.int 0)))) (sSeq (sSet 13 (fArg mkCel (fCons (fArg mkTup (fCons (fC (.str "given")) (fCons (fC (.int 0)) fNil))) (fCons (fArg mkTup (fCons (fC (.str "unit")) fNil)) (fCons (fC .non) (fCons (fArg mkTup (fCons (fC (.str "make")) (fCons (fVar 4) (fCons (fArg mkTup (fCons (fC (.str "given")) (fCons (fC (.int 1)) fNil))) fNil)))) (fCons (fArg mkTup (fCons (fC (.str "make")) (fCons (fC .non) (fCons (fArg mkTup (fCons (fC (.str "unit")) fNil)) fNil)))) fNil)))))))
  (sSeq (sSet 13 (f2 (gAdd true) (fVar 13) (fArg mkLst (fCons (fArg mkTup (fCons (fC (.str "both")) (fCons (fVar 7) (fCons (fVar 7) fNil)))) (fCons (fArg mkTup (fCons (fC (.str "do")) (fCons (fVar 7) (fCons (fVar 7) fNil)))) (fCons (fArg mkTup (fCons (fC (.str "first")) (fCons (fVar 7) fNil))) (fCons (fArg (gList false) (fCons (fVar 7) fNil)) (fCons (fArg mkTup (fCons (fC (.str "make")) (fCons (fVar 4) fNil))) fNil))))))))
  (sSeq (sExp (fMth gAppend (fVar 13) (fCons (fArg mkTup (fCons (fC (.str "make")) (fCons (fArg mkTup (fCons (fC (.str "base")) (fCons (fC (.int 9)) fNil))) (fCons (fArg mkTup (fCons (fC (.str "unit")) fNil)) fNil)))) fNil)))
  (sSeq (sSet 7 (fArg (cl .f__law_one) (fCons (fVar 2) (fCons (fVar 13) fNil))))
  (sSet 10 (fC (.str "term"))))))) sNil)
  (sSeq (sSet 11 (fArg gStrT (fCons (fArg mkTup (fCons (fVar 7) (fCons (fVar 8) (fCons (fVar 9) fNil)))) fNil)))
  (sFor (fiR1 (fCons (fC (.int 2)) fNil)) (gN 12) (l_law_0 cl)))))))))))))))
noncomputable def b_law (cl : Fn → FF) : FS :=
  (sSeq (sFor (fiL (f2 (gAdd false) (fArg mkLst (fCons (fC (.int 0)) (fCons (fC (.int 3)) fNil))) (fSl (gSl false) (fVar 0) fNone (fSome (fC (.int 8)))))) (gN 1) (l_law_1 cl))
  (sRet (fC (.bl true))))
noncomputable def ev : Nat → Fn → FF
  | 0, _ => fun _ _ => .no
  | n + 1, .f_Reckoner___init__ => fnB 2 2 (b_Reckoner___init__ (ev n))
  | n + 1, .f_Reckoner_all_of => fnB 2 4 (b_Reckoner_all_of (ev n))
  | 1, .f_Reckoner_held => fun _ _ => .no
  | n + 2, .f_Reckoner_held => fnB 3 3 (b_Reckoner_held (ev (n + 1)) (ev n))
  | n + 1, .f_Reckoner_told => fnB 3 6 (b_Reckoner_told (ev n))
  | 1, .f_Reckoner_worked => fun _ _ => .no
  | n + 2, .f_Reckoner_worked => fnB 3 5 (b_Reckoner_worked (ev (n + 1)) (ev n))
  | n + 1, .f_Told___init__ => fnB 4 4 (b_Told___init__ (ev n))
  | n + 1, .f_Told_handed => fnB 2 3 (b_Told_handed (ev n))
  | n + 1, .f_Made___init__ => fnB 4 4 (b_Made___init__ (ev n))
  | n + 1, .f_Made_handed => fnB 2 2 (b_Made_handed (ev n))
  | n + 1, .f_is_from => fnB 3 3 (b_is_from (ev n))
  | n + 1, .f_inner_of => fnB 1 1 (b_inner_of (ev n))
  | n + 1, .f_is_kind => fnC 1 3 (b_is_kind (ev n))
  | n + 1, .f_sure_kind => fnB 1 1 (b_sure_kind (ev n))
  | n + 1, .f_sure_sizes => fnB 1 3 (b_sure_sizes (ev n))
  | n + 1, .f_power_up_to => fnB 2 4 (b_power_up_to (ev n))
  | n + 1, .f_number_up_to => fnB 2 4 (b_number_up_to (ev n))
  | n + 1, .f_sure_taken => fnB 2 2 (b_sure_taken (ev n))
  | n + 1, .f_lists_of => fnB 2 6 (b_lists_of (ev n))
  | n + 1, .f_all_worths => fnB 2 5 (b_all_worths (ev n))
  | n + 1, .f_worths => fnB 2 2 (b_worths (ev n))
  | n + 1, .f_is_plain_worth => fnB 3 4 (b_is_plain_worth (ev n))
  | n + 1, .f_is_worth => fnB 3 3 (b_is_worth (ev n))
  | n + 1, .f_is_shape => fnB 1 1 (b_is_shape (ev n))
  | n + 1, .f_kind_of_given => fnB 2 2 (b_kind_of_given (ev n))
  | n + 1, .f_kind_of_two => fnB 3 3 (b_kind_of_two (ev n))
  | n + 1, .f_kind_in => fnB 2 5 (b_kind_in (ev n))
  | n + 1, .f_sure_kind_in => fnB 2 3 (b_sure_kind_in (ev n))
  | 1, .f_done => fun _ _ => .no
  | n + 2, .f_done => fnC 3 5 (b_done (ev (n + 1)) (ev n))
  | n + 1, .f__law_well => fnB 1 1 (b__law_well (ev n))
  | n + 1, .f__law_draw => fnB 2 4 (b__law_draw (ev n))
  | n + 1, .f__law_word => fnB 3 6 (b__law_word (ev n))
  | n + 1, .f__law_one => fnB 2 2 (b__law_one (ev n))
  | n + 1, .f__law_function => fnB 2 5 (b__law_function (ev n))
  | n + 1, .f__law_great => fnC 2 5 (b__law_great (ev n))
  | n + 1, .f_law => fnB 1 14 (b_law (ev n))
@[reducible] def calOf [Wo] (P : Program) (w : World) (K : PySem.W.Frag) (mg : Str → Option Value) (base : Heap) (k : Nat) (g : Fn) (f : FF) : Prop := match g with
  | .f_Reckoner___init__ => CalM P w K mg base k "Reckoner" "__init__" f
  | .f_Reckoner_all_of => CalM P w K mg base k "Reckoner" "all_of" f
  | .f_Reckoner_held => CalM P w K mg base k "Reckoner" "held" f
  | .f_Reckoner_told => CalM P w K mg base k "Reckoner" "told" f
  | .f_Reckoner_worked => CalM P w K mg base k "Reckoner" "worked" f
  | .f_Told___init__ => CalM P w K mg base k "Told" "__init__" f
  | .f_Told_handed => CalM P w K mg base k "Told" "handed" f
  | .f_Made___init__ => CalM P w K mg base k "Made" "__init__" f
  | .f_Made_handed => CalM P w K mg base k "Made" "handed" f
  | .f_is_from => Cal P w K mg base k "is_from" f
  | .f_inner_of => Cal P w K mg base k "inner_of" f
  | .f_is_kind => Cal P w K mg base k "is_kind" f
  | .f_sure_kind => Cal P w K mg base k "sure_kind" f
  | .f_sure_sizes => Cal P w K mg base k "sure_sizes" f
  | .f_power_up_to => Cal P w K mg base k "power_up_to" f
  | .f_number_up_to => Cal P w K mg base k "number_up_to" f
  | .f_sure_taken => Cal P w K mg base k "sure_taken" f
  | .f_lists_of => Cal P w K mg base k "lists_of" f
  | .f_all_worths => Cal P w K mg base k "all_worths" f
  | .f_worths => Cal P w K mg base k "worths" f
  | .f_is_plain_worth => Cal P w K mg base k "is_plain_worth" f
  | .f_is_worth => Cal P w K mg base k "is_worth" f
  | .f_is_shape => Cal P w K mg base k "is_shape" f
  | .f_kind_of_given => Cal P w K mg base k "kind_of_given" f
  | .f_kind_of_two => Cal P w K mg base k "kind_of_two" f
  | .f_kind_in => Cal P w K mg base k "kind_in" f
  | .f_sure_kind_in => Cal P w K mg base k "sure_kind_in" f
  | .f_done => Cal P w K mg base k "done" f
  | .f__law_well => Cal P w K mg base k "_law_well" f
  | .f__law_draw => Cal P w K mg base k "_law_draw" f
  | .f__law_word => Cal P w K mg base k "_law_word" f
  | .f__law_one => Cal P w K mg base k "_law_one" f
  | .f__law_function => Cal P w K mg base k "_law_function" f
  | .f__law_great => Cal P w K mg base k "_law_great" f
  | .f_law => Cal P w K mg base k "law" f
structure Txt (K : PySem.W.Frag) (P : Params) (mg : Str → Option Value) : Prop where
  t_Reckoner___init__ : TM K mg "Reckoner" "__init__" "Reckoner.__init__" s_Reckoner___init__ ["self", "sizes"]
  t_Reckoner_all_of : TM K mg "Reckoner" "all_of" "Reckoner.all_of" s_Reckoner_all_of ["self", "kind"]
  t_Reckoner_held : TM K mg "Reckoner" "held" "Reckoner.held" s_Reckoner_held ["self", "kind", "worth"]
  t_Reckoner_told : TM K mg "Reckoner" "told" "Reckoner.told" s_Reckoner_told ["self", "kind", "thing"]
  t_Reckoner_worked : TM K mg "Reckoner" "worked" "Reckoner.worked" s_Reckoner_worked ["self", "term", "things"]
  t_Told___init__ : TM K mg "Told" "__init__" "Told.__init__" s_Told___init__ ["self", "reckoner", "kind", "worth"]
  t_Told_handed : TM K mg "Told" "handed" "Told.handed" s_Told_handed ["self", "thing"]
  t_Made___init__ : TM K mg "Made" "__init__" "Made.__init__" s_Made___init__ ["self", "reckoner", "body", "things"]
  t_Made_handed : TM K mg "Made" "handed" "Made.handed" s_Made_handed ["self", "thing"]
  t_is_from : TF K mg "is_from" s_is_from ["thing", "low", "high"]
  t_inner_of : TF K mg "inner_of" s_inner_of ["thing"]
  t_is_kind : TF K mg "is_kind" s_is_kind ["thing"]
  t_sure_kind : TF K mg "sure_kind" s_sure_kind ["thing"]
  t_sure_sizes : TF K mg "sure_sizes" s_sure_sizes ["thing"]
  t_power_up_to : TF K mg "power_up_to" s_power_up_to ["base", "times"]
  t_number_up_to : TF K mg "number_up_to" s_number_up_to ["kind", "sizes"]
  t_sure_taken : TF K mg "sure_taken" s_sure_taken ["kind", "sizes"]
  t_lists_of : TF K mg "lists_of" s_lists_of ["things", "many"]
  t_all_worths : TF K mg "all_worths" s_all_worths ["kind", "sizes"]
  t_worths : TF K mg "worths" s_worths ["kind", "sizes"]
  t_is_plain_worth : TF K mg "is_plain_worth" s_is_plain_worth ["kind", "sizes", "thing"]
  t_is_worth : TF K mg "is_worth" s_is_worth ["kind", "sizes", "thing"]
  t_is_shape : TF K mg "is_shape" s_is_shape ["thing"]
  t_kind_of_given : TF K mg "kind_of_given" s_kind_of_given ["k", "given"]
  t_kind_of_two : TF K mg "kind_of_two" s_kind_of_two ["word", "one", "other"]
  t_kind_in : TF K mg "kind_in" s_kind_in ["term", "given"]
  t_sure_kind_in : TF K mg "sure_kind_in" s_sure_kind_in ["term", "given"]
  t_done : TF K mg "done" s_done ["term", "sizes", "worth"]
  t__law_well : TF K mg "_law_well" s__law_well ["_law_cell"]
  t__law_draw : TF K mg "_law_draw" s__law_draw ["_law_well_here", "_law_width"]
  t__law_word : TF K mg "_law_word" s__law_word ["_law_term", "_law_sizes", "_law_worth"]
  t__law_one : TF K mg "_law_one" s__law_one ["_law_well_here", "_law_some"]
  t__law_function : TF K mg "_law_function" s__law_function ["_law_well_here", "_law_n"]
  t__law_great : TF K mg "_law_great" s__law_great ["_law_well_here", "_law_n"]
  m_all : mg "all" = none
  m_bool : mg "bool" = none
  m_enumerate : mg "enumerate" = none
  m_int : mg "int" = none
  m_isinstance : mg "isinstance" = none
  m_len : mg "len" = none
  m_list : mg "list" = none
  m_min : mg "min" = none
  m_range : mg "range" = none
  m_str : mg "str" = none
  m_tuple : mg "tuple" = none
  c_BASES : GC mg "BASES" (.int 8)
  c_LETTERS : GC mg "LETTERS" (.str "abcdefgh")
  c_MARKS : GD K P mg "MARKS" kv_MARKS
  c_MOST_SIZE : GC mg "MOST_SIZE" (.int 999)
  c_MOST_WORTHS : GC mg "MOST_WORTHS" (.int 5000)
  c_PARTS : GD K P mg "PARTS" kv_PARTS
  k_Made : MkC K mg "Made"
  k_Reckoner : MkC K mg "Reckoner"
  k_Told : MkC K mg "Told"
  g_body : ∀ c ∈ (["Made"] : List Str), FldC K mg c "body"
  g_kind : ∀ c ∈ (["Told"] : List Str), FldC K mg c "kind"
  g_lists : ∀ c ∈ (["Reckoner"] : List Str), FldC K mg c "lists"
  g_reckoner : ∀ c ∈ (["Told", "Made"] : List Str), FldC K mg c "reckoner"
  g_sizes : ∀ c ∈ (["Reckoner"] : List Str), FldC K mg c "sizes"
  g_spots : ∀ c ∈ (["Reckoner"] : List Str), FldC K mg c "spots"
  g_things : ∀ c ∈ (["Made"] : List Str), FldC K mg c "things"
  g_worth : ∀ c ∈ (["Told"] : List Str), FldC K mg c "worth"
  x_NoKind : ExcF K mg "NoKind"
  x_NoSizes : ExcF K mg "NoSizes"
  x_NoTerm : ExcF K mg "NoTerm"
  x_NoWorth : ExcF K mg "NoWorth"
  x_TooMany : ExcF K mg "TooMany"
  xk : ∀ y ∈ excs, ExcK K mg y
  c_SwapError : CatF K mg excs "SwapError" (fun y => isx y "SwapError")
  i_NoKind : ∀ y ∈ excs, IsxO K mg y "NoKind" (isx y "NoKind")
  i_NoSizes : ∀ y ∈ excs, IsxO K mg y "NoSizes" (isx y "NoSizes")
  i_NoTerm : ∀ y ∈ excs, IsxO K mg y "NoTerm" (isx y "NoTerm")
  i_NoWorth : ∀ y ∈ excs, IsxO K mg y "NoWorth" (isx y "NoWorth")
  i_TooMany : ∀ y ∈ excs, IsxO K mg y "TooMany" (isx y "TooMany")
section
variable {P : Program} {w : World} {K : PySem.W.Frag} {mg : Str → Option Value} {base : Heap}
theorem ok_Reckoner___init__ {k : Nat} {cl : Fn → FF} [Wo] (T : Txt K w.params mg) (hW : Wo.ww = w) (C : ∀ g : Fn, g ≠ .f_law → calOf P w K mg base k g (cl g)) (f : Addr) (cdv : Value) (A : Around) (outer : List Env) (s : Shared) (H : Hp) (E : XK) (hr : RoomG k (A.deeper (envOfC "Reckoner.__init__" (defScope s_Reckoner___init__) s.heap.objs.size f cdv))) :
    PSs (cxOf (L2.CX P w) P w K mg base ["self", "sizes"] "Reckoner.__init__" (defScope s_Reckoner___init__) f cdv A outer s H E) (defBody s_Reckoner___init__) (tS (cxOf (L2.CX P w) P w K mg base ["self", "sizes"] "Reckoner.__init__" (defScope s_Reckoner___init__) f cdv A outer s H E) (fun c d _ H => E c d H) (b_Reckoner___init__ cl)) := by
  have tk : Takes (cxOf (L2.CX P w) P w K mg base ["self", "sizes"] "Reckoner.__init__" (defScope s_Reckoner___init__) f cdv A outer s H E) (fun c d _ H => E c d H) := takes_of rfl rfl rfl rfl
  have nd := sc_Reckoner___init__.nd
  exact (q_seq (q_sfl (q_var 0) (q_var 1) T.g_sizes)
    (q_seq (q_sfl (q_var 0) (q_newD hW) T.g_lists)
    (q_last (q_sfl (q_var 0) (q_newD hW) T.g_spots))))
theorem ok_Reckoner_all_of {k : Nat} {cl : Fn → FF} [Wo] (T : Txt K w.params mg) (hW : Wo.ww = w) (C : ∀ g : Fn, g ≠ .f_law → calOf P w K mg base k g (cl g)) (f : Addr) (cdv : Value) (A : Around) (outer : List Env) (s : Shared) (H : Hp) (E : XK) (hr : RoomG k (A.deeper (envOfC "Reckoner.all_of" (defScope s_Reckoner_all_of) s.heap.objs.size f cdv))) :
    PSs (cxOf (L2.CX P w) P w K mg base ["self", "kind", "spot", "worth"] "Reckoner.all_of" (defScope s_Reckoner_all_of) f cdv A outer s H E) (defBody s_Reckoner_all_of) (tS (cxOf (L2.CX P w) P w K mg base ["self", "kind", "spot", "worth"] "Reckoner.all_of" (defScope s_Reckoner_all_of) f cdv A outer s H E) (fun c d _ H => E c d H) (b_Reckoner_all_of cl)) := by
  have tk : Takes (cxOf (L2.CX P w) P w K mg base ["self", "kind", "spot", "worth"] "Reckoner.all_of" (defScope s_Reckoner_all_of) f cdv A outer s H E) (fun c d _ H => E c d H) := takes_of rfl rfl rfl rfl
  have nd := sc_Reckoner_all_of.nd
  exact (q_seq (q_ifS (qt_ninD hW (hu2 hr) (q_var 1) (q_fld (q_var 0) T.g_lists)) (q_seq (q_dput hW (hu2 hr) (q_fld (q_var 0) T.g_lists) (q_var 1) (q_call (C .f_worths (fun z => nomatch z)) hr tk rfl (q_cons (q_var 1) (q_cons (q_fld (q_var 0) T.g_sizes) q_nil))))
    (q_last (q_dput hW (hu2 hr) (q_fld (q_var 0) T.g_spots) (q_var 1) (q_dc (own := [("spot", 2), ("worth", 3)]) hW (hu2 hr) rfl nd (qi_enum rfl T.m_enumerate (q_cons (q_dget hW (hu2 hr) (q_fld (q_var 0) T.g_lists) (q_var 1) (fun _ _ => rfl)) q_nil)) (blkOk_by (own := [("spot", 2), ("worth", 3)]) (by rfl)) (by decide) (fun _ _ _ _ _ => (q_gtu rfl (q_gscons (q_gn (i := 2) nd rfl (by first | exact Or.inl rfl | exact Or.inr rfl)) (q_gscons (q_gn (i := 3) nd rfl (by first | exact Or.inl rfl | exact Or.inr rfl)) q_gsnil)))) (fun _ _ _ _ _ => qts_nil) (fun _ _ _ _ _ => (q_var 3)) (fun _ _ _ _ _ => (q_var 2)))))) q_snil)
    (q_last (q_ret (q_dget hW (hu2 hr) (q_fld (q_var 0) T.g_lists) (q_var 1) (fun _ _ => rfl)))))
theorem ok_Reckoner_held {k : Nat} {cl cl2 : Fn → FF} [Wo] (T : Txt K w.params mg) (hW : Wo.ww = w) (C : ∀ g : Fn, g ≠ .f_law → calOf P w K mg base (k + 1) g (cl g)) (C2 : ∀ g : Fn, g ≠ .f_law → calOf P w K mg base k g (cl2 g)) (f : Addr) (cdv : Value) (A : Around) (outer : List Env) (s : Shared) (H : Hp) (E : XK) (hr : RoomG (k + 1) (A.deeper (envOfC "Reckoner.held" (defScope s_Reckoner_held) s.heap.objs.size f cdv))) :
    PSs (cxOf (L2.CX P w) P w K mg base ["self", "kind", "worth"] "Reckoner.held" (defScope s_Reckoner_held) f cdv A outer s H E) (defBody s_Reckoner_held) (tS (cxOf (L2.CX P w) P w K mg base ["self", "kind", "worth"] "Reckoner.held" (defScope s_Reckoner_held) f cdv A outer s H E) (fun c d _ H => E c d H) (b_Reckoner_held cl cl2)) := by
  have tk : Takes (cxOf (L2.CX P w) P w K mg base ["self", "kind", "worth"] "Reckoner.held" (defScope s_Reckoner_held) f cdv A outer s H E) (fun c d _ H => E c d H) := takes_of rfl rfl rfl rfl
  have nd := sc_Reckoner_held.nd
  exact (q_seq (q_ifS (qt_cmp (op_eqU (by have z := hu2 hr; exact z)) eqP_v (q_ix (q_var 1) q_int) q_str (nomark _)) (q_last (q_ret (q_tup (q_cons (q_me (q_var 0) (dm_cons (C .f_Reckoner_held (fun z => nomatch z)) dm_nil) hr tk (q_cons (q_ix (q_var 1) q_int) (q_cons (q_ix (q_var 2) q_int) q_nil))) (q_cons (q_me (q_var 0) (dm_cons (C .f_Reckoner_held (fun z => nomatch z)) dm_nil) hr tk (q_cons (q_ix (q_var 1) q_int) (q_cons (q_ix (q_var 2) q_int) q_nil))) q_nil))))) q_snil)
    (q_seq (q_ifS (qt_cmp (op_eqU (by have z := hu2 hr; exact z)) eqP_v (q_ix (q_var 1) q_int) q_str (nomark _)) (q_last (q_ret (q_make (C2 .f_Told___init__ (fun z => nomatch z)) T.k_Told hr tk rfl (q_cons (q_var 0) (q_cons (q_var 1) (q_cons (q_var 2) q_nil)))))) q_snil)
    (q_last (q_ret (q_var 2)))))
theorem ok_Reckoner_told {k : Nat} {cl : Fn → FF} [Wo] (T : Txt K w.params mg) (hW : Wo.ww = w) (C : ∀ g : Fn, g ≠ .f_law → calOf P w K mg base k g (cl g)) (f : Addr) (cdv : Value) (A : Around) (outer : List Env) (s : Shared) (H : Hp) (E : XK) (hr : RoomG k (A.deeper (envOfC "Reckoner.told" (defScope s_Reckoner_told) s.heap.objs.size f cdv))) :
    PSs (cxOf (L2.CX P w) P w K mg base ["self", "kind", "thing", "some", "worth", "one"] "Reckoner.told" (defScope s_Reckoner_told) f cdv A outer s H E) (defBody s_Reckoner_told) (tS (cxOf (L2.CX P w) P w K mg base ["self", "kind", "thing", "some", "worth", "one"] "Reckoner.told" (defScope s_Reckoner_told) f cdv A outer s H E) (fun c d _ H => E c d H) (b_Reckoner_told cl)) := by
  have tk : Takes (cxOf (L2.CX P w) P w K mg base ["self", "kind", "thing", "some", "worth", "one"] "Reckoner.told" (defScope s_Reckoner_told) f cdv A outer s H E) (fun c d _ H => E c d H) := takes_of rfl rfl rfl rfl
  have nd := sc_Reckoner_told.nd
  exact (q_seq (q_ifS (qt_cmp (op_eqU (by have z := hu2 hr; exact z)) eqP_v (q_ix (q_var 1) q_int) q_str (nomark _)) (q_last (q_ret (q_tup (q_cons (q_me (q_var 0) (dm_cons (C .f_Reckoner_told (fun z => nomatch z)) dm_nil) hr tk (q_cons (q_ix (q_var 1) q_int) (q_cons (q_ix (q_var 2) q_int) q_nil))) (q_cons (q_me (q_var 0) (dm_cons (C .f_Reckoner_told (fun z => nomatch z)) dm_nil) hr tk (q_cons (q_ix (q_var 1) q_int) (q_cons (q_ix (q_var 2) q_int) q_nil))) q_nil))))) q_snil)
    (q_seq (q_ifS (qt_cmp (op_eqU (by have z := hu2 hr; exact z)) eqP_v (q_ix (q_var 1) q_int) q_str (nomark _)) (q_seq (by first | exact (q_setLc (i := 3) (own := [("worth", 4)]) rfl nd rfl rfl (sw_true rfl rfl rfl (by decide +kernel)) (qi_list (q_me (q_var 0) (dm_cons (C .f_Reckoner_all_of (fun z => nomatch z)) dm_nil) hr tk (q_cons (q_ix (q_var 1) q_int) q_nil))) (blkOk_by (own := [("worth", 4)]) (by rfl)) (by decide) (fun _ _ _ _ _ => (q_gn (i := 4) nd rfl (by first | exact Or.inl rfl | exact Or.inr rfl))) (fun _ _ _ _ _ => qts_nil) (fun _ _ _ _ _ => (q_me (q_var 2) (dm_cons (C .f_Told_handed (fun z => nomatch z)) (dm_cons (C .f_Made_handed (fun z => nomatch z)) dm_nil)) hr takes0 (q_cons (q_me (q_var 0) (dm_cons (C .f_Reckoner_held (fun z => nomatch z)) dm_nil) hr takes0 (q_cons (q_ix (q_var 1) q_int) (q_cons (q_var 4) q_nil))) q_nil)))) | exact (q_set (i := 3) nd rfl (by first | exact Or.inl rfl | exact Or.inr rfl) (q_lc (own := [("worth", 4)]) rfl nd (qi_list (q_me (q_var 0) (dm_cons (C .f_Reckoner_all_of (fun z => nomatch z)) dm_nil) hr tk (q_cons (q_ix (q_var 1) q_int) q_nil))) (blkOk_by (own := [("worth", 4)]) (by rfl)) (by decide) (fun _ _ _ _ _ => (q_gn (i := 4) nd rfl (by first | exact Or.inl rfl | exact Or.inr rfl))) (fun _ _ _ _ _ => qts_nil) (fun _ _ _ _ _ => (q_me (q_var 2) (dm_cons (C .f_Told_handed (fun z => nomatch z)) (dm_cons (C .f_Made_handed (fun z => nomatch z)) dm_nil)) hr takes0 (q_cons (q_me (q_var 0) (dm_cons (C .f_Reckoner_held (fun z => nomatch z)) dm_nil) hr takes0 (q_cons (q_ix (q_var 1) q_int) (q_cons (q_var 4) q_nil))) q_nil))))))
    (q_last (q_ret (q_callTy call_tuple_of tuple_v rfl T.m_tuple (by decide +kernel) (q_cons (q_lc (own := [("one", 5)]) rfl nd (qi_list (q_var 3)) (blkOk_by (own := [("one", 5)]) (by rfl)) (by decide) (fun _ _ _ _ _ => (q_gn (i := 5) nd rfl (by first | exact Or.inl rfl | exact Or.inr rfl))) (fun _ _ _ _ _ => qts_nil) (fun _ _ _ _ _ => (q_me (q_var 0) (dm_cons (C .f_Reckoner_told (fun z => nomatch z)) dm_nil) hr takes0 (q_cons (q_ix (q_var 1) q_int) (q_cons (q_var 5) q_nil))))) q_nil))))) q_snil)
    (q_last (q_ret (q_var 2)))))
theorem ok_Reckoner_worked {k : Nat} {cl cl2 : Fn → FF} [Wo] (T : Txt K w.params mg) (hW : Wo.ww = w) (C : ∀ g : Fn, g ≠ .f_law → calOf P w K mg base (k + 1) g (cl g)) (C2 : ∀ g : Fn, g ≠ .f_law → calOf P w K mg base k g (cl2 g)) (f : Addr) (cdv : Value) (A : Around) (outer : List Env) (s : Shared) (H : Hp) (E : XK) (hr : RoomG (k + 1) (A.deeper (envOfC "Reckoner.worked" (defScope s_Reckoner_worked) s.heap.objs.size f cdv))) :
    PSs (cxOf (L2.CX P w) P w K mg base ["self", "term", "things", "word", "one"] "Reckoner.worked" (defScope s_Reckoner_worked) f cdv A outer s H E) (defBody s_Reckoner_worked) (tS (cxOf (L2.CX P w) P w K mg base ["self", "term", "things", "word", "one"] "Reckoner.worked" (defScope s_Reckoner_worked) f cdv A outer s H E) (fun c d _ H => E c d H) (b_Reckoner_worked cl cl2)) := by
  have tk : Takes (cxOf (L2.CX P w) P w K mg base ["self", "term", "things", "word", "one"] "Reckoner.worked" (defScope s_Reckoner_worked) f cdv A outer s H E) (fun c d _ H => E c d H) := takes_of rfl rfl rfl rfl
  have nd := sc_Reckoner_worked.nd
  exact (q_seq (q_set (i := 3) nd rfl (by first | exact Or.inl rfl | exact Or.inr rfl) (q_ix (q_var 1) q_int))
    (q_seq (q_ifS (qt_cmp (op_eqU (by have z := hu2 hr; exact z)) eqP_v (q_var 3) q_str (nomark _)) (q_last (q_ret (q_ix (q_var 2) (q_ix (q_var 1) q_int)))) q_snil)
    (q_seq (q_ifS (qt_cmp (op_eqU (by have z := hu2 hr; exact z)) eqP_v (q_var 3) q_str (nomark _)) (q_last (q_ret (q_tup q_nil))) q_snil)
    (q_seq (q_ifS (qt_cmp (op_eqU (by have z := hu2 hr; exact z)) eqP_v (q_var 3) q_str (nomark _)) (q_last (q_ret (q_make (C2 .f_Made___init__ (fun z => nomatch z)) T.k_Made hr tk rfl (q_cons (q_var 0) (q_cons (q_ix (q_var 1) q_int) (q_cons (q_var 2) q_nil)))))) q_snil)
    (q_seq (q_set (i := 4) nd rfl (by first | exact Or.inl rfl | exact Or.inr rfl) (q_me (q_var 0) (dm_cons (C .f_Reckoner_worked (fun z => nomatch z)) dm_nil) hr tk (q_cons (q_ix (q_var 1) q_int) (q_cons (q_var 2) q_nil))))
    (q_seq (q_ifS (qt_cmp (op_eqU (by have z := hu2 hr; exact z)) eqP_v (q_var 3) q_str (nomark _)) (q_last (q_ret (q_me (q_var 4) (dm_cons (C .f_Told_handed (fun z => nomatch z)) (dm_cons (C .f_Made_handed (fun z => nomatch z)) dm_nil)) hr tk (q_cons (q_me (q_var 0) (dm_cons (C .f_Reckoner_worked (fun z => nomatch z)) dm_nil) hr tk (q_cons (q_ix (q_var 1) q_int) (q_cons (q_var 2) q_nil))) q_nil)))) q_snil)
    (q_seq (q_ifS (qt_cmp (op_eqU (by have z := hu2 hr; exact z)) eqP_v (q_var 3) q_str (nomark _)) (q_last (q_ret (q_tup (q_cons (q_var 4) (q_cons (q_me (q_var 0) (dm_cons (C .f_Reckoner_worked (fun z => nomatch z)) dm_nil) hr tk (q_cons (q_ix (q_var 1) q_int) (q_cons (q_var 2) q_nil))) q_nil))))) q_snil)
    (q_last (q_ret (q_ix (q_var 4) (q_callTy call_int1 int_v rfl T.m_int (by decide +kernel) (q_cons (q_cmp (op_eqU (by have z := hu2 hr; exact z)) eqP_v (q_var 3) q_str (nomark _)) q_nil))))))))))))
theorem ok_Told___init__ {k : Nat} {cl : Fn → FF} [Wo] (T : Txt K w.params mg) (hW : Wo.ww = w) (C : ∀ g : Fn, g ≠ .f_law → calOf P w K mg base k g (cl g)) (f : Addr) (cdv : Value) (A : Around) (outer : List Env) (s : Shared) (H : Hp) (E : XK) (hr : RoomG k (A.deeper (envOfC "Told.__init__" (defScope s_Told___init__) s.heap.objs.size f cdv))) :
    PSs (cxOf (L2.CX P w) P w K mg base ["self", "reckoner", "kind", "worth"] "Told.__init__" (defScope s_Told___init__) f cdv A outer s H E) (defBody s_Told___init__) (tS (cxOf (L2.CX P w) P w K mg base ["self", "reckoner", "kind", "worth"] "Told.__init__" (defScope s_Told___init__) f cdv A outer s H E) (fun c d _ H => E c d H) (b_Told___init__ cl)) := by
  have tk : Takes (cxOf (L2.CX P w) P w K mg base ["self", "reckoner", "kind", "worth"] "Told.__init__" (defScope s_Told___init__) f cdv A outer s H E) (fun c d _ H => E c d H) := takes_of rfl rfl rfl rfl
  have nd := sc_Told___init__.nd
  exact (q_seq (q_sfl (q_var 0) (q_var 1) T.g_reckoner)
    (q_seq (q_sfl (q_var 0) (q_var 2) T.g_kind)
    (q_last (q_sfl (q_var 0) (q_var 3) T.g_worth))))
theorem ok_Told_handed {k : Nat} {cl : Fn → FF} [Wo] (T : Txt K w.params mg) (hW : Wo.ww = w) (C : ∀ g : Fn, g ≠ .f_law → calOf P w K mg base k g (cl g)) (f : Addr) (cdv : Value) (A : Around) (outer : List Env) (s : Shared) (H : Hp) (E : XK) (hr : RoomG k (A.deeper (envOfC "Told.handed" (defScope s_Told_handed) s.heap.objs.size f cdv))) :
    PSs (cxOf (L2.CX P w) P w K mg base ["self", "thing", "one"] "Told.handed" (defScope s_Told_handed) f cdv A outer s H E) (defBody s_Told_handed) (tS (cxOf (L2.CX P w) P w K mg base ["self", "thing", "one"] "Told.handed" (defScope s_Told_handed) f cdv A outer s H E) (fun c d _ H => E c d H) (b_Told_handed cl)) := by
  have tk : Takes (cxOf (L2.CX P w) P w K mg base ["self", "thing", "one"] "Told.handed" (defScope s_Told_handed) f cdv A outer s H E) (fun c d _ H => E c d H) := takes_of rfl rfl rfl rfl
  have nd := sc_Told_handed.nd
  exact (q_seq (q_set (i := 2) nd rfl (by first | exact Or.inl rfl | exact Or.inr rfl) (q_me (q_fld (q_var 0) T.g_reckoner) (dm_cons (C .f_Reckoner_told (fun z => nomatch z)) dm_nil) hr tk (q_cons (q_ix (q_fld (q_var 0) T.g_kind) q_int) (q_cons (q_var 1) q_nil))))
    (q_seq (q_expr (q_me (q_fld (q_var 0) T.g_reckoner) (dm_cons (C .f_Reckoner_all_of (fun z => nomatch z)) dm_nil) hr tk (q_cons (q_ix (q_fld (q_var 0) T.g_kind) q_int) q_nil)))
    (q_last (q_ret (q_me (q_fld (q_var 0) T.g_reckoner) (dm_cons (C .f_Reckoner_held (fun z => nomatch z)) dm_nil) hr tk (q_cons (q_ix (q_fld (q_var 0) T.g_kind) q_int) (q_cons (q_ix (q_fld (q_var 0) T.g_worth) (q_dget hW (hu2 hr) (q_dget hW (hu2 hr) (q_fld (q_fld (q_var 0) T.g_reckoner) T.g_spots) (q_ix (q_fld (q_var 0) T.g_kind) q_int) (fun _ _ => rfl)) (q_var 2) (fun _ _ => rfl))) q_nil)))))))
theorem ok_Made___init__ {k : Nat} {cl : Fn → FF} [Wo] (T : Txt K w.params mg) (hW : Wo.ww = w) (C : ∀ g : Fn, g ≠ .f_law → calOf P w K mg base k g (cl g)) (f : Addr) (cdv : Value) (A : Around) (outer : List Env) (s : Shared) (H : Hp) (E : XK) (hr : RoomG k (A.deeper (envOfC "Made.__init__" (defScope s_Made___init__) s.heap.objs.size f cdv))) :
    PSs (cxOf (L2.CX P w) P w K mg base ["self", "reckoner", "body", "things"] "Made.__init__" (defScope s_Made___init__) f cdv A outer s H E) (defBody s_Made___init__) (tS (cxOf (L2.CX P w) P w K mg base ["self", "reckoner", "body", "things"] "Made.__init__" (defScope s_Made___init__) f cdv A outer s H E) (fun c d _ H => E c d H) (b_Made___init__ cl)) := by
  have tk : Takes (cxOf (L2.CX P w) P w K mg base ["self", "reckoner", "body", "things"] "Made.__init__" (defScope s_Made___init__) f cdv A outer s H E) (fun c d _ H => E c d H) := takes_of rfl rfl rfl rfl
  have nd := sc_Made___init__.nd
  exact (q_seq (q_sfl (q_var 0) (q_var 1) T.g_reckoner)
    (q_seq (q_sfl (q_var 0) (q_var 2) T.g_body)
    (q_last (q_sfl (q_var 0) (q_var 3) T.g_things))))
theorem ok_Made_handed {k : Nat} {cl : Fn → FF} [Wo] (T : Txt K w.params mg) (hW : Wo.ww = w) (C : ∀ g : Fn, g ≠ .f_law → calOf P w K mg base k g (cl g)) (f : Addr) (cdv : Value) (A : Around) (outer : List Env) (s : Shared) (H : Hp) (E : XK) (hr : RoomG k (A.deeper (envOfC "Made.handed" (defScope s_Made_handed) s.heap.objs.size f cdv))) :
    PSs (cxOf (L2.CX P w) P w K mg base ["self", "thing"] "Made.handed" (defScope s_Made_handed) f cdv A outer s H E) (defBody s_Made_handed) (tS (cxOf (L2.CX P w) P w K mg base ["self", "thing"] "Made.handed" (defScope s_Made_handed) f cdv A outer s H E) (fun c d _ H => E c d H) (b_Made_handed cl)) := by
  have tk : Takes (cxOf (L2.CX P w) P w K mg base ["self", "thing"] "Made.handed" (defScope s_Made_handed) f cdv A outer s H E) (fun c d _ H => E c d H) := takes_of rfl rfl rfl rfl
  have nd := sc_Made_handed.nd
  exact (q_last (q_ret (q_me (q_fld (q_var 0) T.g_reckoner) (dm_cons (C .f_Reckoner_worked (fun z => nomatch z)) dm_nil) hr tk (q_cons (q_fld (q_var 0) T.g_body) (q_cons (q_op op_addU addU_v (q_fld (q_var 0) T.g_things) (q_lst (q_cons (q_var 1) q_nil))) q_nil)))))
theorem ok_is_from {k : Nat} {cl : Fn → FF} [Wo] (T : Txt K w.params mg) (hW : Wo.ww = w) (C : ∀ g : Fn, g ≠ .f_law → calOf P w K mg base k g (cl g)) (f : Addr) (cdv : Value) (A : Around) (outer : List Env) (s : Shared) (H : Hp) (E : XK) (hr : RoomG k (A.deeper (envOfC "is_from" (defScope s_is_from) s.heap.objs.size f cdv))) :
    PSs (cxOf (L2.CX P w) P w K mg base ["thing", "low", "high"] "is_from" (defScope s_is_from) f cdv A outer s H E) (defBody s_is_from) (tS (cxOf (L2.CX P w) P w K mg base ["thing", "low", "high"] "is_from" (defScope s_is_from) f cdv A outer s H E) (fun c d _ H => E c d H) (b_is_from cl)) := by
  have tk : Takes (cxOf (L2.CX P w) P w K mg base ["thing", "low", "high"] "is_from" (defScope s_is_from) f cdv A outer s H E) (fun c d _ H => E c d H) := takes_of rfl rfl rfl rfl
  have nd := sc_is_from.nd
  exact (q_last (q_ret (q_and (q_isi rfl T.m_isinstance rfl T.m_int (by decide +kernel) (by decide) (q_var 0)) (q_and (q_not (q_isi rfl T.m_isinstance rfl T.m_bool (by decide +kernel) (by decide) (q_var 0))) (q_one (q_chain op_le (cmp_v _) op_le (cmp_v _) (q_var 1) (q_var 0) (q_var 2)))))))
theorem ok_inner_of {k : Nat} {cl : Fn → FF} [Wo] (T : Txt K w.params mg) (hW : Wo.ww = w) (C : ∀ g : Fn, g ≠ .f_law → calOf P w K mg base k g (cl g)) (f : Addr) (cdv : Value) (A : Around) (outer : List Env) (s : Shared) (H : Hp) (E : XK) (hr : RoomG k (A.deeper (envOfC "inner_of" (defScope s_inner_of) s.heap.objs.size f cdv))) :
    PSs (cxOf (L2.CX P w) P w K mg base ["thing"] "inner_of" (defScope s_inner_of) f cdv A outer s H E) (defBody s_inner_of) (tS (cxOf (L2.CX P w) P w K mg base ["thing"] "inner_of" (defScope s_inner_of) f cdv A outer s H E) (fun c d _ H => E c d H) (b_inner_of cl)) := by
  have tk : Takes (cxOf (L2.CX P w) P w K mg base ["thing"] "inner_of" (defScope s_inner_of) f cdv A outer s H E) (fun c d _ H => E c d H) := takes_of rfl rfl rfl rfl
  have nd := sc_inner_of.nd
  exact (q_seq (q_ifS (PW.pt (qw_or (qt_not (qt_tru (q_isi rfl T.m_isinstance rfl T.m_tuple (by decide +kernel) (by decide) (q_var 0)))) (qw_or (qt_cmp (op_eqU (by have z := hu2 hr; exact z)) eqP_v (q_callB call_len len_v rfl T.m_len PySem.boot_len (q_cons (q_var 0) q_nil)) q_int (nomark _)) (qw_one (qt_not (qt_tru (q_isi rfl T.m_isinstance rfl T.m_str (by decide +kernel) (by decide) (q_ix (q_var 0) q_int)))))))) (q_last (q_ret q_non)) q_snil)
    (q_seq (q_ifS (qt_cmp (op_eqU (by have z := hu2 hr; exact z)) eqP_v (q_ix (q_var 0) q_int) q_str (nomark _)) (q_last (q_ret (q_if (PW.pt (qw_and (qt_cmp (op_eqU (by have z := hu2 hr; exact z)) eqP_v (q_callB call_len len_v rfl T.m_len PySem.boot_len (q_cons (q_var 0) q_nil)) q_int (nomark _)) (qw_one (qt_tru (q_call (C .f_is_from (fun z => nomatch z)) hr tk rfl (q_cons (q_ix (q_var 0) q_int) (q_cons q_int (q_cons (q_op op_sub sub_v (q_callB call_len len_v rfl T.m_len PySem.boot_len (q_cons (q_gc T.c_LETTERS rfl) q_nil)) q_int) q_nil)))))))) (q_lst q_nil) q_non))) q_snil)
    (q_seq (q_ifS (qt_cmp (op_eqU (by have z := hu2 hr; exact z)) eqP_v (q_ix (q_var 0) q_int) q_str (nomark _)) (q_last (q_ret (q_if (qt_cmp (op_eqU (by have z := hu2 hr; exact z)) eqP_v (q_callB call_len len_v rfl T.m_len PySem.boot_len (q_cons (q_var 0) q_nil)) q_int (nomark _)) (q_lst q_nil) q_non))) q_snil)
    (q_last (q_ret (q_if (PW.pt (qw_and (qt_inG T.c_MARKS (q_ix (q_var 0) q_int) (q_gd T.c_MARKS rfl)) (qw_one (qt_cmp (op_eqU (by have z := hu2 hr; exact z)) eqP_v (q_callB call_len len_v rfl T.m_len PySem.boot_len (q_cons (q_var 0) q_nil)) q_int (nomark _))))) (q_callTy call_list_of list_v rfl T.m_list (by decide +kernel) (q_cons (q_slice (q_var 0) (q_some q_int) q_none) q_nil)) q_non))))))
theorem ok_is_kind {k : Nat} {cl : Fn → FF} [Wo] (T : Txt K w.params mg) (hW : Wo.ww = w) (C : ∀ g : Fn, g ≠ .f_law → calOf P w K mg base k g (cl g)) (f : Addr) (cdv : Value) (A : Around) (outer : List Env) (s : Shared) (H : Hp) (E : XK) (hr : RoomG k (A.deeper (envOfC "is_kind" (defScope s_is_kind) s.heap.objs.size f cdv))) :
    PSs (cxOf (L2.CX P w) P w K mg base ["thing", "left", "inner"] "is_kind" (defScope s_is_kind) f cdv A outer s H E) (defBody s_is_kind) (tS (cxOf (L2.CX P w) P w K mg base ["thing", "left", "inner"] "is_kind" (defScope s_is_kind) f cdv A outer s H E) (fun c d _ H => E c d H) (b_is_kind cl)) := by
  have tk : Takes (cxOf (L2.CX P w) P w K mg base ["thing", "left", "inner"] "is_kind" (defScope s_is_kind) f cdv A outer s H E) (fun c d _ H => E c d H) := takes_of rfl rfl rfl rfl
  have nd := sc_is_kind.nd
  exact (q_seq (q_set (i := 1) nd rfl (by first | exact Or.inl rfl | exact Or.inr rfl) (q_cel (q_cons (q_var 0) q_nil)))
    (q_seq (q_while (passes_of rfl) (qt_cmp (op_neU (by have z := hu2 hr; exact z)) neP_v (q_var 1) (q_lst q_nil) (nomark _)) (q_seq (q_set (i := 2) nd rfl (by first | exact Or.inl rfl | exact Or.inr rfl) (q_call (C .f_inner_of (fun z => nomatch z)) hr tk rfl (q_cons (q_mth0 PySem.F.slot_list_pop PySem.F.type_list_pop mt_pop pop0_v (q_var 1)) q_nil)))
    (q_seq (q_ifS (qt_cmp op_isU isU_v (q_var 2) q_non (nomark _)) (q_last (q_ret q_bl)) q_snil)
    (q_last (q_expr (q_mth PySem.F.slot_list_extend PySem.F.type_list_extend mt_extend extend_v (q_var 1) (q_cons (q_var 2) q_nil)))))))
    (q_last (q_ret q_bl))))
theorem ok_sure_kind {k : Nat} {cl : Fn → FF} [Wo] (T : Txt K w.params mg) (hW : Wo.ww = w) (C : ∀ g : Fn, g ≠ .f_law → calOf P w K mg base k g (cl g)) (f : Addr) (cdv : Value) (A : Around) (outer : List Env) (s : Shared) (H : Hp) (E : XK) (hr : RoomG k (A.deeper (envOfC "sure_kind" (defScope s_sure_kind) s.heap.objs.size f cdv))) :
    PSs (cxOf (L2.CX P w) P w K mg base ["thing"] "sure_kind" (defScope s_sure_kind) f cdv A outer s H E) (defBody s_sure_kind) (tS (cxOf (L2.CX P w) P w K mg base ["thing"] "sure_kind" (defScope s_sure_kind) f cdv A outer s H E) (fun c d _ H => E c d H) (b_sure_kind cl)) := by
  have tk : Takes (cxOf (L2.CX P w) P w K mg base ["thing"] "sure_kind" (defScope s_sure_kind) f cdv A outer s H E) (fun c d _ H => E c d H) := takes_of rfl rfl rfl rfl
  have nd := sc_sure_kind.nd
  exact (q_last (q_ifS (qt_not (qt_tru (q_call (C .f_is_kind (fun z => nomatch z)) hr tk rfl (q_cons (q_var 0) q_nil)))) (q_last (q_raise rfl tk T.x_NoKind rfl)) q_snil))
theorem ok_sure_sizes {k : Nat} {cl : Fn → FF} [Wo] (T : Txt K w.params mg) (hW : Wo.ww = w) (C : ∀ g : Fn, g ≠ .f_law → calOf P w K mg base k g (cl g)) (f : Addr) (cdv : Value) (A : Around) (outer : List Env) (s : Shared) (H : Hp) (E : XK) (hr : RoomG k (A.deeper (envOfC "sure_sizes" (defScope s_sure_sizes) s.heap.objs.size f cdv))) :
    PSs (cxOf (L2.CX P w) P w K mg base ["thing", "good", "size"] "sure_sizes" (defScope s_sure_sizes) f cdv A outer s H E) (defBody s_sure_sizes) (tS (cxOf (L2.CX P w) P w K mg base ["thing", "good", "size"] "sure_sizes" (defScope s_sure_sizes) f cdv A outer s H E) (fun c d _ H => E c d H) (b_sure_sizes cl)) := by
  have tk : Takes (cxOf (L2.CX P w) P w K mg base ["thing", "good", "size"] "sure_sizes" (defScope s_sure_sizes) f cdv A outer s H E) (fun c d _ H => E c d H) := takes_of rfl rfl rfl rfl
  have nd := sc_sure_sizes.nd
  exact (q_seq (q_set (i := 1) nd rfl (by first | exact Or.inl rfl | exact Or.inr rfl) (q_and (q_isi rfl T.m_isinstance rfl T.m_list (by decide +kernel) (by decide) (q_var 0)) (q_one (q_cmp (op_eqU (by have z := hu2 hr; exact z)) eqP_v (q_callB call_len len_v rfl T.m_len PySem.boot_len (q_cons (q_var 0) q_nil)) (q_gc T.c_BASES rfl) (nomark _)))))
    (q_last (q_ifS (PW.pt (qw_or (qt_not (qt_tru (q_var 1))) (qw_one (qt_not (qt_tru (q_callB (cr_all rfl) all_v rfl T.m_all (by decide +kernel) (q_cons (q_lc (own := [("size", 2)]) rfl nd (qi_list (q_var 0)) (blkOk_by (own := [("size", 2)]) (by rfl)) (by decide) (fun _ _ _ _ _ => (q_gn (i := 2) nd rfl (by first | exact Or.inl rfl | exact Or.inr rfl))) (fun _ _ _ _ _ => qts_nil) (fun _ _ _ _ _ => (q_call (C .f_is_from (fun z => nomatch z)) hr takes0 rfl (q_cons (q_var 2) (q_cons q_int (q_cons (q_gc T.c_MOST_SIZE rfl) q_nil)))))) q_nil))))))) (q_last (q_raise rfl tk T.x_NoSizes rfl)) q_snil)))
theorem ok_power_up_to {k : Nat} {cl : Fn → FF} [Wo] (T : Txt K w.params mg) (hW : Wo.ww = w) (C : ∀ g : Fn, g ≠ .f_law → calOf P w K mg base k g (cl g)) (f : Addr) (cdv : Value) (A : Around) (outer : List Env) (s : Shared) (H : Hp) (E : XK) (hr : RoomG k (A.deeper (envOfC "power_up_to" (defScope s_power_up_to) s.heap.objs.size f cdv))) :
    PSs (cxOf (L2.CX P w) P w K mg base ["base", "times", "found", "turn"] "power_up_to" (defScope s_power_up_to) f cdv A outer s H E) (defBody s_power_up_to) (tS (cxOf (L2.CX P w) P w K mg base ["base", "times", "found", "turn"] "power_up_to" (defScope s_power_up_to) f cdv A outer s H E) (fun c d _ H => E c d H) (b_power_up_to cl)) := by
  have tk : Takes (cxOf (L2.CX P w) P w K mg base ["base", "times", "found", "turn"] "power_up_to" (defScope s_power_up_to) f cdv A outer s H E) (fun c d _ H => E c d H) := takes_of rfl rfl rfl rfl
  have nd := sc_power_up_to.nd
  exact (q_seq (q_ifS (qt_cmp (op_eqU (by have z := hu2 hr; exact z)) eqP_v (q_var 0) q_int (nomark _)) (q_last (q_ret q_int)) q_snil)
    (q_seq (q_set (i := 2) nd rfl (by first | exact Or.inl rfl | exact Or.inr rfl) q_int)
    (q_seq (q_for (passes_of rfl) rfl (qi_range1 rfl T.m_range (q_cons (q_var 1) q_nil)) (q_gn (i := 3) nd rfl (by first | exact Or.inl rfl | exact Or.inr rfl)) (q_seq (q_set (i := 2) nd rfl (by first | exact Or.inl rfl | exact Or.inr rfl) (q_op op_mulU mulU_v (q_var 2) (q_var 0)))
    (q_last (q_ifS (qt_cmp op_gt (cmp_v _) (q_var 2) (q_gc T.c_MOST_WORTHS rfl) (nomark _)) (q_last (q_ret (q_op op_addU addU_v (q_gc T.c_MOST_WORTHS rfl) q_int))) q_snil))))
    (q_last (q_ret (q_var 2))))))
theorem ok_number_up_to {k : Nat} {cl : Fn → FF} [Wo] (T : Txt K w.params mg) (hW : Wo.ww = w) (C : ∀ g : Fn, g ≠ .f_law → calOf P w K mg base k g (cl g)) (f : Addr) (cdv : Value) (A : Around) (outer : List Env) (s : Shared) (H : Hp) (E : XK) (hr : RoomG k (A.deeper (envOfC "number_up_to" (defScope s_number_up_to) s.heap.objs.size f cdv))) :
    PSs (cxOf (L2.CX P w) P w K mg base ["kind", "sizes", "one", "other"] "number_up_to" (defScope s_number_up_to) f cdv A outer s H E) (defBody s_number_up_to) (tS (cxOf (L2.CX P w) P w K mg base ["kind", "sizes", "one", "other"] "number_up_to" (defScope s_number_up_to) f cdv A outer s H E) (fun c d _ H => E c d H) (b_number_up_to cl)) := by
  have tk : Takes (cxOf (L2.CX P w) P w K mg base ["kind", "sizes", "one", "other"] "number_up_to" (defScope s_number_up_to) f cdv A outer s H E) (fun c d _ H => E c d H) := takes_of rfl rfl rfl rfl
  have nd := sc_number_up_to.nd
  exact (q_seq (q_ifS (qt_cmp (op_eqU (by have z := hu2 hr; exact z)) eqP_v (q_ix (q_var 0) q_int) q_str (nomark _)) (q_last (q_ret (q_ix (q_var 1) (q_ix (q_var 0) q_int)))) q_snil)
    (q_seq (q_ifS (qt_cmp (op_eqU (by have z := hu2 hr; exact z)) eqP_v (q_ix (q_var 0) q_int) q_str (nomark _)) (q_last (q_ret q_int)) q_snil)
    (q_seq (q_set (i := 2) nd rfl (by first | exact Or.inl rfl | exact Or.inr rfl) (q_call (C .f_number_up_to (fun z => nomatch z)) hr tk rfl (q_cons (q_ix (q_var 0) q_int) (q_cons (q_var 1) q_nil))))
    (q_seq (q_set (i := 3) nd rfl (by first | exact Or.inl rfl | exact Or.inr rfl) (q_call (C .f_number_up_to (fun z => nomatch z)) hr tk rfl (q_cons (q_ix (q_var 0) q_int) (q_cons (q_var 1) q_nil))))
    (q_seq (q_ifS (qt_cmp (op_eqU (by have z := hu2 hr; exact z)) eqP_v (q_ix (q_var 0) q_int) q_str (nomark _)) (q_last (q_ret (q_callB (call_min2 rfl) min_v rfl T.m_min (by decide +kernel) (q_cons (q_op op_mulU mulU_v (q_var 2) (q_var 3)) (q_cons (q_op op_addU addU_v (q_gc T.c_MOST_WORTHS rfl) q_int) q_nil))))) q_snil)
    (q_last (q_ret (q_call (C .f_power_up_to (fun z => nomatch z)) hr tk rfl (q_cons (q_var 3) (q_cons (q_var 2) q_nil))))))))))
theorem ok_sure_taken {k : Nat} {cl : Fn → FF} [Wo] (T : Txt K w.params mg) (hW : Wo.ww = w) (C : ∀ g : Fn, g ≠ .f_law → calOf P w K mg base k g (cl g)) (f : Addr) (cdv : Value) (A : Around) (outer : List Env) (s : Shared) (H : Hp) (E : XK) (hr : RoomG k (A.deeper (envOfC "sure_taken" (defScope s_sure_taken) s.heap.objs.size f cdv))) :
    PSs (cxOf (L2.CX P w) P w K mg base ["kind", "sizes"] "sure_taken" (defScope s_sure_taken) f cdv A outer s H E) (defBody s_sure_taken) (tS (cxOf (L2.CX P w) P w K mg base ["kind", "sizes"] "sure_taken" (defScope s_sure_taken) f cdv A outer s H E) (fun c d _ H => E c d H) (b_sure_taken cl)) := by
  have tk : Takes (cxOf (L2.CX P w) P w K mg base ["kind", "sizes"] "sure_taken" (defScope s_sure_taken) f cdv A outer s H E) (fun c d _ H => E c d H) := takes_of rfl rfl rfl rfl
  have nd := sc_sure_taken.nd
  exact (q_last (q_ifS (qt_cmp (op_inU (by have z := hu2 hr; exact z)) inU_v (q_ix (q_var 0) q_int) (q_tup (q_cons q_str (q_cons q_str q_nil))) (by rfl)) (q_seq (q_ifS (PW.pt (qw_and (qt_cmp (op_eqU (by have z := hu2 hr; exact z)) eqP_v (q_ix (q_var 0) q_int) q_str (nomark _)) (qw_one (qt_cmp op_gt (cmp_v _) (q_call (C .f_number_up_to (fun z => nomatch z)) hr tk rfl (q_cons (q_ix (q_var 0) q_int) (q_cons (q_var 1) q_nil))) (q_gc T.c_MOST_WORTHS rfl) (nomark _))))) (q_last (q_raise rfl tk T.x_TooMany rfl)) q_snil)
    (q_seq (q_expr (q_call (C .f_sure_taken (fun z => nomatch z)) hr tk rfl (q_cons (q_ix (q_var 0) q_int) (q_cons (q_var 1) q_nil))))
    (q_last (q_expr (q_call (C .f_sure_taken (fun z => nomatch z)) hr tk rfl (q_cons (q_ix (q_var 0) q_int) (q_cons (q_var 1) q_nil))))))) q_snil))
theorem ok_lists_of {k : Nat} {cl : Fn → FF} [Wo] (T : Txt K w.params mg) (hW : Wo.ww = w) (C : ∀ g : Fn, g ≠ .f_law → calOf P w K mg base k g (cl g)) (f : Addr) (cdv : Value) (A : Around) (outer : List Env) (s : Shared) (H : Hp) (E : XK) (hr : RoomG k (A.deeper (envOfC "lists_of" (defScope s_lists_of) s.heap.objs.size f cdv))) :
    PSs (cxOf (L2.CX P w) P w K mg base ["things", "many", "found", "place", "row", "thing"] "lists_of" (defScope s_lists_of) f cdv A outer s H E) (defBody s_lists_of) (tS (cxOf (L2.CX P w) P w K mg base ["things", "many", "found", "place", "row", "thing"] "lists_of" (defScope s_lists_of) f cdv A outer s H E) (fun c d _ H => E c d H) (b_lists_of cl)) := by
  have tk : Takes (cxOf (L2.CX P w) P w K mg base ["things", "many", "found", "place", "row", "thing"] "lists_of" (defScope s_lists_of) f cdv A outer s H E) (fun c d _ H => E c d H) := takes_of rfl rfl rfl rfl
  have nd := sc_lists_of.nd
  exact (q_seq (q_set (i := 2) nd rfl (by first | exact Or.inl rfl | exact Or.inr rfl) (q_lst (q_cons (q_tup q_nil) q_nil)))
    (q_seq (q_for (passes_of rfl) rfl (qi_range1 rfl T.m_range (q_cons (q_var 1) q_nil)) (q_gn (i := 3) nd rfl (by first | exact Or.inl rfl | exact Or.inr rfl)) (q_last (by first | exact (q_setLc2 (i := 2) (own := [("row", 4), ("thing", 5)]) rfl nd rfl rfl (sw_true rfl rfl rfl (by decide +kernel)) (qi_list (q_var 2)) (blkOk_by (own := [("row", 4), ("thing", 5)]) (by rfl)) (by decide) (by decide) (by decide) (fun _ _ _ _ _ => (q_gn (i := 4) nd rfl (by first | exact Or.inl rfl | exact Or.inr rfl))) (fun _ _ _ _ _ => (qi_list (q_var 0))) (fun _ _ _ _ _ => (q_gn (i := 5) nd rfl (by first | exact Or.inl rfl | exact Or.inr rfl))) (fun _ _ _ _ _ => (q_op op_addU addU_v (q_var 4) (q_tup (q_cons (q_var 5) q_nil))))) | exact (q_set (i := 2) nd rfl (by first | exact Or.inl rfl | exact Or.inr rfl) (q_lc2 (own := [("row", 4), ("thing", 5)]) rfl nd (qi_list (q_var 2)) (blkOk_by (own := [("row", 4), ("thing", 5)]) (by rfl)) (by decide) (by decide) (by decide) (fun _ _ _ _ _ => (q_gn (i := 4) nd rfl (by first | exact Or.inl rfl | exact Or.inr rfl))) (fun _ _ _ _ _ => (qi_list (q_var 0))) (fun _ _ _ _ _ => (q_gn (i := 5) nd rfl (by first | exact Or.inl rfl | exact Or.inr rfl))) (fun _ _ _ _ _ => (q_op op_addU addU_v (q_var 4) (q_tup (q_cons (q_var 5) q_nil)))))))))
    (q_last (q_ret (q_var 2)))))
theorem ok_all_worths {k : Nat} {cl : Fn → FF} [Wo] (T : Txt K w.params mg) (hW : Wo.ww = w) (C : ∀ g : Fn, g ≠ .f_law → calOf P w K mg base k g (cl g)) (f : Addr) (cdv : Value) (A : Around) (outer : List Env) (s : Shared) (H : Hp) (E : XK) (hr : RoomG k (A.deeper (envOfC "all_worths" (defScope s_all_worths) s.heap.objs.size f cdv))) :
    PSs (cxOf (L2.CX P w) P w K mg base ["kind", "sizes", "others", "one", "other"] "all_worths" (defScope s_all_worths) f cdv A outer s H E) (defBody s_all_worths) (tS (cxOf (L2.CX P w) P w K mg base ["kind", "sizes", "others", "one", "other"] "all_worths" (defScope s_all_worths) f cdv A outer s H E) (fun c d _ H => E c d H) (b_all_worths cl)) := by
  have tk : Takes (cxOf (L2.CX P w) P w K mg base ["kind", "sizes", "others", "one", "other"] "all_worths" (defScope s_all_worths) f cdv A outer s H E) (fun c d _ H => E c d H) := takes_of rfl rfl rfl rfl
  have nd := sc_all_worths.nd
  exact (q_seq (q_ifS (qt_cmp (op_eqU (by have z := hu2 hr; exact z)) eqP_v (q_ix (q_var 0) q_int) q_str (nomark _)) (q_last (q_ret (q_listRg rfl rfl T.m_list rfl T.m_range (q_ix (q_var 1) (q_ix (q_var 0) q_int))))) q_snil)
    (q_seq (q_ifS (qt_cmp (op_eqU (by have z := hu2 hr; exact z)) eqP_v (q_ix (q_var 0) q_int) q_str (nomark _)) (q_last (q_ret (q_lst (q_cons (q_tup q_nil) q_nil)))) q_snil)
    (q_seq (q_set (i := 2) nd rfl (by first | exact Or.inl rfl | exact Or.inr rfl) (q_call (C .f_all_worths (fun z => nomatch z)) hr tk rfl (q_cons (q_ix (q_var 0) q_int) (q_cons (q_var 1) q_nil))))
    (q_seq (q_ifS (qt_cmp (op_eqU (by have z := hu2 hr; exact z)) eqP_v (q_ix (q_var 0) q_int) q_str (nomark _)) (q_last (q_ret (q_call (C .f_lists_of (fun z => nomatch z)) hr tk rfl (q_cons (q_var 2) (q_cons (q_call (C .f_number_up_to (fun z => nomatch z)) hr tk rfl (q_cons (q_ix (q_var 0) q_int) (q_cons (q_var 1) q_nil))) q_nil))))) q_snil)
    (q_last (q_ret (q_lc2 (own := [("one", 3), ("other", 4)]) rfl nd (qi_list (q_call (C .f_all_worths (fun z => nomatch z)) hr tk rfl (q_cons (q_ix (q_var 0) q_int) (q_cons (q_var 1) q_nil)))) (blkOk_by (own := [("one", 3), ("other", 4)]) (by rfl)) (by decide) (by decide) (by decide) (fun _ _ _ _ _ => (q_gn (i := 3) nd rfl (by first | exact Or.inl rfl | exact Or.inr rfl))) (fun _ _ _ _ _ => (qi_list (q_var 2))) (fun _ _ _ _ _ => (q_gn (i := 4) nd rfl (by first | exact Or.inl rfl | exact Or.inr rfl))) (fun _ _ _ _ _ => (q_tup (q_cons (q_var 3) (q_cons (q_var 4) q_nil)))))))))))
theorem ok_worths {k : Nat} {cl : Fn → FF} [Wo] (T : Txt K w.params mg) (hW : Wo.ww = w) (C : ∀ g : Fn, g ≠ .f_law → calOf P w K mg base k g (cl g)) (f : Addr) (cdv : Value) (A : Around) (outer : List Env) (s : Shared) (H : Hp) (E : XK) (hr : RoomG k (A.deeper (envOfC "worths" (defScope s_worths) s.heap.objs.size f cdv))) :
    PSs (cxOf (L2.CX P w) P w K mg base ["kind", "sizes"] "worths" (defScope s_worths) f cdv A outer s H E) (defBody s_worths) (tS (cxOf (L2.CX P w) P w K mg base ["kind", "sizes"] "worths" (defScope s_worths) f cdv A outer s H E) (fun c d _ H => E c d H) (b_worths cl)) := by
  have tk : Takes (cxOf (L2.CX P w) P w K mg base ["kind", "sizes"] "worths" (defScope s_worths) f cdv A outer s H E) (fun c d _ H => E c d H) := takes_of rfl rfl rfl rfl
  have nd := sc_worths.nd
  exact (q_seq (q_expr (q_call (C .f_sure_kind (fun z => nomatch z)) hr tk rfl (q_cons (q_var 0) q_nil)))
    (q_seq (q_expr (q_call (C .f_sure_sizes (fun z => nomatch z)) hr tk rfl (q_cons (q_var 1) q_nil)))
    (q_seq (q_expr (q_call (C .f_sure_taken (fun z => nomatch z)) hr tk rfl (q_cons (q_var 0) (q_cons (q_var 1) q_nil))))
    (q_seq (q_ifS (qt_cmp op_gt (cmp_v _) (q_call (C .f_number_up_to (fun z => nomatch z)) hr tk rfl (q_cons (q_var 0) (q_cons (q_var 1) q_nil))) (q_gc T.c_MOST_WORTHS rfl) (nomark _)) (q_last (q_raise rfl tk T.x_TooMany rfl)) q_snil)
    (q_last (q_ret (q_call (C .f_all_worths (fun z => nomatch z)) hr tk rfl (q_cons (q_var 0) (q_cons (q_var 1) q_nil)))))))))
theorem ok_is_plain_worth {k : Nat} {cl : Fn → FF} [Wo] (T : Txt K w.params mg) (hW : Wo.ww = w) (C : ∀ g : Fn, g ≠ .f_law → calOf P w K mg base k g (cl g)) (f : Addr) (cdv : Value) (A : Around) (outer : List Env) (s : Shared) (H : Hp) (E : XK) (hr : RoomG k (A.deeper (envOfC "is_plain_worth" (defScope s_is_plain_worth) s.heap.objs.size f cdv))) :
    PSs (cxOf (L2.CX P w) P w K mg base ["kind", "sizes", "thing", "one"] "is_plain_worth" (defScope s_is_plain_worth) f cdv A outer s H E) (defBody s_is_plain_worth) (tS (cxOf (L2.CX P w) P w K mg base ["kind", "sizes", "thing", "one"] "is_plain_worth" (defScope s_is_plain_worth) f cdv A outer s H E) (fun c d _ H => E c d H) (b_is_plain_worth cl)) := by
  have tk : Takes (cxOf (L2.CX P w) P w K mg base ["kind", "sizes", "thing", "one"] "is_plain_worth" (defScope s_is_plain_worth) f cdv A outer s H E) (fun c d _ H => E c d H) := takes_of rfl rfl rfl rfl
  have nd := sc_is_plain_worth.nd
  exact (q_seq (q_ifS (qt_cmp (op_eqU (by have z := hu2 hr; exact z)) eqP_v (q_ix (q_var 0) q_int) q_str (nomark _)) (q_last (q_ret (q_call (C .f_is_from (fun z => nomatch z)) hr tk rfl (q_cons (q_var 2) (q_cons q_int (q_cons (q_op op_sub sub_v (q_ix (q_var 1) (q_ix (q_var 0) q_int)) q_int) q_nil)))))) q_snil)
    (q_seq (q_ifS (qt_not (qt_tru (q_isi rfl T.m_isinstance rfl T.m_tuple (by decide +kernel) (by decide) (q_var 2)))) (q_last (q_ret q_bl)) q_snil)
    (q_seq (q_ifS (qt_cmp (op_eqU (by have z := hu2 hr; exact z)) eqP_v (q_ix (q_var 0) q_int) q_str (nomark _)) (q_last (q_ret (q_cmp (op_eqU (by have z := hu2 hr; exact z)) eqP_v (q_var 2) (q_tup q_nil) (nomark _)))) q_snil)
    (q_seq (q_ifS (qt_cmp (op_eqU (by have z := hu2 hr; exact z)) eqP_v (q_ix (q_var 0) q_int) q_str (nomark _)) (q_seq (q_ifS (qt_cmp (op_neU (by have z := hu2 hr; exact z)) neP_v (q_callB call_len len_v rfl T.m_len PySem.boot_len (q_cons (q_var 2) q_nil)) (q_call (C .f_number_up_to (fun z => nomatch z)) hr tk rfl (q_cons (q_ix (q_var 0) q_int) (q_cons (q_var 1) q_nil))) (nomark _)) (q_last (q_ret q_bl)) q_snil)
    (q_last (q_ret (q_callB (cr_all rfl) all_v rfl T.m_all (by decide +kernel) (q_cons (q_lc (own := [("one", 3)]) rfl nd (qi_tup (q_var 2)) (blkOk_by (own := [("one", 3)]) (by rfl)) (by decide) (fun _ _ _ _ _ => (q_gn (i := 3) nd rfl (by first | exact Or.inl rfl | exact Or.inr rfl))) (fun _ _ _ _ _ => qts_nil) (fun _ _ _ _ _ => (q_call (C .f_is_plain_worth (fun z => nomatch z)) hr takes0 rfl (q_cons (q_ix (q_var 0) q_int) (q_cons (q_var 1) (q_cons (q_var 3) q_nil)))))) q_nil))))) q_snil)
    (q_seq (q_ifS (qt_cmp (op_neU (by have z := hu2 hr; exact z)) neP_v (q_callB call_len len_v rfl T.m_len PySem.boot_len (q_cons (q_var 2) q_nil)) q_int (nomark _)) (q_last (q_ret q_bl)) q_snil)
    (q_last (q_ret (q_and (q_call (C .f_is_plain_worth (fun z => nomatch z)) hr tk rfl (q_cons (q_ix (q_var 0) q_int) (q_cons (q_var 1) (q_cons (q_ix (q_var 2) q_int) q_nil)))) (q_one (q_call (C .f_is_plain_worth (fun z => nomatch z)) hr tk rfl (q_cons (q_ix (q_var 0) q_int) (q_cons (q_var 1) (q_cons (q_ix (q_var 2) q_int) q_nil)))))))))))))
theorem ok_is_worth {k : Nat} {cl : Fn → FF} [Wo] (T : Txt K w.params mg) (hW : Wo.ww = w) (C : ∀ g : Fn, g ≠ .f_law → calOf P w K mg base k g (cl g)) (f : Addr) (cdv : Value) (A : Around) (outer : List Env) (s : Shared) (H : Hp) (E : XK) (hr : RoomG k (A.deeper (envOfC "is_worth" (defScope s_is_worth) s.heap.objs.size f cdv))) :
    PSs (cxOf (L2.CX P w) P w K mg base ["kind", "sizes", "thing"] "is_worth" (defScope s_is_worth) f cdv A outer s H E) (defBody s_is_worth) (tS (cxOf (L2.CX P w) P w K mg base ["kind", "sizes", "thing"] "is_worth" (defScope s_is_worth) f cdv A outer s H E) (fun c d _ H => E c d H) (b_is_worth cl)) := by
  have tk : Takes (cxOf (L2.CX P w) P w K mg base ["kind", "sizes", "thing"] "is_worth" (defScope s_is_worth) f cdv A outer s H E) (fun c d _ H => E c d H) := takes_of rfl rfl rfl rfl
  have nd := sc_is_worth.nd
  exact (q_seq (q_expr (q_call (C .f_sure_kind (fun z => nomatch z)) hr tk rfl (q_cons (q_var 0) q_nil)))
    (q_seq (q_expr (q_call (C .f_sure_sizes (fun z => nomatch z)) hr tk rfl (q_cons (q_var 1) q_nil)))
    (q_seq (q_expr (q_call (C .f_sure_taken (fun z => nomatch z)) hr tk rfl (q_cons (q_var 0) (q_cons (q_var 1) q_nil))))
    (q_last (q_ret (q_call (C .f_is_plain_worth (fun z => nomatch z)) hr tk rfl (q_cons (q_var 0) (q_cons (q_var 1) (q_cons (q_var 2) q_nil)))))))))
theorem ok_is_shape {k : Nat} {cl : Fn → FF} [Wo] (T : Txt K w.params mg) (hW : Wo.ww = w) (C : ∀ g : Fn, g ≠ .f_law → calOf P w K mg base k g (cl g)) (f : Addr) (cdv : Value) (A : Around) (outer : List Env) (s : Shared) (H : Hp) (E : XK) (hr : RoomG k (A.deeper (envOfC "is_shape" (defScope s_is_shape) s.heap.objs.size f cdv))) :
    PSs (cxOf (L2.CX P w) P w K mg base ["thing"] "is_shape" (defScope s_is_shape) f cdv A outer s H E) (defBody s_is_shape) (tS (cxOf (L2.CX P w) P w K mg base ["thing"] "is_shape" (defScope s_is_shape) f cdv A outer s H E) (fun c d _ H => E c d H) (b_is_shape cl)) := by
  have tk : Takes (cxOf (L2.CX P w) P w K mg base ["thing"] "is_shape" (defScope s_is_shape) f cdv A outer s H E) (fun c d _ H => E c d H) := takes_of rfl rfl rfl rfl
  have nd := sc_is_shape.nd
  exact (q_seq (q_ifS (PW.pt (qw_or (qt_not (qt_tru (q_isi rfl T.m_isinstance rfl T.m_tuple (by decide +kernel) (by decide) (q_var 0)))) (qw_or (qt_cmp (op_eqU (by have z := hu2 hr; exact z)) eqP_v (q_callB call_len len_v rfl T.m_len PySem.boot_len (q_cons (q_var 0) q_nil)) q_int (nomark _)) (qw_one (qt_not (qt_tru (q_isi rfl T.m_isinstance rfl T.m_str (by decide +kernel) (by decide) (q_ix (q_var 0) q_int)))))))) (q_last (q_ret q_bl)) q_snil)
    (q_last (q_ret (q_cmp (op_eqU (by have z := hu2 hr; exact z)) eqP_v (q_getG T.c_PARTS (q_gd T.c_PARTS rfl) (q_ix (q_var 0) q_int)) (q_callB call_len len_v rfl T.m_len PySem.boot_len (q_cons (q_var 0) q_nil)) (nomark _)))))
theorem ok_kind_of_given {k : Nat} {cl : Fn → FF} [Wo] (T : Txt K w.params mg) (hW : Wo.ww = w) (C : ∀ g : Fn, g ≠ .f_law → calOf P w K mg base k g (cl g)) (f : Addr) (cdv : Value) (A : Around) (outer : List Env) (s : Shared) (H : Hp) (E : XK) (hr : RoomG k (A.deeper (envOfC "kind_of_given" (defScope s_kind_of_given) s.heap.objs.size f cdv))) :
    PSs (cxOf (L2.CX P w) P w K mg base ["k", "given"] "kind_of_given" (defScope s_kind_of_given) f cdv A outer s H E) (defBody s_kind_of_given) (tS (cxOf (L2.CX P w) P w K mg base ["k", "given"] "kind_of_given" (defScope s_kind_of_given) f cdv A outer s H E) (fun c d _ H => E c d H) (b_kind_of_given cl)) := by
  have tk : Takes (cxOf (L2.CX P w) P w K mg base ["k", "given"] "kind_of_given" (defScope s_kind_of_given) f cdv A outer s H E) (fun c d _ H => E c d H) := takes_of rfl rfl rfl rfl
  have nd := sc_kind_of_given.nd
  exact (q_seq (q_ifS (PW.pt (qw_or (qt_not (qt_tru (q_isi rfl T.m_isinstance rfl T.m_int (by decide +kernel) (by decide) (q_var 0)))) (qw_or (qt_tru (q_isi rfl T.m_isinstance rfl T.m_bool (by decide +kernel) (by decide) (q_var 0))) (qw_one (qt_not (qt_chain op_le (cmp_v _) op_lt (cmp_v _) q_int (q_var 0) (q_callB call_len len_v rfl T.m_len PySem.boot_len (q_cons (q_var 1) q_nil)))))))) (q_last (q_ret q_non)) q_snil)
    (q_last (q_ret (q_ix (q_var 1) (q_var 0)))))
theorem ok_kind_of_two {k : Nat} {cl : Fn → FF} [Wo] (T : Txt K w.params mg) (hW : Wo.ww = w) (C : ∀ g : Fn, g ≠ .f_law → calOf P w K mg base k g (cl g)) (f : Addr) (cdv : Value) (A : Around) (outer : List Env) (s : Shared) (H : Hp) (E : XK) (hr : RoomG k (A.deeper (envOfC "kind_of_two" (defScope s_kind_of_two) s.heap.objs.size f cdv))) :
    PSs (cxOf (L2.CX P w) P w K mg base ["word", "one", "other"] "kind_of_two" (defScope s_kind_of_two) f cdv A outer s H E) (defBody s_kind_of_two) (tS (cxOf (L2.CX P w) P w K mg base ["word", "one", "other"] "kind_of_two" (defScope s_kind_of_two) f cdv A outer s H E) (fun c d _ H => E c d H) (b_kind_of_two cl)) := by
  have tk : Takes (cxOf (L2.CX P w) P w K mg base ["word", "one", "other"] "kind_of_two" (defScope s_kind_of_two) f cdv A outer s H E) (fun c d _ H => E c d H) := takes_of rfl rfl rfl rfl
  have nd := sc_kind_of_two.nd
  exact (q_seq (q_ifS (PW.pt (qw_or (qt_cmp op_isU isU_v (q_var 1) q_non (nomark _)) (qw_one (qt_cmp op_isU isU_v (q_var 2) q_non (nomark _))))) (q_last (q_ret q_non)) q_snil)
    (q_seq (q_ifS (qt_cmp (op_eqU (by have z := hu2 hr; exact z)) eqP_v (q_var 0) q_str (nomark _)) (q_last (q_ret (q_tup (q_cons q_str (q_cons (q_var 1) (q_cons (q_var 2) q_nil)))))) q_snil)
    (q_last (q_ret (q_if (PW.pt (qw_and (qt_cmp (op_eqU (by have z := hu2 hr; exact z)) eqP_v (q_ix (q_var 1) q_int) q_str (nomark _)) (qw_one (qt_cmp (op_eqU (by have z := hu2 hr; exact z)) eqP_v (q_ix (q_var 1) q_int) (q_var 2) (nomark _))))) (q_ix (q_var 1) q_int) q_non)))))
theorem ok_kind_in {k : Nat} {cl : Fn → FF} [Wo] (T : Txt K w.params mg) (hW : Wo.ww = w) (C : ∀ g : Fn, g ≠ .f_law → calOf P w K mg base k g (cl g)) (f : Addr) (cdv : Value) (A : Around) (outer : List Env) (s : Shared) (H : Hp) (E : XK) (hr : RoomG k (A.deeper (envOfC "kind_in" (defScope s_kind_in) s.heap.objs.size f cdv))) :
    PSs (cxOf (L2.CX P w) P w K mg base ["term", "given", "word", "one", "body"] "kind_in" (defScope s_kind_in) f cdv A outer s H E) (defBody s_kind_in) (tS (cxOf (L2.CX P w) P w K mg base ["term", "given", "word", "one", "body"] "kind_in" (defScope s_kind_in) f cdv A outer s H E) (fun c d _ H => E c d H) (b_kind_in cl)) := by
  have tk : Takes (cxOf (L2.CX P w) P w K mg base ["term", "given", "word", "one", "body"] "kind_in" (defScope s_kind_in) f cdv A outer s H E) (fun c d _ H => E c d H) := takes_of rfl rfl rfl rfl
  have nd := sc_kind_in.nd
  exact (q_seq (q_ifS (qt_not (qt_tru (q_call (C .f_is_shape (fun z => nomatch z)) hr tk rfl (q_cons (q_var 0) q_nil)))) (q_last (q_ret q_non)) q_snil)
    (q_seq (q_set (i := 2) nd rfl (by first | exact Or.inl rfl | exact Or.inr rfl) (q_ix (q_var 0) q_int))
    (q_seq (q_ifS (qt_cmp (op_eqU (by have z := hu2 hr; exact z)) eqP_v (q_var 2) q_str (nomark _)) (q_last (q_ret (q_tup (q_cons q_str q_nil)))) q_snil)
    (q_seq (q_ifS (qt_cmp (op_eqU (by have z := hu2 hr; exact z)) eqP_v (q_var 2) q_str (nomark _)) (q_last (q_ret (q_call (C .f_kind_of_given (fun z => nomatch z)) hr tk rfl (q_cons (q_ix (q_var 0) q_int) (q_cons (q_var 1) q_nil))))) q_snil)
    (q_seq (q_ifS (qt_cmp (op_eqU (by have z := hu2 hr; exact z)) eqP_v (q_var 2) q_str (nomark _)) (q_seq (q_set (i := 4) nd rfl (by first | exact Or.inl rfl | exact Or.inr rfl) (q_if (qt_tru (q_call (C .f_is_kind (fun z => nomatch z)) hr tk rfl (q_cons (q_ix (q_var 0) q_int) q_nil))) (q_call (C .f_kind_in (fun z => nomatch z)) hr tk rfl (q_cons (q_ix (q_var 0) q_int) (q_cons (q_op op_addU addU_v (q_var 1) (q_lst (q_cons (q_ix (q_var 0) q_int) q_nil))) q_nil))) q_non))
    (q_last (q_ret (q_if (qt_cmp op_isU isU_v (q_var 4) q_non (nomark _)) q_non (q_tup (q_cons q_str (q_cons (q_ix (q_var 0) q_int) (q_cons (q_var 4) q_nil)))))))) q_snil)
    (q_seq (q_set (i := 3) nd rfl (by first | exact Or.inl rfl | exact Or.inr rfl) (q_call (C .f_kind_in (fun z => nomatch z)) hr tk rfl (q_cons (q_ix (q_var 0) q_int) (q_cons (q_var 1) q_nil))))
    (q_seq (q_ifS (qt_cmp (op_inU (by have z := hu2 hr; exact z)) inU_v (q_var 2) (q_tup (q_cons q_str (q_cons q_str q_nil))) (by rfl)) (q_last (q_ret (q_call (C .f_kind_of_two (fun z => nomatch z)) hr tk rfl (q_cons (q_var 2) (q_cons (q_var 3) (q_cons (q_call (C .f_kind_in (fun z => nomatch z)) hr tk rfl (q_cons (q_ix (q_var 0) q_int) (q_cons (q_var 1) q_nil))) q_nil)))))) q_snil)
    (q_seq (q_ifS (PW.pt (qw_or (qt_cmp op_isU isU_v (q_var 3) q_non (nomark _)) (qw_one (qt_cmp (op_neU (by have z := hu2 hr; exact z)) neP_v (q_ix (q_var 3) q_int) q_str (nomark _))))) (q_last (q_ret q_non)) q_snil)
    (q_last (q_ret (q_if (qt_cmp (op_eqU (by have z := hu2 hr; exact z)) eqP_v (q_var 2) q_str (nomark _)) (q_ix (q_var 3) q_int) (q_ix (q_var 3) q_int))))))))))))
theorem ok_sure_kind_in {k : Nat} {cl : Fn → FF} [Wo] (T : Txt K w.params mg) (hW : Wo.ww = w) (C : ∀ g : Fn, g ≠ .f_law → calOf P w K mg base k g (cl g)) (f : Addr) (cdv : Value) (A : Around) (outer : List Env) (s : Shared) (H : Hp) (E : XK) (hr : RoomG k (A.deeper (envOfC "sure_kind_in" (defScope s_sure_kind_in) s.heap.objs.size f cdv))) :
    PSs (cxOf (L2.CX P w) P w K mg base ["term", "given", "found"] "sure_kind_in" (defScope s_sure_kind_in) f cdv A outer s H E) (defBody s_sure_kind_in) (tS (cxOf (L2.CX P w) P w K mg base ["term", "given", "found"] "sure_kind_in" (defScope s_sure_kind_in) f cdv A outer s H E) (fun c d _ H => E c d H) (b_sure_kind_in cl)) := by
  have tk : Takes (cxOf (L2.CX P w) P w K mg base ["term", "given", "found"] "sure_kind_in" (defScope s_sure_kind_in) f cdv A outer s H E) (fun c d _ H => E c d H) := takes_of rfl rfl rfl rfl
  have nd := sc_sure_kind_in.nd
  exact (q_seq (q_set (i := 2) nd rfl (by first | exact Or.inl rfl | exact Or.inr rfl) (q_call (C .f_kind_in (fun z => nomatch z)) hr tk rfl (q_cons (q_var 0) (q_cons (q_var 1) q_nil))))
    (q_seq (q_ifS (qt_cmp op_isU isU_v (q_var 2) q_non (nomark _)) (q_last (q_raise rfl tk T.x_NoTerm rfl)) q_snil)
    (q_last (q_ret (q_var 2)))))
theorem ok_done {k : Nat} {cl cl2 : Fn → FF} [Wo] (T : Txt K w.params mg) (hW : Wo.ww = w) (C : ∀ g : Fn, g ≠ .f_law → calOf P w K mg base (k + 1) g (cl g)) (C2 : ∀ g : Fn, g ≠ .f_law → calOf P w K mg base k g (cl2 g)) (f : Addr) (cdv : Value) (A : Around) (outer : List Env) (s : Shared) (H : Hp) (E : XK) (hr : RoomG (k + 1) (A.deeper (envOfC "done" (defScope s_done) s.heap.objs.size f cdv))) :
    PSs (cxOf (L2.CX P w) P w K mg base ["term", "sizes", "worth", "kind", "reckoner"] "done" (defScope s_done) f cdv A outer s H E) (defBody s_done) (tS (cxOf (L2.CX P w) P w K mg base ["term", "sizes", "worth", "kind", "reckoner"] "done" (defScope s_done) f cdv A outer s H E) (fun c d _ H => E c d H) (b_done cl cl2)) := by
  have tk : Takes (cxOf (L2.CX P w) P w K mg base ["term", "sizes", "worth", "kind", "reckoner"] "done" (defScope s_done) f cdv A outer s H E) (fun c d _ H => E c d H) := takes_of rfl rfl rfl rfl
  have nd := sc_done.nd
  exact (q_seq (q_set (i := 3) nd rfl (by first | exact Or.inl rfl | exact Or.inr rfl) (q_call (C .f_sure_kind_in (fun z => nomatch z)) hr tk rfl (q_cons (q_var 0) (q_cons (q_lst q_nil) q_nil))))
    (q_seq (q_ifS (qt_cmp (op_neU (by have z := hu2 hr; exact z)) neP_v (q_ix (q_var 3) q_int) q_str (nomark _)) (q_last (q_raise rfl tk T.x_NoTerm rfl)) q_snil)
    (q_seq (q_expr (q_call (C .f_sure_sizes (fun z => nomatch z)) hr tk rfl (q_cons (q_var 1) q_nil)))
    (q_seq (q_expr (q_call (C .f_sure_taken (fun z => nomatch z)) hr tk rfl (q_cons (q_ix (q_var 3) q_int) (q_cons (q_var 1) q_nil))))
    (q_seq (q_expr (q_call (C .f_sure_taken (fun z => nomatch z)) hr tk rfl (q_cons (q_ix (q_var 3) q_int) (q_cons (q_var 1) q_nil))))
    (q_seq (q_ifS (qt_not (qt_tru (q_call (C .f_is_worth (fun z => nomatch z)) hr tk rfl (q_cons (q_ix (q_var 3) q_int) (q_cons (q_var 1) (q_cons (q_var 2) q_nil)))))) (q_last (q_raise rfl tk T.x_NoWorth rfl)) q_snil)
    (q_seq (q_set (i := 4) nd rfl (by first | exact Or.inl rfl | exact Or.inr rfl) (q_make2 (C2 .f_Reckoner___init__ (fun z => nomatch z)) T.k_Reckoner hr tk rfl (q_cons (q_var 1) q_nil)))
    (q_last (q_ret (q_me (q_var 4) (dm_cons (C .f_Reckoner_told (fun z => nomatch z)) dm_nil) hr tk (q_cons (q_ix (q_var 3) q_int) (q_cons (q_me (q_me (q_var 4) (dm_cons (C .f_Reckoner_worked (fun z => nomatch z)) dm_nil) hr tk (q_cons (q_var 0) (q_cons (q_lst q_nil) q_nil))) (dm_cons (C .f_Told_handed (fun z => nomatch z)) (dm_cons (C .f_Made_handed (fun z => nomatch z)) dm_nil)) hr tk (q_cons (q_me (q_var 4) (dm_cons (C .f_Reckoner_held (fun z => nomatch z)) dm_nil) hr tk (q_cons (q_ix (q_var 3) q_int) (q_cons (q_var 2) q_nil))) q_nil)) q_nil))))))))))))
theorem ok__law_well {k : Nat} {cl : Fn → FF} [Wo] (T : Txt K w.params mg) (hW : Wo.ww = w) (C : ∀ g : Fn, g ≠ .f_law → calOf P w K mg base k g (cl g)) (f : Addr) (cdv : Value) (A : Around) (outer : List Env) (s : Shared) (H : Hp) (E : XK) (hr : RoomG k (A.deeper (envOfC "_law_well" (defScope s__law_well) s.heap.objs.size f cdv))) :
    PSs (cxOf (L2.CX P w) P w K mg base ["_law_cell"] "_law_well" (defScope s__law_well) f cdv A outer s H E) (defBody s__law_well) (tS (cxOf (L2.CX P w) P w K mg base ["_law_cell"] "_law_well" (defScope s__law_well) f cdv A outer s H E) (fun c d _ H => E c d H) (b__law_well cl)) := by
  have tk : Takes (cxOf (L2.CX P w) P w K mg base ["_law_cell"] "_law_well" (defScope s__law_well) f cdv A outer s H E) (fun c d _ H => E c d H) := takes_of rfl rfl rfl rfl
  have nd := sc__law_well.nd
  exact (q_last (q_ret (q_cel (q_cons (q_op op_mulU mulU_v (q_var 0) (q_callTy call_int1 int_v rfl T.m_int (by decide +kernel) (q_cons (q_cmp op_ge (cmp_v _) (q_var 0) (q_op op_pow pow_v q_int q_int) (nomark _)) q_nil))) (q_cons (q_var 0) (q_cons q_int q_nil))))))
theorem ok__law_draw {k : Nat} {cl : Fn → FF} [Wo] (T : Txt K w.params mg) (hW : Wo.ww = w) (C : ∀ g : Fn, g ≠ .f_law → calOf P w K mg base k g (cl g)) (f : Addr) (cdv : Value) (A : Around) (outer : List Env) (s : Shared) (H : Hp) (E : XK) (hr : RoomG k (A.deeper (envOfC "_law_draw" (defScope s__law_draw) s.heap.objs.size f cdv))) :
    PSs (cxOf (L2.CX P w) P w K mg base ["_law_well_here", "_law_width", "_law_low", "_law_digit_told"] "_law_draw" (defScope s__law_draw) f cdv A outer s H E) (defBody s__law_draw) (tS (cxOf (L2.CX P w) P w K mg base ["_law_well_here", "_law_width", "_law_low", "_law_digit_told"] "_law_draw" (defScope s__law_draw) f cdv A outer s H E) (fun c d _ H => E c d H) (b__law_draw cl)) := by
  have tk : Takes (cxOf (L2.CX P w) P w K mg base ["_law_well_here", "_law_width", "_law_low", "_law_digit_told"] "_law_draw" (defScope s__law_draw) f cdv A outer s H E) (fun c d _ H => E c d H) := takes_of rfl rfl rfl rfl
  have nd := sc__law_draw.nd
  exact (q_seq (q_ifS (qt_cmp op_gt (cmp_v _) (q_ix (q_var 0) q_int) q_int (nomark _)) (q_seq (q_set (i := 3) nd rfl (by first | exact Or.inl rfl | exact Or.inr rfl) (q_op op_mod mod_v (q_ix (q_var 0) q_int) (q_var 1)))
    (q_seq (q_asg (q_op op_fdivW div_v (q_ix (q_var 0) q_int) (q_var 1)) (q_gsb (W := W0) (q_var 0) q_int))
    (q_last (q_ret (q_var 3))))) q_snil)
    (q_seq (q_asg (q_op op_addU addU_v (q_ix (q_var 0) q_int) q_int) (q_gsb (W := W0) (q_var 0) q_int))
    (q_seq (q_set (i := 2) nd rfl (by first | exact Or.inl rfl | exact Or.inr rfl) (q_op op_addU addU_v (q_op op_mod mod_v (q_ix (q_var 0) q_int) q_int) (q_op op_mulU mulU_v (q_op op_fdivW div_v (q_ix (q_var 0) q_int) q_int) q_int)))
    (q_seq (q_set (i := 2) nd rfl (by first | exact Or.inl rfl | exact Or.inr rfl) (q_op op_mod mod_v (q_op op_mulU mulU_v (q_op op_addU addU_v (q_op op_addU addU_v (q_var 2) (q_op op_mulU mulU_v q_int (q_ix (q_var 0) q_int))) q_int) q_int) q_int))
    (q_seq (q_set (i := 2) nd rfl (by first | exact Or.inl rfl | exact Or.inr rfl) (q_op op_mod mod_v (q_op op_mulU mulU_v (q_var 2) (q_op op_addU addU_v (q_op op_addU addU_v (q_op op_fdivW div_v (q_var 2) q_int) q_int) (q_ix (q_var 0) q_int))) q_int))
    (q_last (q_ret (q_op op_mod mod_v (q_op op_mod mod_v (q_op op_mulU mulU_v (q_var 2) (q_op op_addU addU_v (q_op op_fdivW div_v (q_var 2) q_int) q_int)) q_int) (q_var 1)))))))))
theorem ok__law_word {k : Nat} {cl : Fn → FF} [Wo] (T : Txt K w.params mg) (hW : Wo.ww = w) (C : ∀ g : Fn, g ≠ .f_law → calOf P w K mg base k g (cl g)) (f : Addr) (cdv : Value) (A : Around) (outer : List Env) (s : Shared) (H : Hp) (E : XK) (hr : RoomG k (A.deeper (envOfC "_law_word" (defScope s__law_word) s.heap.objs.size f cdv))) :
    PSs (cxOf (L2.CX P w) P w K mg base ["_law_term", "_law_sizes", "_law_worth", "_law_word_here", "e", "_law_kinds"] "_law_word" (defScope s__law_word) f cdv A outer s H E) (defBody s__law_word) (tS (cxOf (L2.CX P w) P w K mg base ["_law_term", "_law_sizes", "_law_worth", "_law_word_here", "e", "_law_kinds"] "_law_word" (defScope s__law_word) f cdv A outer s H E) (fun c d _ H => E c d H) (b__law_word cl)) := by
  have tk : Takes (cxOf (L2.CX P w) P w K mg base ["_law_term", "_law_sizes", "_law_worth", "_law_word_here", "e", "_law_kinds"] "_law_word" (defScope s__law_word) f cdv A outer s H E) (fun c d _ H => E c d H) := takes_of rfl rfl rfl rfl
  have nd := sc__law_word.nd
  exact (q_seq (q_set (i := 3) nd rfl (by first | exact Or.inl rfl | exact Or.inr rfl) q_str)
    (q_seq (q_tryA (i := 4) T.c_SwapError rfl rfl rfl nd rfl rfl tk T.xk (fun W' pn xe tk' po' => (q_last (q_expr (q_call (C .f_done (fun z => nomatch z)) hr tk' rfl (q_cons (q_var 0) (q_cons (q_var 1) (q_cons (q_var 2) q_nil))))))) (fun y hy a oe pn C hyC hz hfz => (q_seq (q_set (i := 5) nd rfl (by first | exact Or.inl rfl | exact Or.inr rfl) (q_lst (q_cons (q_isE (T.xk y hy) hyC (T.i_NoTerm y hy) hz hfz rfl T.m_isinstance rfl (q_var 4)) (q_cons (q_isE (T.xk y hy) hyC (T.i_NoSizes y hy) hz hfz rfl T.m_isinstance rfl (q_var 4)) (q_cons (q_isE (T.xk y hy) hyC (T.i_NoWorth y hy) hz hfz rfl T.m_isinstance rfl (q_var 4)) q_nil)))))
    (q_seq (q_set (i := 5) nd rfl (by first | exact Or.inl rfl | exact Or.inr rfl) (q_op op_addU addU_v (q_var 5) (q_lst (q_cons (q_isE (T.xk y hy) hyC (T.i_NoKind y hy) hz hfz rfl T.m_isinstance rfl (q_var 4)) (q_cons (q_isE (T.xk y hy) hyC (T.i_TooMany y hy) hz hfz rfl T.m_isinstance rfl (q_var 4)) q_nil)))))
    (q_seq (q_set (i := 3) nd rfl (by first | exact Or.inl rfl | exact Or.inr rfl) q_str)
    (q_last (q_ifS (qt_cmp (op_eqU (by have z := hu2 hr; exact z)) eqP_v (q_mth PySem.F.slot_list_count PySem.F.type_list_count (mt_cntD (by have z := hu2 hr; exact z)) cnt_v (q_var 5) (q_cons q_bl q_nil)) q_int (nomark _)) (q_last (q_set (i := 3) nd rfl (by first | exact Or.inl rfl | exact Or.inr rfl) (q_ix (q_lst (q_cons q_str (q_cons q_str (q_cons q_str (q_cons q_str (q_cons q_str q_nil)))))) (q_mth PySem.F.slot_list_index PySem.F.type_list_index (mt_indexD (by have z := hu65 hr; exact z)) idx_v (q_var 5) (q_cons q_bl q_nil))))) q_snil)))))))
    (q_last (q_ret (q_var 3)))))
theorem ok__law_one {k : Nat} {cl : Fn → FF} [Wo] (T : Txt K w.params mg) (hW : Wo.ww = w) (C : ∀ g : Fn, g ≠ .f_law → calOf P w K mg base k g (cl g)) (f : Addr) (cdv : Value) (A : Around) (outer : List Env) (s : Shared) (H : Hp) (E : XK) (hr : RoomG k (A.deeper (envOfC "_law_one" (defScope s__law_one) s.heap.objs.size f cdv))) :
    PSs (cxOf (L2.CX P w) P w K mg base ["_law_well_here", "_law_some"] "_law_one" (defScope s__law_one) f cdv A outer s H E) (defBody s__law_one) (tS (cxOf (L2.CX P w) P w K mg base ["_law_well_here", "_law_some"] "_law_one" (defScope s__law_one) f cdv A outer s H E) (fun c d _ H => E c d H) (b__law_one cl)) := by
  have tk : Takes (cxOf (L2.CX P w) P w K mg base ["_law_well_here", "_law_some"] "_law_one" (defScope s__law_one) f cdv A outer s H E) (fun c d _ H => E c d H) := takes_of rfl rfl rfl rfl
  have nd := sc__law_one.nd
  exact (q_last (q_ret (q_ix (q_var 1) (q_call (C .f__law_draw (fun z => nomatch z)) hr tk rfl (q_cons (q_var 0) (q_cons (q_callB call_len len_v rfl T.m_len PySem.boot_len (q_cons (q_var 1) q_nil)) q_nil))))))
theorem ok__law_function {k : Nat} {cl : Fn → FF} [Wo] (T : Txt K w.params mg) (hW : Wo.ww = w) (C : ∀ g : Fn, g ≠ .f_law → calOf P w K mg base k g (cl g)) (f : Addr) (cdv : Value) (A : Around) (outer : List Env) (s : Shared) (H : Hp) (E : XK) (hr : RoomG k (A.deeper (envOfC "_law_function" (defScope s__law_function) s.heap.objs.size f cdv))) :
    PSs (cxOf (L2.CX P w) P w K mg base ["_law_well_here", "_law_n", "_law_base", "_law_way", "_law_bad"] "_law_function" (defScope s__law_function) f cdv A outer s H E) (defBody s__law_function) (tS (cxOf (L2.CX P w) P w K mg base ["_law_well_here", "_law_n", "_law_base", "_law_way", "_law_bad"] "_law_function" (defScope s__law_function) f cdv A outer s H E) (fun c d _ H => E c d H) (b__law_function cl)) := by
  have tk : Takes (cxOf (L2.CX P w) P w K mg base ["_law_well_here", "_law_n", "_law_base", "_law_way", "_law_bad"] "_law_function" (defScope s__law_function) f cdv A outer s H E) (fun c d _ H => E c d H) := takes_of rfl rfl rfl rfl
  have nd := sc__law_function.nd
  exact (q_seq (q_set (i := 2) nd rfl (by first | exact Or.inl rfl | exact Or.inr rfl) (q_tup (q_cons q_str (q_cons (q_var 1) q_nil))))
    (q_seq (q_set (i := 3) nd rfl (by first | exact Or.inl rfl | exact Or.inr rfl) (q_call (C .f__law_draw (fun z => nomatch z)) hr tk rfl (q_cons (q_var 0) (q_cons q_int q_nil))))
    (q_seq (q_ifS (qt_cmp (op_eqU (by have z := hu2 hr; exact z)) eqP_v (q_var 3) q_int (nomark _)) (q_last (q_ret (q_tup (q_cons (q_var 2) (q_cons (q_lst (q_cons q_int (q_cons q_int q_nil))) (q_cons (q_lst (q_cons q_int (q_cons (q_neg q_int) (q_cons q_bl (q_cons q_str (q_cons q_non (q_cons (q_tup (q_cons q_int q_nil)) (q_cons (q_lst (q_cons q_int q_nil)) (q_cons (q_op op_pow pow_v q_int q_int) q_nil))))))))) q_nil)))))) q_snil)
    (q_seq (q_ifS (qt_cmp (op_eqU (by have z := hu2 hr; exact z)) eqP_v (q_var 3) q_int (nomark _)) (q_seq (q_set (i := 4) nd rfl (by first | exact Or.inl rfl | exact Or.inr rfl) (q_lst (q_cons (q_tup (q_cons q_int q_nil)) (q_cons (q_tup (q_cons q_int (q_cons (q_tup q_nil) (q_cons q_int q_nil)))) (q_cons (q_lst (q_cons q_int (q_cons (q_tup q_nil) q_nil))) (q_cons (q_tup (q_cons q_int (q_cons (q_tup q_nil) q_nil))) (q_cons (q_tup (q_cons q_int (q_cons q_non q_nil))) (q_cons (q_tup (q_cons q_int (q_cons q_int q_nil))) (q_cons (q_tup q_nil) q_nil)))))))))
    (q_last (q_ret (q_tup (q_cons (q_tup (q_cons q_str (q_cons (q_var 2) (q_cons (q_tup (q_cons q_str q_nil)) q_nil)))) (q_cons (q_lst (q_cons (q_tup (q_cons q_int (q_cons (q_tup q_nil) q_nil))) (q_cons (q_tup (q_cons q_int (q_cons (q_tup q_nil) q_nil))) q_nil))) (q_cons (q_var 4) q_nil))))))) q_snil)
    (q_seq (q_ifS (qt_cmp (op_eqU (by have z := hu2 hr; exact z)) eqP_v (q_var 3) q_int (nomark _)) (q_last (q_ret (q_tup (q_cons (q_tup (q_cons q_str q_nil)) (q_cons (q_lst (q_cons (q_tup q_nil) q_nil)) (q_cons (q_lst (q_cons q_int (q_cons q_non (q_cons (q_lst q_nil) (q_cons (q_tup (q_cons q_int q_nil)) (q_cons (q_tup (q_cons (q_tup q_nil) q_nil)) (q_cons q_str q_nil))))))) q_nil)))))) q_snil)
    (q_seq (q_set (i := 4) nd rfl (by first | exact Or.inl rfl | exact Or.inr rfl) (q_lst (q_cons (q_tup (q_cons q_int q_nil)) (q_cons (q_tup (q_cons q_int (q_cons q_int (q_cons q_int q_nil)))) (q_cons (q_lst (q_cons q_int (q_cons q_int q_nil))) (q_cons (q_tup (q_cons q_int (q_cons q_int q_nil))) (q_cons (q_tup (q_cons q_bl (q_cons q_int q_nil))) (q_cons (q_tup (q_cons q_int (q_cons q_non q_nil))) (q_cons q_int (q_cons (q_tup q_nil) q_nil))))))))))
    (q_last (q_ret (q_tup (q_cons (q_tup (q_cons q_str (q_cons (q_var 2) (q_cons (q_var 2) q_nil)))) (q_cons (q_lst (q_cons (q_tup (q_cons q_int (q_cons q_int q_nil))) (q_cons (q_tup (q_cons q_int (q_cons q_int q_nil))) (q_cons (q_tup (q_cons q_int (q_cons q_int q_nil))) q_nil)))) (q_cons (q_var 4) q_nil))))))))))))
theorem ok__law_great {k : Nat} {cl : Fn → FF} [Wo] (T : Txt K w.params mg) (hW : Wo.ww = w) (C : ∀ g : Fn, g ≠ .f_law → calOf P w K mg base k g (cl g)) (f : Addr) (cdv : Value) (A : Around) (outer : List Env) (s : Shared) (H : Hp) (E : XK) (hr : RoomG k (A.deeper (envOfC "_law_great" (defScope s__law_great) s.heap.objs.size f cdv))) :
    PSs (cxOf (L2.CX P w) P w K mg base ["_law_well_here", "_law_n", "_law_base", "_law_step", "_law_some"] "_law_great" (defScope s__law_great) f cdv A outer s H E) (defBody s__law_great) (tS (cxOf (L2.CX P w) P w K mg base ["_law_well_here", "_law_n", "_law_base", "_law_step", "_law_some"] "_law_great" (defScope s__law_great) f cdv A outer s H E) (fun c d _ H => E c d H) (b__law_great cl)) := by
  have tk : Takes (cxOf (L2.CX P w) P w K mg base ["_law_well_here", "_law_n", "_law_base", "_law_step", "_law_some"] "_law_great" (defScope s__law_great) f cdv A outer s H E) (fun c d _ H => E c d H) := takes_of rfl rfl rfl rfl
  have nd := sc__law_great.nd
  exact (q_seq (q_set (i := 2) nd rfl (by first | exact Or.inl rfl | exact Or.inr rfl) (q_tup (q_cons q_str (q_cons (q_var 1) q_nil))))
    (q_seq (q_set (i := 3) nd rfl (by first | exact Or.inl rfl | exact Or.inr rfl) (q_tup (q_cons q_str (q_cons (q_var 2) (q_cons (q_var 2) q_nil)))))
    (q_seq (q_set (i := 4) nd rfl (by first | exact Or.inl rfl | exact Or.inr rfl) (q_cel (q_cons (q_tup (q_cons q_str (q_cons (q_tup (q_cons q_str (q_cons (q_var 3) (q_cons (q_var 2) q_nil)))) (q_cons (q_tup (q_cons q_str (q_cons q_int q_nil))) q_nil)))) (q_cons (q_tup (q_cons q_str (q_cons (q_tup (q_cons q_str q_nil)) (q_cons (q_tup (q_cons q_str (q_cons (q_var 3) (q_cons (q_tup (q_cons q_str q_nil)) q_nil)))) q_nil)))) q_nil))))
    (q_seq (q_expr (q_mth PySem.F.slot_list_append PySem.F.type_list_append mt_append append_v (q_var 4) (q_cons (q_tup (q_cons q_str (q_cons (q_tup (q_cons q_str (q_cons (q_var 2) (q_cons (q_tup (q_cons q_str (q_cons (q_var 3) (q_cons (q_tup (q_cons q_str q_nil)) q_nil)))) q_nil)))) (q_cons (q_tup (q_cons q_str (q_cons (q_tup (q_cons q_str (q_cons q_int q_nil))) q_nil))) q_nil)))) q_nil)))
    (q_seq (q_expr (q_mth PySem.F.slot_list_append PySem.F.type_list_append mt_append append_v (q_var 4) (q_cons (q_tup (q_cons q_str (q_cons (q_var 2) (q_cons (q_tup (q_cons q_str (q_cons (q_tup (q_cons q_str (q_cons q_int q_nil))) (q_cons (q_tup (q_cons q_str (q_cons (q_var 3) (q_cons (q_tup (q_cons q_str (q_cons (q_tup (q_cons q_str (q_cons q_int q_nil))) (q_cons (q_tup (q_cons q_str (q_cons q_int q_nil))) q_nil)))) q_nil)))) q_nil)))) q_nil)))) q_nil)))
    (q_last (q_ret (q_ix (q_var 4) (q_call (C .f__law_draw (fun z => nomatch z)) hr tk rfl (q_cons (q_var 0) (q_cons q_int q_nil)))))))))))
theorem ok_law {k : Nat} {cl : Fn → FF} [Wo] (T : Txt K w.params mg) (hW : Wo.ww = w) (C : ∀ g : Fn, g ≠ .f_law → calOf P w K mg base k g (cl g)) (f : Addr) (cdv : Value) (A : Around) (outer : List Env) (s : Shared) (H : Hp) (E : XK) (hr : RoomG k (A.deeper (envOfC "law" (defScope s_law) s.heap.objs.size f cdv))) :
    PSs (cxOf (L2.CX P w) P w K mg base ["_law_script", "_law_cell", "_law_well_here", "_law_n", "_law_kind", "_law_good", "_law_bad", "_law_term", "_law_sizes", "_law_worth", "_law_due", "_law_kept", "_law_turn", "_law_odd"] "law" (defScope s_law) f cdv A outer s H E) (defBody s_law) (tS (cxOf (L2.CX P w) P w K mg base ["_law_script", "_law_cell", "_law_well_here", "_law_n", "_law_kind", "_law_good", "_law_bad", "_law_term", "_law_sizes", "_law_worth", "_law_due", "_law_kept", "_law_turn", "_law_odd"] "law" (defScope s_law) f cdv A outer s H E) (fun c d _ H => E c d H) (b_law cl)) := by
  have tk : Takes (cxOf (L2.CX P w) P w K mg base ["_law_script", "_law_cell", "_law_well_here", "_law_n", "_law_kind", "_law_good", "_law_bad", "_law_term", "_law_sizes", "_law_worth", "_law_due", "_law_kept", "_law_turn", "_law_odd"] "law" (defScope s_law) f cdv A outer s H E) (fun c d _ H => E c d H) := takes_of rfl rfl rfl rfl
  have nd := sc_law.nd
  exact (q_seq (q_for (passes_of rfl) rfl (qi_list (q_op op_addU addU_v (q_lst (q_cons q_int (q_cons q_int q_nil))) (q_slice (q_var 0) q_none (q_some q_int)))) (q_gn (i := 1) nd rfl (by first | exact Or.inl rfl | exact Or.inr rfl)) (q_seq (q_set (i := 2) nd rfl (by first | exact Or.inl rfl | exact Or.inr rfl) (q_call (C .f__law_well (fun z => nomatch z)) hr tk rfl (q_cons (q_var 1) q_nil)))
    (q_seq (q_set (i := 3) nd rfl (by first | exact Or.inl rfl | exact Or.inr rfl) (q_call (C .f__law_draw (fun z => nomatch z)) hr tk rfl (q_cons (q_var 2) (q_cons q_int q_nil))))
    (q_seq (q_asg (q_call (C .f__law_function (fun z => nomatch z)) hr tk rfl (q_cons (q_var 2) (q_cons (q_var 3) q_nil))) (q_gtu rfl (q_gscons (q_gn (i := 4) nd rfl (by first | exact Or.inl rfl | exact Or.inr rfl)) (q_gscons (q_gn (i := 5) nd rfl (by first | exact Or.inl rfl | exact Or.inr rfl)) (q_gscons (q_gn (i := 6) nd rfl (by first | exact Or.inl rfl | exact Or.inr rfl)) q_gsnil)))))
    (q_seq (q_set (i := 7) nd rfl (by first | exact Or.inl rfl | exact Or.inr rfl) (q_tup (q_cons q_str (q_cons (q_var 4) (q_cons (q_call (C .f__law_one (fun z => nomatch z)) hr tk rfl (q_cons (q_var 2) (q_cons (q_lst (q_cons (q_tup (q_cons q_str (q_cons q_int q_nil))) (q_cons (q_tup (q_cons q_str q_nil)) (q_cons (q_tup (q_cons q_str (q_cons (q_tup (q_cons q_str (q_cons q_int q_nil))) (q_cons (q_tup (q_cons q_str q_nil)) q_nil)))) q_nil)))) q_nil))) q_nil)))))
    (q_seq (q_set (i := 8) nd rfl (by first | exact Or.inl rfl | exact Or.inr rfl) (q_cel (q_cons q_int (q_cons q_int (q_cons q_int (q_cons q_int (q_cons q_int (q_cons q_int (q_cons q_int (q_cons q_int q_nil))))))))))
    (q_seq (q_asg q_int (q_gsb (W := W0) (q_var 8) (q_var 3)))
    (q_seq (q_set (i := 9) nd rfl (by first | exact Or.inl rfl | exact Or.inr rfl) (q_call (C .f__law_one (fun z => nomatch z)) hr tk rfl (q_cons (q_var 2) (q_cons (q_var 5) q_nil))))
    (q_seq (q_set (i := 10) nd rfl (by first | exact Or.inl rfl | exact Or.inr rfl) q_str)
    (q_seq (q_ifS (qt_cmp (op_eqU (by have z := hu2 hr; exact z)) eqP_v (q_call (C .f__law_draw (fun z => nomatch z)) hr tk rfl (q_cons (q_var 2) (q_cons q_int q_nil))) q_int (nomark _)) (q_seq (q_set (i := 9) nd rfl (by first | exact Or.inl rfl | exact Or.inr rfl) (q_call (C .f__law_one (fun z => nomatch z)) hr tk rfl (q_cons (q_var 2) (q_cons (q_var 6) q_nil))))
    (q_last (q_set (i := 10) nd rfl (by first | exact Or.inl rfl | exact Or.inr rfl) q_str))) q_snil)
    (q_seq (q_ifS (qt_cmp (op_eqU (by have z := hu2 hr; exact z)) eqP_v (q_call (C .f__law_draw (fun z => nomatch z)) hr tk rfl (q_cons (q_var 2) (q_cons q_int q_nil))) q_int (nomark _)) (q_seq (q_set (i := 7) nd rfl (by first | exact Or.inl rfl | exact Or.inr rfl) (q_call (C .f__law_great (fun z => nomatch z)) hr tk rfl (q_cons (q_var 2) (q_cons (q_var 3) q_nil))))
    (q_seq (q_asg q_int (q_gsb (W := W0) (q_var 8) (q_var 3)))
    (q_last (q_set (i := 10) nd rfl (by first | exact Or.inl rfl | exact Or.inr rfl) q_str)))) q_snil)
    (q_seq (q_ifS (qt_cmp (op_eqU (by have z := hu2 hr; exact z)) eqP_v (q_call (C .f__law_draw (fun z => nomatch z)) hr tk rfl (q_cons (q_var 2) (q_cons q_int q_nil))) q_int (nomark _)) (q_seq (q_set (i := 13) nd rfl (by first | exact Or.inl rfl | exact Or.inr rfl) (q_cel (q_cons (q_slice (q_var 8) (q_some q_int) q_none) (q_cons (q_op op_addU addU_v (q_var 8) (q_lst (q_cons q_int q_nil))) (q_cons (q_op op_addU addU_v (q_lst (q_cons q_int q_nil)) (q_slice (q_var 8) (q_some q_int) q_none)) (q_cons (q_op op_addU addU_v (q_slice (q_var 8) q_none (q_some q_int)) (q_lst (q_cons q_int q_nil))) (q_cons (q_op op_addU addU_v (q_slice (q_var 8) q_none (q_some q_int)) (q_lst (q_cons q_bl q_nil))) (q_cons (q_callTy call_tuple_of tuple_v rfl T.m_tuple (by decide +kernel) (q_cons (q_var 8) q_nil)) q_nil))))))))
    (q_seq (q_set (i := 8) nd rfl (by first | exact Or.inl rfl | exact Or.inr rfl) (q_call (C .f__law_one (fun z => nomatch z)) hr tk rfl (q_cons (q_var 2) (q_cons (q_op op_addU addU_v (q_var 13) (q_lst (q_cons q_non (q_cons q_str (q_cons (q_op op_addU addU_v (q_slice (q_var 8) q_none (q_some q_int)) (q_lst (q_cons q_str q_nil))) (q_cons q_dic0 (q_cons q_int q_nil))))))) q_nil))))
    (q_last (q_set (i := 10) nd rfl (by first | exact Or.inl rfl | exact Or.inr rfl) q_str)))) q_snil)
    (q_seq (q_ifS (qt_cmp (op_eqU (by have z := hu2 hr; exact z)) eqP_v (q_call (C .f__law_draw (fun z => nomatch z)) hr tk rfl (q_cons (q_var 2) (q_cons q_int q_nil))) q_int (nomark _)) (q_seq (q_set (i := 13) nd rfl (by first | exact Or.inl rfl | exact Or.inr rfl) (q_cel (q_cons (q_tup (q_cons q_str (q_cons q_int q_nil))) (q_cons (q_tup (q_cons q_str q_nil)) (q_cons q_non (q_cons (q_tup (q_cons q_str (q_cons (q_var 4) (q_cons (q_tup (q_cons q_str (q_cons q_int q_nil))) q_nil)))) (q_cons (q_tup (q_cons q_str (q_cons q_non (q_cons (q_tup (q_cons q_str q_nil)) q_nil)))) q_nil)))))))
    (q_seq (q_set (i := 13) nd rfl (by first | exact Or.inl rfl | exact Or.inr rfl) (q_op op_addU addU_v (q_var 13) (q_lst (q_cons (q_tup (q_cons q_str (q_cons (q_var 7) (q_cons (q_var 7) q_nil)))) (q_cons (q_tup (q_cons q_str (q_cons (q_var 7) (q_cons (q_var 7) q_nil)))) (q_cons (q_tup (q_cons q_str (q_cons (q_var 7) q_nil))) (q_cons (q_callTy call_list_of list_v rfl T.m_list (by decide +kernel) (q_cons (q_var 7) q_nil)) (q_cons (q_tup (q_cons q_str (q_cons (q_var 4) q_nil))) q_nil))))))))
    (q_seq (q_expr (q_mth PySem.F.slot_list_append PySem.F.type_list_append mt_append append_v (q_var 13) (q_cons (q_tup (q_cons q_str (q_cons (q_tup (q_cons q_str (q_cons q_int q_nil))) (q_cons (q_tup (q_cons q_str q_nil)) q_nil)))) q_nil)))
    (q_seq (q_set (i := 7) nd rfl (by first | exact Or.inl rfl | exact Or.inr rfl) (q_call (C .f__law_one (fun z => nomatch z)) hr tk rfl (q_cons (q_var 2) (q_cons (q_var 13) q_nil))))
    (q_last (q_set (i := 10) nd rfl (by first | exact Or.inl rfl | exact Or.inr rfl) q_str)))))) q_snil)
    (q_seq (q_set (i := 11) nd rfl (by first | exact Or.inl rfl | exact Or.inr rfl) (q_callTy (call_strT hr.gd (hu2 hr)) strT_v rfl T.m_str (by decide +kernel) (q_cons (q_tup (q_cons (q_var 7) (q_cons (q_var 8) (q_cons (q_var 9) q_nil)))) q_nil)))
    (q_last (q_for (passes_of rfl) rfl (qi_range1 rfl T.m_range (q_cons q_int q_nil)) (q_gn (i := 12) nd rfl (by first | exact Or.inl rfl | exact Or.inr rfl)) (q_last (q_ifS (PW.pt (qw_or (qt_cmp (op_neU (by have z := hu2 hr; exact z)) neP_v (q_call (C .f__law_word (fun z => nomatch z)) hr tk rfl (q_cons (q_var 7) (q_cons (q_var 8) (q_cons (q_var 9) q_nil)))) (q_var 10) (nomark _)) (qw_one (qt_cmp (op_neU (by have z := hu2 hr; exact z)) neP_v (q_callTy (call_strT hr.gd (hu2 hr)) strT_v rfl T.m_str (by decide +kernel) (q_cons (q_tup (q_cons (q_var 7) (q_cons (q_var 8) (q_cons (q_var 9) q_nil)))) q_nil)) (q_var 11) (nomark _))))) (q_last (q_ret q_bl)) q_snil))))))))))))))))))
    (q_last (q_ret q_bl)))
theorem all_ok [Wo] (T : Txt K w.params mg) (hW : Wo.ww = w) : ∀ (n : Nat) (g : Fn), g ≠ .f_law → calOf P w K mg base n g (ev n g)
  | 0, .f_Reckoner___init__, _ => calM_zero T.t_Reckoner___init__
  | 0, .f_Reckoner_all_of, _ => calM_zero T.t_Reckoner_all_of
  | 0, .f_Reckoner_held, _ => calM_zero T.t_Reckoner_held
  | 0, .f_Reckoner_told, _ => calM_zero T.t_Reckoner_told
  | 0, .f_Reckoner_worked, _ => calM_zero T.t_Reckoner_worked
  | 0, .f_Told___init__, _ => calM_zero T.t_Told___init__
  | 0, .f_Told_handed, _ => calM_zero T.t_Told_handed
  | 0, .f_Made___init__, _ => calM_zero T.t_Made___init__
  | 0, .f_Made_handed, _ => calM_zero T.t_Made_handed
  | 0, .f_is_from, _ => cal_zero T.t_is_from
  | 0, .f_inner_of, _ => cal_zero T.t_inner_of
  | 0, .f_is_kind, _ => cal_zero T.t_is_kind
  | 0, .f_sure_kind, _ => cal_zero T.t_sure_kind
  | 0, .f_sure_sizes, _ => cal_zero T.t_sure_sizes
  | 0, .f_power_up_to, _ => cal_zero T.t_power_up_to
  | 0, .f_number_up_to, _ => cal_zero T.t_number_up_to
  | 0, .f_sure_taken, _ => cal_zero T.t_sure_taken
  | 0, .f_lists_of, _ => cal_zero T.t_lists_of
  | 0, .f_all_worths, _ => cal_zero T.t_all_worths
  | 0, .f_worths, _ => cal_zero T.t_worths
  | 0, .f_is_plain_worth, _ => cal_zero T.t_is_plain_worth
  | 0, .f_is_worth, _ => cal_zero T.t_is_worth
  | 0, .f_is_shape, _ => cal_zero T.t_is_shape
  | 0, .f_kind_of_given, _ => cal_zero T.t_kind_of_given
  | 0, .f_kind_of_two, _ => cal_zero T.t_kind_of_two
  | 0, .f_kind_in, _ => cal_zero T.t_kind_in
  | 0, .f_sure_kind_in, _ => cal_zero T.t_sure_kind_in
  | 0, .f_done, _ => cal_zero T.t_done
  | 0, .f__law_well, _ => cal_zero T.t__law_well
  | 0, .f__law_draw, _ => cal_zero T.t__law_draw
  | 0, .f__law_word, _ => cal_zero T.t__law_word
  | 0, .f__law_one, _ => cal_zero T.t__law_one
  | 0, .f__law_function, _ => cal_zero T.t__law_function
  | 0, .f__law_great, _ => cal_zero T.t__law_great
  | n + 1, .f_Reckoner___init__, _ => calMB T.t_Reckoner___init__ sc_Reckoner___init__ (ok_Reckoner___init__ T hW (all_ok T hW n))
  | n + 1, .f_Reckoner_all_of, _ => calMB T.t_Reckoner_all_of sc_Reckoner_all_of (ok_Reckoner_all_of T hW (all_ok T hW n))
  | 1, .f_Reckoner_held, _ => calM_zero T.t_Reckoner_held
  | n + 2, .f_Reckoner_held, _ => calMB T.t_Reckoner_held sc_Reckoner_held (ok_Reckoner_held T hW (all_ok T hW (n + 1)) (all_ok T hW n))
  | n + 1, .f_Reckoner_told, _ => calMB T.t_Reckoner_told sc_Reckoner_told (ok_Reckoner_told T hW (all_ok T hW n))
  | 1, .f_Reckoner_worked, _ => calM_zero T.t_Reckoner_worked
  | n + 2, .f_Reckoner_worked, _ => calMB T.t_Reckoner_worked sc_Reckoner_worked (ok_Reckoner_worked T hW (all_ok T hW (n + 1)) (all_ok T hW n))
  | n + 1, .f_Told___init__, _ => calMB T.t_Told___init__ sc_Told___init__ (ok_Told___init__ T hW (all_ok T hW n))
  | n + 1, .f_Told_handed, _ => calMB T.t_Told_handed sc_Told_handed (ok_Told_handed T hW (all_ok T hW n))
  | n + 1, .f_Made___init__, _ => calMB T.t_Made___init__ sc_Made___init__ (ok_Made___init__ T hW (all_ok T hW n))
  | n + 1, .f_Made_handed, _ => calMB T.t_Made_handed sc_Made_handed (ok_Made_handed T hW (all_ok T hW n))
  | n + 1, .f_is_from, _ => calB T.t_is_from sc_is_from (ok_is_from T hW (all_ok T hW n))
  | n + 1, .f_inner_of, _ => calB T.t_inner_of sc_inner_of (ok_inner_of T hW (all_ok T hW n))
  | n + 1, .f_is_kind, _ => calC T.t_is_kind sc_is_kind (ok_is_kind T hW (all_ok T hW n))
  | n + 1, .f_sure_kind, _ => calB T.t_sure_kind sc_sure_kind (ok_sure_kind T hW (all_ok T hW n))
  | n + 1, .f_sure_sizes, _ => calB T.t_sure_sizes sc_sure_sizes (ok_sure_sizes T hW (all_ok T hW n))
  | n + 1, .f_power_up_to, _ => calB T.t_power_up_to sc_power_up_to (ok_power_up_to T hW (all_ok T hW n))
  | n + 1, .f_number_up_to, _ => calB T.t_number_up_to sc_number_up_to (ok_number_up_to T hW (all_ok T hW n))
  | n + 1, .f_sure_taken, _ => calB T.t_sure_taken sc_sure_taken (ok_sure_taken T hW (all_ok T hW n))
  | n + 1, .f_lists_of, _ => calB T.t_lists_of sc_lists_of (ok_lists_of T hW (all_ok T hW n))
  | n + 1, .f_all_worths, _ => calB T.t_all_worths sc_all_worths (ok_all_worths T hW (all_ok T hW n))
  | n + 1, .f_worths, _ => calB T.t_worths sc_worths (ok_worths T hW (all_ok T hW n))
  | n + 1, .f_is_plain_worth, _ => calB T.t_is_plain_worth sc_is_plain_worth (ok_is_plain_worth T hW (all_ok T hW n))
  | n + 1, .f_is_worth, _ => calB T.t_is_worth sc_is_worth (ok_is_worth T hW (all_ok T hW n))
  | n + 1, .f_is_shape, _ => calB T.t_is_shape sc_is_shape (ok_is_shape T hW (all_ok T hW n))
  | n + 1, .f_kind_of_given, _ => calB T.t_kind_of_given sc_kind_of_given (ok_kind_of_given T hW (all_ok T hW n))
  | n + 1, .f_kind_of_two, _ => calB T.t_kind_of_two sc_kind_of_two (ok_kind_of_two T hW (all_ok T hW n))
  | n + 1, .f_kind_in, _ => calB T.t_kind_in sc_kind_in (ok_kind_in T hW (all_ok T hW n))
  | n + 1, .f_sure_kind_in, _ => calB T.t_sure_kind_in sc_sure_kind_in (ok_sure_kind_in T hW (all_ok T hW n))
  | 1, .f_done, _ => cal_no T.t_done
  | n + 2, .f_done, _ => calC T.t_done sc_done (ok_done T hW (all_ok T hW (n + 1)) (all_ok T hW n))
  | n + 1, .f__law_well, _ => calB T.t__law_well sc__law_well (ok__law_well T hW (all_ok T hW n))
  | n + 1, .f__law_draw, _ => calB T.t__law_draw sc__law_draw (ok__law_draw T hW (all_ok T hW n))
  | n + 1, .f__law_word, _ => calB T.t__law_word sc__law_word (ok__law_word T hW (all_ok T hW n))
  | n + 1, .f__law_one, _ => calB T.t__law_one sc__law_one (ok__law_one T hW (all_ok T hW n))
  | n + 1, .f__law_function, _ => calB T.t__law_function sc__law_function (ok__law_function T hW (all_ok T hW n))
  | n + 1, .f__law_great, _ => calC T.t__law_great sc__law_great (ok__law_great T hW (all_ok T hW n))
  | _, .f_law, h => absurd rfl h
end
end Kz
namespace Kz
open PySem PySem.Spec PyProof.Rows L2 Kw
theorem up {n d : Nat} (h : d + 1 ≤ n) : ∃ m, n = m + 1 ∧ d ≤ m := ⟨n - 1, by omega, by omega⟩
theorem is_from_int {n : Nat} {i lo hi : Int} {S : Store} (h : 1 ≤ n) : ev n .f_is_from [.int i, .int lo, .int hi] S = .ok (.bl (decide (lo ≤ i) && decide (i ≤ hi))) S := by
  obtain ⟨m, rfl, h'⟩ := up h
  rw [ev, b_is_from]
  simp
  by_cases h : lo ≤ i <;> simp [h]
mutual
/-- data whose sort is known, whose texts are good; no cells -/
def pl : D → Bool
  | .non | .bl _ | .int _ | .fls _ | .lst _ | .dic _ _ => true
  | .str s => PyData.strOk s
  | .tup ds => plL ds
  | _ => false
def plL : List D → Bool
  | [] => true
  | d :: ds => pl d && plL ds
end
abbrev lay (d : D) : Prop := pl d = true
abbrev layL (ds : List D) : Prop := plL ds = true
theorem layL_nil : layL [] := rfl
theorem layL_cons {d : D} {ds : List D} : layL (d :: ds) ↔ lay d ∧ layL ds := by simp [layL, lay, plL]
theorem layL_app {ds es : List D} : layL (ds ++ es) ↔ layL ds ∧ layL es := by
  induction ds with
  | nil => simp [layL, plL]
  | cons d ds ih => rw [List.cons_append, layL_cons, layL_cons, ih, and_assoc]
theorem lay_tup {ds : List D} (h : lay (.tup ds)) : layL ds := by simpa [lay, pl] using h
theorem isi_notup {d : D} {S : Store} (h : lay d) (hn : ∀ ds, d ≠ .tup ds) : isiR "tuple" d S = .ok (.bl false) S := by
  cases d with
  | tup ds => exact absurd rfl (hn ds)
  | fls b => rfl
  | loc _ => simp [lay, pl] at h
  | ins _ _ _ => simp [lay, pl] at h
  | glo _ => simp [lay, pl] at h
  | exn _ => simp [lay, pl] at h
  | exo _ _ _ => simp [lay, pl] at h
  | lam _ _ _ => simp [lay, pl] at h
  | _ => simp
theorem isi_nostr {d : D} {S : Store} (h : lay d) (hn : ∀ ds, d ≠ .str ds) : isiR "str" d S = .ok (.bl false) S := by
  cases d with
  | str ds => exact absurd rfl (hn ds)
  | fls b => rfl
  | loc _ => simp [lay, pl] at h
  | ins _ _ _ => simp [lay, pl] at h
  | glo _ => simp [lay, pl] at h
  | exn _ => simp [lay, pl] at h
  | exo _ _ _ => simp [lay, pl] at h
  | lam _ _ _ => simp [lay, pl] at h
  | _ => simp
theorem is_from_else {n : Nat} {d : D} {lo hi : Int} {S : Store} (h : 1 ≤ n) (l : lay d) (hn : ∀ i, d ≠ .int i) : ev n .f_is_from [d, .int lo, .int hi] S = .ok (.bl false) S := by
  obtain ⟨m, rfl, h'⟩ := up h
  rw [ev, b_is_from]
  cases d with
  | int i => exact absurd rfl (hn i)
  | fls b => simp; rfl
  | loc _ => simp [lay, pl] at l
  | ins _ _ _ => simp [lay, pl] at l
  | glo _ => simp [lay, pl] at l
  | exn _ => simp [lay, pl] at l
  | exo _ _ _ => simp [lay, pl] at l
  | lam _ _ _ => simp [lay, pl] at l
  | _ => simp
def innR (s : Str) (r : List D) : Option (List D) :=
  if s = "base" then (match r with
    | [.int i] => if 0 ≤ i ∧ i ≤ 7 then some [] else none
    | _ => none)
  else if s = "unit" then (match r with
    | [] => some []
    | _ => none)
  else if s = "both" ∨ s = "from" then (match r with
    | [a, b] => some [a, b]
    | _ => none)
  else none
def innD : D → Option (List D)
  | .tup (.str s :: r) => innR s r
  | _ => none
def oL (o : Option (List D)) : D := match o with
  | some ds => .lst ds
  | none => .non
theorem cutL1 {α : Type} (d : α) (r : List α) : cutL (d :: r) (some 1) none = r := by
  have e1 : HT.sIx (r.length + 1) 0 (some 1) = 1 := by
    show (if (1 : Int) < 0 then ((1 : Int) + ((r.length + 1 : Nat) : Int)).toNat else min (1 : Int).toNat (r.length + 1)) = 1
    rw [if_neg (by decide)]
    show min 1 (r.length + 1) = 1
    omega
  have e2 : HT.sIx (r.length + 1) (r.length + 1) none = r.length + 1 := rfl
  unfold cutL
  rw [List.length_cons, e1, e2]
  simp
theorem inner_str {n : Nat} {s : Str} {r : List D} {S : Store} (h : 2 ≤ n) (l : layL r) (hs : PyData.strOk s = true) : ev n .f_inner_of [.tup (.str s :: r)] S = .ok (oL (innR s r)) S := by
  obtain ⟨m, rfl, h'⟩ := up h
  rw [ev, b_inner_of]
  have h8 : sizeLine = 16777216 := rfl
  have ne : ¬ ((r.length : Int) + 1 = 0) := by omega
  by_cases h1 : s = "base"
  · subst h1
    match r, l with
    | [], l => simp [innR, oL]
    | [d], l =>
      by_cases hi : ∃ i, d = .int i
      · obtain ⟨i, rfl⟩ := hi
        simp [is_from_int h', h8, innR, oL]
        by_cases c1 : 0 ≤ i <;> by_cases c2 : i ≤ 7 <;> simp [c1, c2]
      · have hi' : ∀ i, d ≠ .int i := fun i z => hi ⟨i, z⟩
        have ld := (layL_cons.mp l).1
        have e : innR (Str.ofString "base") [d] = none := by
          unfold innR
          rw [if_pos rfl]
          split
          · rename_i i q; cases q; exact absurd rfl (hi' i)
          · rfl
        simp [is_from_else h' ld hi', h8, e, oL]
    | d :: e :: r, l =>
      have n2 : ¬ ((r.length : Int) + 1 + 1 + 1 = 2) := by omega
      have n0 : ¬ ((r.length : Int) + 1 + 1 + 1 = 0) := by omega
      simp [innR, oL, n2, n0]
  · by_cases h2 : s = "unit"
    · subst h2
      match r, l with
      | [], l => simp [innR, oL]
      | d :: r, l =>
        have n2 : ¬ ((r.length : Int) + 1 + 1 = 1) := by omega
        have n0 : ¬ ((r.length : Int) + 1 + 1 = 0) := by omega
        simp [innR, oL, n2, n0]
    · have s1 : (s == Str.ofString "base") = false := by simpa using h1
      have s2 : (s == Str.ofString "unit") = false := by simpa using h2
      by_cases h3 : s = "both" ∨ s = "from"
      · have lk : (List.lookup s kv_MARKS).isSome = true := by rcases h3 with rfl | rfl <;> simp [kv_MARKS, List.lookup]
        match r, l with
        | [a, b], l => simp [ne, s1, s2, hs, lk, innR, h1, h2, h3, oL, cutL1]
        | [], l => simp [ne, s1, s2, hs, lk, innR, h1, h2, h3, oL]
        | [a], l => simp [ne, s1, s2, hs, lk, innR, h1, h2, h3, oL]
        | a :: b :: c :: r, l =>
          have n2 : ¬ ((r.length : Int) + 1 + 1 + 1 + 1 = 3) := by omega
          have n0 : ¬ ((r.length : Int) + 1 + 1 + 1 + 1 = 0) := by omega
          simp [n0, n2, s1, s2, hs, lk, innR, h1, h2, h3, oL]
      · have h4 : ¬ s = "both" := fun z => h3 (.inl z)
        have h5 : ¬ s = "from" := fun z => h3 (.inr z)
        have b1 : (s == Str.ofString "both") = false := by simpa using h4
        have b2 : (s == Str.ofString "from") = false := by simpa using h5
        have lk : (List.lookup s kv_MARKS).isSome = false := by simp [kv_MARKS, List.lookup, b1, b2]
        simp [ne, s1, s2, hs, lk, innR, h1, h2, h3, oL]
theorem inner_gen {n : Nat} {d : D} {S : Store} (h : 2 ≤ n) (l : lay d) : ev n .f_inner_of [d] S = .ok (oL (innD d)) S := by
  by_cases ht : ∃ ds, d = .tup ds
  · obtain ⟨ds, rfl⟩ := ht
    have ll := lay_tup l
    match ds, ll with
    | [], ll =>
      obtain ⟨m, rfl, h'⟩ := up h
      rw [ev, b_inner_of]
      simp [innD, oL]
    | x :: r, ll =>
      obtain ⟨lx, lr⟩ := layL_cons.mp ll
      by_cases hx : ∃ s, x = .str s
      · obtain ⟨s, rfl⟩ := hx
        have hs : PyData.strOk s = true := by simpa [lay, pl] using lx
        exact inner_str h lr hs
      · have hx' : ∀ s, x ≠ .str s := fun s z => hx ⟨s, z⟩
        have e : innD (.tup (x :: r)) = none := by
          unfold innD
          split
          · rename_i s r' q
            injection q with q
            injection q with q1 q2
            exact absurd q1 (hx' s)
          · rfl
        obtain ⟨m, rfl, h'⟩ := up h
        rw [ev, b_inner_of]
        have n0 : ¬ ((r.length : Int) + 1 = 0) := by omega
        simp [n0, isi_nostr lx hx', e, oL]
  · have ht' : ∀ ds, d ≠ .tup ds := fun s z => ht ⟨s, z⟩
    have e : innD d = none := by
      unfold innD
      split
      · exact absurd rfl (ht' _)
      · rfl
    obtain ⟨m, rfl, h'⟩ := up h
    rw [ev, b_inner_of]
    simp [isi_notup l ht', e, oL]
mutual
/-- how many parts -/
def nd : D → Nat
  | .tup ds => ndL ds + 1
  | _ => 1
def ndL : List D → Nat
  | [] => 0
  | d :: ds => nd d + ndL ds
end
theorem nd_pos (d : D) : 0 < nd d := by cases d <;> simp [nd]
theorem ndL_app (ds es : List D) : ndL (ds ++ es) = ndL ds + ndL es := by
  induction ds with
  | nil => simp [ndL]
  | cons d ds ih => simp [ndL, ih]; omega
theorem ndL_len (ds : List D) : ds.length ≤ ndL ds := by
  induction ds with
  | nil => simp [ndL]
  | cons d ds ih => have := nd_pos d; simp [ndL]; omega
theorem inn_nd {d : D} {ds : List D} (h : innD d = some ds) : ndL ds < nd d := by
  unfold innD at h
  split at h
  · rename_i s r
    unfold innR at h
    split at h
    · split at h
      · split at h
        · cases h; simp [ndL, nd]
        · cases h
      · cases h
    · split at h
      · split at h
        · cases h; simp [ndL, nd]
        · cases h
      · split at h
        · split at h
          · cases h; simp [ndL, nd]; omega
          · cases h
        · cases h
  · cases h
theorem inn_lay {d : D} {ds : List D} (l : lay d) (h : innD d = some ds) : layL ds := by
  unfold innD at h
  split at h
  · rename_i s r
    have lr := (layL_cons.mp (lay_tup l)).2
    unfold innR at h
    split at h
    · split at h
      · split at h
        · cases h; exact layL_nil
        · cases h
      · cases h
    · split at h
      · split at h
        · cases h; exact layL_nil
        · cases h
      · split at h
        · split at h
          · cases h; exact lr
          · cases h
        · cases h
  · cases h
/-- whether it is a kind (f: enough steps) -/
def isKf : Nat → D → Bool
  | 0, _ => false
  | f + 1, d => match innD d with
    | some ds => ds.all (isKf f)
    | none => false
theorem isKf_mono : ∀ {f g : Nat} {d : D}, nd d ≤ f → f ≤ g → isKf g d = isKf f d
  | 0, _, d, h, _ => absurd (nd_pos d) (by omega)
  | f + 1, 0, _, _, h => absurd h (by omega)
  | f + 1, g + 1, d, h, l => by
    unfold isKf
    cases hd : innD d with
    | none => rfl
    | some ds =>
      have hn := inn_nd hd
      have key : ∀ es : List D, ndL es ≤ f → es.all (isKf g) = es.all (isKf f) := by
        intro es
        induction es with
        | nil => intro _; rfl
        | cons e es ih =>
          intro h1
          simp only [ndL] at h1
          simp only [List.all_cons]
          rw [isKf_mono (f := f) (g := g) (by omega) (by omega), ih (by omega)]
      exact key ds (by omega)
def isK (d : D) : Bool := isKf (nd d) d
theorem isK_eq (d : D) : isK d = match innD d with
    | some ds => ds.all isK
    | none => false := by
  have e : ∃ f, nd d = f + 1 := ⟨nd d - 1, by have := nd_pos d; omega⟩
  obtain ⟨f, hf⟩ := e
  unfold isK
  rw [hf]
  show (match innD d with
    | some ds => ds.all (isKf f)
    | none => false) = _
  cases hd : innD d with
  | none => rfl
  | some ds =>
    have hn := inn_nd hd
    have key : ∀ es : List D, ndL es ≤ f → es.all (isKf f) = es.all (fun d => isKf (nd d) d) := by
      intro es
      induction es with
      | nil => intro _; rfl
      | cons e es ih =>
        intro h1
        simp only [ndL] at h1
        simp only [List.all_cons]
        rw [isKf_mono (f := nd e) (g := f) (Nat.le_refl _) (by omega), ih (by omega)]
    exact key ds (by omega)
theorem isK_kd (k : Kd) : isK k.d = true := by
  induction k with
  | base i =>
    have : (i.val : Int) ≤ 7 := by have := i.isLt; omega
    rw [isK_eq]; simp [Kd.d, innD, innR, this]
  | unit => rw [isK_eq]; simp [Kd.d, innD, innR]
  | both a b ha hb => rw [isK_eq]; simp [Kd.d, innD, innR, ha, hb]
  | frm a b ha hb => rw [isK_eq]; simp [Kd.d, innD, innR, ha, hb]
theorem nd_kd (k : Kd) : nd k.d ≤ 4 * k.sz := by
  induction k with
  | base i => simp [Kd.d, nd, ndL, Kd.sz]
  | unit => simp [Kd.d, nd, ndL, Kd.sz]
  | both a b ha hb => simp [Kd.d, nd, ndL, Kd.sz]; omega
  | frm a b ha hb => simp [Kd.d, nd, ndL, Kd.sz]; omega
theorem lay_kd (k : Kd) : lay k.d := by
  induction k with
  | base i => simp [lay, Kd.d, pl, plL]
  | unit => simp [lay, Kd.d, pl, plL]
  | both a b ha hb =>
    have h1 : pl a.d = true := ha
    have h2 : pl b.d = true := hb
    simp [lay, Kd.d, pl, plL, h1, h2]
  | frm a b ha hb =>
    have h1 : pl a.d = true := ha
    have h2 : pl b.d = true := hb
    simp [lay, Kd.d, pl, plL, h1, h2]
theorem is_kind_loop {m : Nat} (h : 2 ≤ m) (S : Store) (x : Option D) : ∀ (N : Nat) (ds : List D) (y : Option D), ndL ds ≤ N → N ≤ 8000000 → layL ds → ∃ z T,
    sWhile (fB (f2 gNe (fVar 1) (fArg mkLst fNil))) (l_is_kind_0 (ev m)) [x, some (.loc S.length), y] (S ++ [.lst ds]) = if ds.all isK then .nx [x, some (.loc S.length), z] (S ++ [.lst []]) else .rt (.bl false) (S ++ [.lst T]) := by
  intro N
  induction N with
  | zero =>
    intro ds y hN hM hl
    cases ds with
    | nil =>
      refine ⟨y, [], ?_⟩
      have hne := gNe_nil (n := S.length) (S := S ++ [.lst []]) (ds := []) cellOf_app
      rw [sWhile_go]
      simp [hne]
    | cons d r =>
      have := nd_pos d
      simp [ndL] at hN; omega
  | succ N ih =>
    intro ds y hN hM hl
    rcases List.eq_nil_or_concat ds with rfl | ⟨r, d, rfl⟩
    · refine ⟨y, [], ?_⟩
      have hne := gNe_nil (n := S.length) (S := S ++ [.lst []]) (ds := []) cellOf_app
      rw [sWhile_go]
      simp [hne]
    · rw [List.concat_eq_append] at hN hl ⊢
      obtain ⟨lr, ld⟩ := layL_app.mp hl
      have ld := (layL_cons.mp ld).1
      rw [ndL_app] at hN
      have hN' : ndL r + nd d ≤ N + 1 := by simpa [ndL] using hN
      have hne := gNe_nil (n := S.length) (S := S ++ [.lst (r ++ [d])]) (ds := r ++ [d]) cellOf_app
      have hm := mthR_loc (n := S.length) (S := S ++ [.lst (r ++ [d])]) (ρ := [x, some (.loc S.length), y]) (xs := r ++ [d]) (g := gPop0) (a := fNil) cellOf_app
      have hp := gPop0_loc (n := S.length) (S := S ++ [.lst (r ++ [d])]) (xs := r) (d := d) cellM_app
      have hi := inner_gen (n := m) (S := S ++ [.lst r]) h ld
      cases hd : innD d with
      | none =>
        refine ⟨none, r, ?_⟩
        have hk : isK d = false := by rw [isK_eq, hd]
        rw [hd] at hi
        rw [sWhile_go]
        simp [hne, l_is_kind_0, hm, hp, hi, oL, hk]
      | some es =>
        have hn := inn_nd hd
        have hk : isK d = es.all isK := by rw [isK_eq, hd]
        rw [hd] at hi
        have hs : ndL (r ++ es) ≤ N := by rw [ndL_app]; omega
        obtain ⟨z, T, hz⟩ := ih (r ++ es) (some (.lst es)) hs (by omega) (layL_app.mpr ⟨lr, inn_lay ld hd⟩)
        refine ⟨z, T, ?_⟩
        have e2 : (r ++ [d]).all isK = (r ++ es).all isK := by simp [hk]
        rw [sWhile_go, e2, ← hz]
        have h8 : sizeLine = 16777216 := rfl
        have hl' : r.length + es.length ≤ sizeLine := by
          have := ndL_len (r ++ es)
          simp at this; omega
        have hm2 := mthR_loc (n := S.length) (S := S ++ [.lst r]) (ρ := [x, some (.loc S.length), some (.lst es)]) (xs := r) (g := gExtend) (a := fCons (fVar 2) fNil) cellOf_app
        have he := gExtend_loc (n := S.length) (S := S ++ [.lst r]) (xs := r) (ys := es) cellM_app hl'
        simp [hne, l_is_kind_0, hm, hm2, hp, he, hi, oL]
theorem is_kind_gen {n : Nat} {d : D} {S : Store} (h : 3 ≤ n) (hd : nd d ≤ 8000000) (l : lay d) : ev n .f_is_kind [d] S = .ok (.bl (isK d)) S := by
  obtain ⟨m, rfl, h'⟩ := up h
  obtain ⟨z, T, hz⟩ := is_kind_loop h' S (some d) 8000000 [d] none (by simpa [ndL] using hd) (Nat.le_refl _) (layL_cons.mpr ⟨l, layL_nil⟩)
  have e : ∃ T', fnB 1 3 (b_is_kind (ev m)) [d] S = .ok (.bl (isK d)) (S ++ [.lst T']) := by
    rw [b_is_kind]
    simp at hz ⊢
    cases hk : isK d with
    | true => rw [hk] at hz; exact ⟨[], by simp [hz]⟩
    | false => rw [hk] at hz; exact ⟨T, by simp [hz]⟩
  obtain ⟨T', e⟩ := e
  rw [ev, fnC_ap, e]
  exact cut_ok _ rfl
theorem is_kind_kd {n : Nat} {k : Kd} {S : Store} (h : 3 ≤ n) (hk : k.sz ≤ 2000000) : ev n .f_is_kind [k.d] S = .ok (.bl true) S := by
  rw [is_kind_gen h (by have := nd_kd k; omega) (lay_kd k), isK_kd]
theorem sure_kind_kd {n : Nat} {k : Kd} {S : Store} (h : 4 ≤ n) (hk : k.sz ≤ 2000000) : ev n .f_sure_kind [k.d] S = .ok .non S := by
  obtain ⟨m, rfl, h'⟩ := up h
  rw [ev, b_sure_kind]
  simp [is_kind_kd h' hk]
end Kz
namespace Kz
open PySem PySem.Spec PyProof.Rows L2 Kw
/-- the stack that is read into: past S, at n -/
structure Stk (S0 S : Store) (n : Nat) (st : List D) : Prop where
  pre : ∃ T, S = S0 ++ T
  le : S0.length ≤ n
  at_ : S[n]? = some (.lst st)
theorem Stk.push {S0 S : Store} {n : Nat} {st : List D} {d : D} (h : Stk S0 S n st) : Stk S0 (S.set n (.lst (st ++ [d]))) n (st ++ [d]) := by
  obtain ⟨⟨T, rfl⟩, le, at_⟩ := h
  have hn : n < (S0 ++ T).length := by
    rcases Nat.lt_or_ge n (S0 ++ T).length with hh | hh
    · exact hh
    · rw [List.getElem?_eq_none hh] at at_; cases at_
  refine ⟨⟨T.set (n - S0.length) (.lst (st ++ [d])), ?_⟩, le, ?_⟩
  · rw [List.set_append, if_neg (by omega)]
  · rw [List.getElem?_set_self hn]
end Kz
namespace Kz
open PySem PySem.Spec PyProof.Rows L2 Kw
def Eqd (d : D) (q : Nat) : Prop := ∃ p : PyData, (∀ S, pyS S d = some p) ∧ p.canLay0 = true ∧ p.depth ≤ q ∧ PyData.eqv p p = true
def EqdL (ds : List D) (q : Nat) : Prop := ∃ ps : List PyData, (∀ S, pySL S ds = some ps) ∧ PyData.canLayAll0 ps = true ∧ PyData.depthAll ps ≤ q ∧ PyData.eqvAll ps ps = true
theorem EqdL.nil {q : Nat} : EqdL [] q := ⟨[], fun _ => rfl, rfl, Nat.zero_le _, Kd.eqvAll_n⟩
theorem EqdL.cons {d : D} {ds : List D} {q : Nat} (h : Eqd d q) (t : EqdL ds q) : EqdL (d :: ds) q := by
  obtain ⟨p, e, a, b, c⟩ := h
  obtain ⟨ps, e', a', b', c'⟩ := t
  refine ⟨p :: ps, fun S => ?_, by simp [PyData.canLayAll0, a, a'], by simp only [PyData.depthAll]; omega, by rw [Kd.eqvAll_c, c, c']; rfl⟩
  show (pyS S d).bind (fun a => (pySL S ds).map (a :: ·)) = _
  rw [e S, e' S]; rfl
theorem EqdL.all {ds : List D} {q : Nat} (h : ∀ d ∈ ds, Eqd d q) : EqdL ds q := by
  induction ds with
  | nil => exact .nil
  | cons d ds ih => exact .cons (h d List.mem_cons_self) (ih fun e he => h e (List.mem_cons_of_mem _ he))
theorem Eqd.tup {ds : List D} {q : Nat} (h : EqdL ds q) : Eqd (.tup ds) (q + 1) := by
  obtain ⟨ps, e, a, b, c⟩ := h
  refine ⟨.tuple ps, fun S => ?_, by simpa [PyData.canLay0] using a, by simp only [PyData.depth]; omega, by rw [Kd.eqv_t, c]⟩
  show (pySL S ds).map PyData.tuple = _
  rw [e S]; rfl
theorem Eqd.lst {ds : List D} {q : Nat} (h : EqdL ds q) : Eqd (.lst ds) (q + 1) := by
  obtain ⟨ps, e, a, b, c⟩ := h
  refine ⟨.list ps, fun S => ?_, by simpa [PyData.canLay0] using a, by simp only [PyData.depth]; omega, by simp only [PyData.eqv]; exact c⟩
  show (pySL S ds).map PyData.list = _
  rw [e S]; rfl
theorem Eqd.non {q : Nat} : Eqd .non q := ⟨.none, fun _ => rfl, by simp [PyData.canLay0], by simp [PyData.depth], by simp only [PyData.eqv]⟩
theorem Eqd.bl {b : Bool} {q : Nat} : Eqd (.bl b) q := ⟨.bool b, fun _ => rfl, by simp [PyData.canLay0], by simp [PyData.depth], by simp only [PyData.eqv]; cases b <;> rfl⟩
theorem Eqd.str {x : Str} {q : Nat} (h : PyData.strOk x = true) : Eqd (.str x) q := ⟨.str x, fun _ => rfl, by simpa [PyData.canLay0] using h, by simp [PyData.depth], by rw [Kd.eqv_s]; simp⟩
theorem Eqd.int {i : Int} {q : Nat} : Eqd (.int i) q := ⟨.int i, fun _ => rfl, by simp [PyData.canLay0], by simp [PyData.depth], by rw [Kd.eqv_i]; simp⟩
theorem Eqd.mono {d : D} {q q' : Nat} (h : Eqd d q) (l : q ≤ q') : Eqd d q' := by
  obtain ⟨p, e, a, b, c⟩ := h; exact ⟨p, e, a, by omega, c⟩
theorem Eqd.ne {d : D} {q : Nat} {S : Store} (h : Eqd d q) (hq : q ≤ 200) : gNe d d S = .ok (.bl false) S := by
  have gen : eqE S d d = none → gNe d d S = .ok (.bl false) S := by
    intro h0
    obtain ⟨p, e, a, b, c⟩ := h
    unfold gNe
    rw [h0, e S]
    have ok : okPy p p = true := by simp [okPy, a]; omega
    show (if okPy p p then RE.ok (D.bl (!PyData.eqv p p)) S else .no) = _
    rw [if_pos ok, c]; rfl
  have som : ∀ b, eqE S d d = some b → b = true → gNe d d S = .ok (.bl false) S := by
    intro b h1 h2
    unfold gNe
    rw [h1, h2]; rfl
  cases h0 : eqE S d d with
  | none => exact gen h0
  | some b =>
    refine som b h0 ?_
    unfold eqE at h0
    split at h0
    · simp [seqL] at h0; exact h0
    · simp at h0; exact h0
    · simp at h0; exact h0
    · simp at h0; exact h0
    · cases h0
end Kz
namespace Kz
open PySem PySem.Spec PyProof.Rows L2 Kw
inductive Tm where
  | giv (k : Nat) | mk (A : Kd) (b : Tm) | app (a b : Tm) | both (a b : Tm) | fst (a : Tm) | snd (a : Tm) | unit
def Tm.d : Tm → D
  | .giv k => .tup [.str "given", .int (k : Int)]
  | .mk A b => .tup [.str "make", A.d, b.d]
  | .app a b => .tup [.str "do", a.d, b.d]
  | .both a b => .tup [.str "both", a.d, b.d]
  | .fst a => .tup [.str "first", a.d]
  | .snd a => .tup [.str "second", a.d]
  | .unit => .tup [.str "unit"]
mutual
/-- what a term means -/
inductive Vl where
  | chn (c : Ch) | unit | pair (a b : Vl) | loose (A B : Kd) (c : Ch) | bound (t : Tm) (env : Vs)
/-- a given, or what is done to one -/
inductive Ch where
  | giv (k : Nat) | app (c : Ch) (A : Kd) (v : Vl) | fst (c : Ch) | snd (c : Ch)
inductive Vs where
  | nil | snoc (r : Vs) (v : Vl)
end
mutual
def Vl.d : Vl → D
  | .chn c => c.d
  | .unit => .tup []
  | .pair a b => .tup [a.d, b.d]
  | .loose A B c => .ins "Loose" ["kind", "chain"] [(Kd.frm A B).d, c.d]
  | .bound t env => .ins "Bound" ["body", "things"] [t.d, .lst env.ds]
def Ch.d : Ch → D
  | .giv k => .tup [.str "given", .int (k : Int)]
  | .app c A v => .tup [.str "do", c.d, A.d, v.d]
  | .fst c => .tup [.str "first", c.d]
  | .snd c => .tup [.str "second", c.d]
def Vs.ds : Vs → List D
  | .nil => []
  | .snoc r v => r.ds ++ [v.d]
end
def Vs.len : Vs → Nat
  | .nil => 0
  | .snoc r _ => r.len + 1
/-- by place, the first one from outside -/
def Vs.at_ : Vs → Nat → Option Vl
  | .nil, _ => none
  | .snoc r v, k => if k = r.len then some v else r.at_ k
def opn : Kd → Ch → Vl
  | .base _, c => .chn c
  | .unit, _ => .unit
  | .both a b, c => .pair (opn a (.fst c)) (opn b (.snd c))
  | .frm a b, c => .loose a b c
mutual
def mnt : Nat → Tm → Vs → Option Vl
  | 0, _, _ => none
  | f + 1, t, env => match t with
    | .giv k => env.at_ k
    | .unit => some .unit
    | .mk _ b => some (.bound b env)
    | .app a b => (mnt f a env).bind fun u => (mnt f b env).bind fun x => hnd f u x
    | .both a b => (mnt f a env).bind fun u => (mnt f b env).bind fun x => some (.pair u x)
    | .fst a => (mnt f a env).bind fun u => match u with
      | .pair x _ => some x
      | _ => none
    | .snd a => (mnt f a env).bind fun u => match u with
      | .pair _ y => some y
      | _ => none
def hnd : Nat → Vl → Vl → Option Vl
  | 0, _, _ => none
  | f + 1, u, x => match u with
    | .loose A B c => if B.dep + 1 ≤ f then some (opn B (.app c A x)) else none
    | .bound t env => if env.len < 1000 then mnt f t (.snoc env x) else none
    | _ => none
end
/-- the kind of a term -/
def tkd (Γ : List Kd) : Tm → Option Kd
  | .giv k => Γ[k]?
  | .unit => some .unit
  | .mk A b => (tkd (Γ ++ [A]) b).bind fun B => some (.frm A B)
  | .app a b => (tkd Γ a).bind fun u => (tkd Γ b).bind fun x => match u with
    | .frm A B => if A = x then some B else none
    | _ => none
  | .both a b => (tkd Γ a).bind fun u => (tkd Γ b).bind fun x => some (.both u x)
  | .fst a => (tkd Γ a).bind fun u => match u with
    | .both x _ => some x
    | _ => none
  | .snd a => (tkd Γ a).bind fun u => match u with
    | .both _ y => some y
    | _ => none
def Tm.ht : Tm → Nat
  | .giv _ => 0
  | .unit => 0
  | .mk _ b => b.ht + 1
  | .app a b => max a.ht b.ht + 1
  | .both a b => max a.ht b.ht + 1
  | .fst a => a.ht + 1
  | .snd a => a.ht + 1
end Kz
namespace Kz
open PySem PySem.Spec PyProof.Rows L2 Kw
def oK (o : Option Kd) : D := match o with
  | some k => k.d
  | none => .non
/-- kinds within bounds -/
def kdsT (q : Nat) : Tm → Prop
  | .giv _ => True
  | .unit => True
  | .mk A b => (A.dep ≤ q ∧ A.sz ≤ 2000000) ∧ kdsT q b
  | .app a b => kdsT q a ∧ kdsT q b
  | .both a b => kdsT q a ∧ kdsT q b
  | .fst a => kdsT q a
  | .snd a => kdsT q a
theorem tkd_dep {q : Nat} : ∀ (t : Tm) {Γ : List Kd} {k : Kd}, (∀ A ∈ Γ, A.dep ≤ q) → kdsT q t → tkd Γ t = some k → k.dep ≤ q + t.ht
  | .giv i, Γ, k, hΓ, _, h => by
    have := hΓ k (List.mem_of_getElem? h)
    simp only [Tm.ht]; omega
  | .unit, Γ, k, hΓ, _, h => by simp only [tkd] at h; cases h; simp [Kd.dep]
  | .mk A b, Γ, k, hΓ, hk, h => by
    simp only [tkd, Option.bind_eq_some_iff] at h
    obtain ⟨B, h1, h2⟩ := h
    cases h2
    have := tkd_dep b (Γ := Γ ++ [A]) (k := B) (fun X hX => by
      rcases List.mem_append.mp hX with hX | hX
      · exact hΓ X hX
      · have : X = A := by simpa using hX
        rw [this]; exact hk.1.1) hk.2 h1
    have := hk.1.1
    simp only [Kd.dep, Tm.ht]; omega
  | .app a b, Γ, k, hΓ, hk, h => by
    simp only [tkd, Option.bind_eq_some_iff] at h
    obtain ⟨u, h1, x, h2, h3⟩ := h
    have := tkd_dep a hΓ hk.1 h1
    split at h3
    · split at h3
      · cases h3; simp only [Kd.dep] at this; simp only [Tm.ht]; omega
      · cases h3
    · cases h3
  | .both a b, Γ, k, hΓ, hk, h => by
    simp only [tkd, Option.bind_eq_some_iff] at h
    obtain ⟨u, h1, x, h2, h3⟩ := h
    cases h3
    have := tkd_dep a hΓ hk.1 h1
    have := tkd_dep b hΓ hk.2 h2
    simp only [Kd.dep, Tm.ht]; omega
  | .fst a, Γ, k, hΓ, hk, h => by
    simp only [tkd, Option.bind_eq_some_iff] at h
    obtain ⟨u, h1, h3⟩ := h
    have := tkd_dep a hΓ hk h1
    split at h3
    · cases h3; simp only [Kd.dep] at this; simp only [Tm.ht]; omega
    · cases h3
  | .snd a, Γ, k, hΓ, hk, h => by
    simp only [tkd, Option.bind_eq_some_iff] at h
    obtain ⟨u, h1, h3⟩ := h
    have := tkd_dep a hΓ hk h1
    split at h3
    · cases h3; simp only [Kd.dep] at this; simp only [Tm.ht]; omega
    · cases h3
theorem shape_ok {n : Nat} {t : Tm} {S : Store} (h : 1 ≤ n) : ev n .f_is_shape [t.d] S = .ok (.bl true) S := by
  obtain ⟨m, rfl, h'⟩ := up (d := 0) (by omega : 0 + 1 ≤ n)
  rw [ev, b_is_shape]
  cases t <;> simp [Tm.d, fGetG_ap, kv_PARTS, List.lookup]
theorem given_ok {n : Nat} {Γ : List Kd} {k : Nat} {S : Store} (h : 1 ≤ n) : ev n .f_kind_of_given [.int (k : Int), .lst (Γ.map Kd.d)] S = .ok (oK Γ[k]?) S := by
  obtain ⟨m, rfl, h'⟩ := up (d := 0) (by omega : 0 + 1 ≤ n)
  rw [ev, b_kind_of_given]
  by_cases hk : k < Γ.length
  · rw [List.getElem?_eq_getElem hk]
    simp [hk, oK]
  · rw [List.getElem?_eq_none (by omega)]
    simp [hk, oK]
theorem is_non_kd {k : Kd} {S : Store} : gIs false k.d .non S = .ok (.bl false) S := by
  obtain ⟨ds, h⟩ := Kd.d_tup k
  rw [h]; rfl
theorem two_both {n : Nat} {a b : Option Kd} {S : Store} (h : 1 ≤ n) : ev n .f_kind_of_two [.str "both", oK a, oK b] S = .ok (oK (a.bind fun u => b.bind fun x => some (.both u x))) S := by
  have h8 : sizeLine = 16777216 := rfl
  obtain ⟨m, rfl, h'⟩ := up (d := 0) (by omega : 0 + 1 ≤ n)
  rw [ev, b_kind_of_two]
  cases a with
  | none => simp [oK]
  | some u =>
    cases b with
    | none => simp [oK, is_non_kd]
    | some x => simp [oK, is_non_kd, h8, Kd.d]
def appK (u x : Kd) : Option Kd := match u with
  | .frm A B => if A = x then some B else none
  | _ => none
theorem two_do {n : Nat} {a b : Option Kd} {S : Store} (h : 1 ≤ n) (hd : ∀ u, a = some u → u.dep < 200) : ev n .f_kind_of_two [.str "do", oK a, oK b] S = .ok (oK (a.bind fun u => b.bind fun x => appK u x)) S := by
  have h8 : sizeLine = 16777216 := rfl
  obtain ⟨m, rfl, h'⟩ := up (d := 0) (by omega : 0 + 1 ≤ n)
  rw [ev, b_kind_of_two]
  cases a with
  | none => simp [oK]
  | some u =>
    have hu := hd u rfl
    cases b with
    | none => simp [oK, is_non_kd]
    | some x =>
      have n1 := is_non_kd (k := u) (S := S)
      have n2 := is_non_kd (k := x) (S := S)
      cases u with
      | base i =>
        simp only [Kd.d] at n1
        simp [oK, n1, n2, Kd.d, appK]
      | unit =>
        simp only [Kd.d] at n1
        simp [oK, n1, n2, Kd.d, appK]
      | both A B =>
        simp only [Kd.d] at n1
        simp [oK, n1, n2, Kd.d, appK]
      | frm A B =>
        simp only [Kd.dep] at hu
        have e := Kd.gEq_d (a := A) (b := x) (S := S) (by omega)
        simp only [Kd.d] at n1
        by_cases hA : A = x
        · subst hA
          simp only [decide_true] at e
          simp [oK, n1, n2, Kd.d, appK, e]
        · rw [decide_eq_false hA] at e
          simp [oK, n1, n2, Kd.d, appK, e, hA]
theorem in_words {S : Store} {s : String} : gIn false (.str s) (.tup [.str "do", .str "both"]) S = .ok (.bl (decide (s = "do") || decide (s = "both"))) S := by
  have e1 : (Str.ofString "do" == Str.ofString s) = decide (s = "do") := by simp [eq_comm]
  have e2 : (Str.ofString "both" == Str.ofString s) = decide (s = "both") := by simp [eq_comm]
  simp [gIn, pyS, pySL, PyData.canLay0, PyData.canLayAll0, PyData.depth, PyData.depthAll, PyData.eqv, e1, e2]
theorem kind_in_ok {q : Nat} : ∀ (t : Tm) {Γ : List Kd} {n : Nat} {S : Store}, (∀ A ∈ Γ, A.dep ≤ q) → kdsT q t → q + t.ht < 200 → t.ht + 5 ≤ n → Γ.length + t.ht ≤ 10000 → ev n .f_kind_in [t.d, .lst (Γ.map Kd.d)] S = .ok (oK (tkd Γ t)) S
  | .giv i, Γ, n, S, hΓ, hk, hq, hn, hl => by
    obtain ⟨m, rfl, h'⟩ := up (d := 2) (by omega : 2 + 1 ≤ n)
    have es := shape_ok (n := m) (t := .giv i) (S := S) (by omega)
    have eg := given_ok (n := m) (Γ := Γ) (k := i) (S := S) (by omega)
    simp only [Tm.d] at es
    rw [ev, b_kind_in]
    simp [Tm.d, es, eg, tkd]
  | .unit, Γ, n, S, hΓ, hk, hq, hn, hl => by
    have h8 : sizeLine = 16777216 := rfl
    obtain ⟨m, rfl, h'⟩ := up (d := 2) (by omega : 2 + 1 ≤ n)
    have es := shape_ok (n := m) (t := .unit) (S := S) (by omega)
    simp only [Tm.d] at es
    rw [ev, b_kind_in]
    simp [Tm.d, es, tkd, oK, Kd.d, h8]
  | .mk A b, Γ, n, S, hΓ, hk, hq, hn, hl => by
    have h8 : sizeLine = 16777216 := rfl
    simp only [Tm.ht] at hq hn hl
    obtain ⟨m, rfl, h'⟩ := up (d := b.ht + 5) (by omega)
    have es := shape_ok (n := m) (t := .mk A b) (S := S) (by omega)
    simp only [Tm.d] at es
    have ek := is_kind_kd (n := m) (k := A) (S := S) (by omega) hk.1.2
    have ei := kind_in_ok b (Γ := Γ ++ [A]) (n := m) (S := S) (fun X hX => by
      rcases List.mem_append.mp hX with hX | hX
      · exact hΓ X hX
      · have : X = A := by simpa using hX
        rw [this]; exact hk.1.1) hk.2 (by omega) (by omega) (by simp; omega)
    have ll : Γ.length + 1 ≤ 16777216 := by omega
    simp only [List.map_append, List.map_cons, List.map_nil] at ei
    rw [ev, b_kind_in]
    simp only [tkd]
    cases hb : tkd (Γ ++ [A]) b with
    | none =>
      rw [hb] at ei
      simp [Tm.d, es, ek, ei, oK, h8, ll]
    | some B =>
      rw [hb] at ei
      have nb := is_non_kd (k := B) (S := S)
      simp only [oK] at ei
      simp [Tm.d, es, ek, ei, oK, h8, ll, nb, Kd.d]
  | .app a b, Γ, n, S, hΓ, hk, hq, hn, hl => by
    simp only [Tm.ht] at hq hn hl
    obtain ⟨m, rfl, h'⟩ := up (d := max a.ht b.ht + 5) (by omega)
    have es := shape_ok (n := m) (t := .app a b) (S := S) (by omega)
    simp only [Tm.d] at es
    have e1 := kind_in_ok a (Γ := Γ) (n := m) (S := S) hΓ hk.1 (by omega) (by omega) (by omega)
    have e2 := kind_in_ok b (Γ := Γ) (n := m) (S := S) hΓ hk.2 (by omega) (by omega) (by omega)
    have e3 := two_do (n := m) (a := tkd Γ a) (b := tkd Γ b) (S := S) (by omega) (fun u hu => by have := tkd_dep a hΓ hk.1 hu; omega)
    have iw := in_words (s := "do") (S := S)
    have et : tkd Γ (.app a b) = (tkd Γ a).bind fun u => (tkd Γ b).bind fun x => appK u x := rfl
    rw [et]
    generalize oK ((tkd Γ a).bind fun u => (tkd Γ b).bind fun x => appK u x) = R at *
    generalize oK (tkd Γ a) = ka at *
    generalize oK (tkd Γ b) = kb at *
    rw [ev, b_kind_in]
    simp [Tm.d, es, e1, e2, e3, iw]
  | .both a b, Γ, n, S, hΓ, hk, hq, hn, hl => by
    simp only [Tm.ht] at hq hn hl
    obtain ⟨m, rfl, h'⟩ := up (d := max a.ht b.ht + 5) (by omega)
    have es := shape_ok (n := m) (t := .both a b) (S := S) (by omega)
    simp only [Tm.d] at es
    have e1 := kind_in_ok a (Γ := Γ) (n := m) (S := S) hΓ hk.1 (by omega) (by omega) (by omega)
    have e2 := kind_in_ok b (Γ := Γ) (n := m) (S := S) hΓ hk.2 (by omega) (by omega) (by omega)
    have e3 := two_both (n := m) (a := tkd Γ a) (b := tkd Γ b) (S := S) (by omega)
    have iw := in_words (s := "both") (S := S)
    have et : tkd Γ (.both a b) = (tkd Γ a).bind fun u => (tkd Γ b).bind fun x => some (.both u x) := rfl
    rw [et]
    generalize oK ((tkd Γ a).bind fun u => (tkd Γ b).bind fun x => some (.both u x)) = R at *
    generalize oK (tkd Γ a) = ka at *
    generalize oK (tkd Γ b) = kb at *
    rw [ev, b_kind_in]
    simp [Tm.d, es, e1, e2, e3, iw]
  | .fst a, Γ, n, S, hΓ, hk, hq, hn, hl => by
    simp only [Tm.ht] at hq hn hl
    obtain ⟨m, rfl, h'⟩ := up (d := a.ht + 5) (by omega)
    have es := shape_ok (n := m) (t := .fst a) (S := S) (by omega)
    simp only [Tm.d] at es
    have e1 := kind_in_ok a (Γ := Γ) (n := m) (S := S) hΓ hk (by omega) (by omega) (by omega)
    have iw := in_words (s := "first") (S := S)
    rw [ev, b_kind_in]
    simp only [tkd]
    cases ha : tkd Γ a with
    | none => rw [ha] at e1; simp [Tm.d, es, e1, iw, oK]
    | some u =>
      rw [ha] at e1
      have nu := is_non_kd (k := u) (S := S)
      simp only [oK] at e1
      cases u <;> simp only [Kd.d] at nu e1 <;> simp [Tm.d, es, e1, iw, oK, nu]
  | .snd a, Γ, n, S, hΓ, hk, hq, hn, hl => by
    simp only [Tm.ht] at hq hn hl
    obtain ⟨m, rfl, h'⟩ := up (d := a.ht + 5) (by omega)
    have es := shape_ok (n := m) (t := .snd a) (S := S) (by omega)
    simp only [Tm.d] at es
    have e1 := kind_in_ok a (Γ := Γ) (n := m) (S := S) hΓ hk (by omega) (by omega) (by omega)
    have iw := in_words (s := "second") (S := S)
    rw [ev, b_kind_in]
    simp only [tkd]
    cases ha : tkd Γ a with
    | none => rw [ha] at e1; simp [Tm.d, es, e1, iw, oK]
    | some u =>
      rw [ha] at e1
      have nu := is_non_kd (k := u) (S := S)
      simp only [oK] at e1
      cases u <;> simp only [Kd.d] at nu e1 <;> simp [Tm.d, es, e1, iw, oK, nu]
theorem sure_in_ok {q : Nat} {t : Tm} {Γ : List Kd} {k : Kd} {n : Nat} {S : Store} (hΓ : ∀ A ∈ Γ, A.dep ≤ q) (hk : kdsT q t) (hq : q + t.ht < 200) (hn : t.ht + 6 ≤ n) (hl : Γ.length + t.ht ≤ 10000) (h : tkd Γ t = some k) : ev n .f_sure_kind_in [t.d, .lst (Γ.map Kd.d)] S = .ok k.d S := by
  obtain ⟨m, rfl, h'⟩ := up (d := t.ht + 5) hn
  have e := kind_in_ok t (Γ := Γ) (n := m) (S := S) hΓ hk hq h' hl
  rw [h] at e
  have nk := is_non_kd (k := k) (S := S)
  simp only [oK] at e
  rw [ev, b_sure_kind_in]
  simp [e, nk]
end Kz
namespace Kz
open PySem PySem.Spec PyProof.Rows L2 Kw
theorem lt_of_at {S : Store} {w : Nat} {c : Cell} (h : S[w]? = some c) : w < S.length := by
  rcases Nat.lt_or_ge w S.length with hh | hh
  · exact hh
  · rw [List.getElem?_eq_none hh] at h; cases h
/-- a well lies at w -/
def Well (S : Store) (w : Nat) : Prop := ∃ a b c : Int, 0 ≤ a ∧ 0 ≤ c ∧ S[w]? = some (.lst [.int a, .int b, .int c])
/-- only the well was changed -/
structure WS (S : Store) (w : Nat) (S' : Store) : Prop where
  len : S'.length = S.length
  same : ∀ i, i ≠ w → S'[i]? = S[i]?
  well : Well S' w
theorem WS.refl {S : Store} {w : Nat} (h : Well S w) : WS S w S := ⟨rfl, fun _ _ => rfl, h⟩
theorem WS.trans {S S1 S2 : Store} {w : Nat} (h : WS S w S1) (k : WS S1 w S2) : WS S w S2 := ⟨k.len.trans h.len, fun i hi => (k.same i hi).trans (h.same i hi), k.well⟩
theorem WS.set {S : Store} {w : Nat} {a b c : Int} {x : Cell} (h : S[w]? = some x) (ha : 0 ≤ a) (hc : 0 ≤ c) : WS S w (S.set w (.lst [.int a, .int b, .int c])) :=
  ⟨by simp, fun i hi => by rw [List.getElem?_set_ne (Ne.symm hi)], a, b, c, ha, hc, List.getElem?_set_self (lt_of_at h)⟩
theorem well_new {n : Nat} {S : Store} {i : Int} (h : 1 ≤ n) : ∃ S', ev n .f__law_well [.int i] S = .ok (.loc S.length) (S ++ [S']) ∧ Well (S ++ [S']) S.length := by
  obtain ⟨m, rfl, h'⟩ := up h
  have m1 : CMul i (if i ≥ 10 ^ 18 then 1 else 0) ∨ CMulW i (if i ≥ 10 ^ 18 then 1 else 0) := .inl (.inr (by split <;> omega))
  refine ⟨.lst [.int (i * (if i ≥ 10 ^ 18 then 1 else 0)), .int i, .int 0], ?_, i * (if i ≥ 10 ^ 18 then 1 else 0), i, 0, ?_, by omega, by simp⟩
  · rw [ev, b__law_well]
    have h8 : sizeLine = 16777216 := rfl
    have e : (10 : Int) ^ 18 = 1000000000000000000 := by decide
    rw [e] at m1 ⊢
    by_cases h : (1000000000000000000 : Int) ≤ i
    · have h' : i ≥ 1000000000000000000 := h
      rw [if_pos h'] at m1 ⊢
      simp [h, m1, h8]
    · have h' : ¬ i ≥ 1000000000000000000 := h
      rw [if_neg h'] at m1 ⊢
      simp [h, m1, h8]
  · split
    · omega
    · omega
theorem draw_sp {n : Nat} {S : Store} {w : Nat} {m : Int} (h : 1 ≤ n) (hw : Well S w) (hm : 0 < m) (hm' : m < 1000000000) : ∃ r S', ev n .f__law_draw [.loc w, .int m] S = .ok (.int r) S' ∧ 0 ≤ r ∧ r < m ∧ WS S w S' := by
  obtain ⟨n, rfl, h'⟩ := up h
  obtain ⟨a, b, c, ha, hc, at_⟩ := hw
  have hw := lt_of_at at_
  have hlog : m.natAbs.log2 < 9000 := by
    rcases Nat.eq_zero_or_pos m.natAbs with h0 | h0
    · rw [h0]; decide
    · have : m.natAbs.log2 < 40 := (Nat.log2_lt (by omega)).mpr (by omega)
      omega
  rw [ev, b__law_draw]
  by_cases h0 : 0 < a
  · refine ⟨a % m, S.set w (.lst [.int (a / m), .int b, .int c]), ?_, Int.emod_nonneg _ (by omega), Int.emod_lt_of_pos _ hm, WS.set at_ (Int.ediv_nonneg ha (by omega)) hc⟩
    simp [cellOf_of at_, h0, hm, hlog, gSb, gSetI, cellM_of at_, L2.ixN]
  · have l1 : (1013 : Nat).log2 < 9000 := by decide
    have l2 : (2011 : Nat).log2 < 9000 := by decide
    have l3 : (2147483629 : Nat).log2 < 9000 := by decide +kernel
    have at2 : (S.set w (.lst [.int a, .int b, .int (c + 1)]))[w]? = some (.lst [.int a, .int b, .int (c + 1)]) := List.getElem?_set_self hw
    have c1 : ∀ i j : Int, 0 ≤ j → j < 18446744073709551616 → (CMul i j ∨ CMulW i j) = True := fun i j h1 h2 => eq_true (.inl (.inr ⟨by omega, by omega⟩))
    have c2 : ∀ i j : Int, 0 ≤ i → i < 18446744073709551616 → (CMul i j ∨ CMulW i j) = True := fun i j h1 h2 => eq_true (.inl (.inl ⟨by omega, by omega⟩))
    have b1 : ∀ x : Int, 0 ≤ x % 2147483647 ∧ x % 2147483647 < 2147483647 := fun x => by omega
    have b2 : ∀ x : Int, 0 ≤ x % 2147483629 ∧ x % 2147483629 < 2147483629 := fun x => by omega
    have k1 := fun (x y : Int) => c2 (x % 2147483647) y (b1 x).1 (by have := (b1 x).2; omega)
    have k2 := fun (x y : Int) => c2 (x % 2147483629) y (b2 x).1 (by have := (b2 x).2; omega)
    have k3 := fun (x : Int) => c1 x 48271 (by omega) (by omega)
    have k4 := fun (x : Int) => c2 69623 x (by omega) (by omega)
    have k5 := fun (x : Int) => c1 x 30013 (by omega) (by omega)
    obtain ⟨L0, hL0⟩ : ∃ L0 : Int, L0 = (b % 2147483629 + b / 2147483629 * 30013 + 69623 * (c + 1) + 1) * 48271 % 2147483647 := ⟨_, rfl⟩
    obtain ⟨L1, hL1⟩ : ∃ L1 : Int, L1 = L0 * (L0 / 1013 + 69621 + (c + 1)) % 2147483629 := ⟨_, rfl⟩
    refine ⟨(L1 * (L1 / 2011 + 40692) % 2147483399) % m, S.set w (.lst [.int a, .int b, .int (c + 1)]), ?_, Int.emod_nonneg _ (by omega), Int.emod_lt_of_pos _ hm, WS.set at_ ha (by omega)⟩
    subst hL1; subst hL0
    simp [cellOf_of at_, h0, hm, hlog, gSb, gSetI, cellM_of at_, L2.ixN, cellOf_of at2, k1, k2, k3, k4, k5, l1, l2, l3]
end Kz
namespace Kz
open PySem PySem.Spec PyProof.Rows L2 Kw
structure WX (S : Store) (w : Nat) (S' : Store) : Prop where
  le : S.length ≤ S'.length
  same : ∀ i, i < S.length → i ≠ w → S'[i]? = S[i]?
  well : Well S' w
theorem WS.wx {S S' : Store} {w : Nat} (h : WS S w S') : WX S w S' := ⟨by rw [h.len]; exact Nat.le_refl _, fun i _ hi => h.same i hi, h.well⟩
theorem WX.trans {S S1 S2 : Store} {w : Nat} (h : WX S w S1) (k : WX S1 w S2) : WX S w S2 := ⟨Nat.le_trans h.le k.le, fun i hl hi => (k.same i (Nat.lt_of_lt_of_le hl h.le) hi).trans (h.same i hl hi), k.well⟩
theorem well_app {S T : Store} {w : Nat} (h : Well S w) : Well (S ++ T) w := by
  obtain ⟨a, b, c, h1, h2, at_⟩ := h
  exact ⟨a, b, c, h1, h2, by rw [List.getElem?_append_left (lt_of_at at_)]; exact at_⟩
theorem WX.app {S S1 T : Store} {w : Nat} (h : WX S w S1) : WX S w (S1 ++ T) :=
  ⟨by simp; have := h.le; omega, fun i hl hi => by rw [List.getElem?_append_left (by have := h.le; omega)]; exact h.same i hl hi, well_app h.well⟩
theorem WX.set {S S1 : Store} {w v : Nat} {c : Cell} (h : WX S w S1) (hv : S.length ≤ v) (hw : w < S.length) : WX S w (S1.set v c) := by
  have ne : w ≠ v := by omega
  refine ⟨by simp; exact h.le, fun i hl hi => ?_, ?_⟩
  · rw [List.getElem?_set_ne (by omega)]; exact h.same i hl hi
  · obtain ⟨a, b, d, h1, h2, at_⟩ := h.well
    exact ⟨a, b, d, h1, h2, by rw [List.getElem?_set_ne (Ne.symm ne)]; exact at_⟩
theorem WX.cut {S S' : Store} {w : Nat} {d : D} (h : WX S w S') (hw : w < S.length) (hd : d.under S.length = true) : ∃ S'', cutR S (.ok d S') = .ok d S'' ∧ WS S w S'' := by
  have hc : CutOk S S' := by
    refine ⟨h.le, fun i c hi e => ?_⟩
    by_cases hiw : i = w
    · subst hiw
      obtain ⟨a, b, f, _, _, at_⟩ := h.well
      rw [at_] at e
      cases e
      right
      simp [Cell.under, underL, D.under]
    · left; rw [← h.same i hi hiw]; exact e
  refine ⟨S'.take S.length, by unfold cutR; simp only; rw [if_pos ⟨hd, hc⟩], ?_, fun i hi => ?_, ?_⟩
  · rw [List.length_take]; exact Nat.min_eq_left h.le
  · by_cases hl : i < S.length
    · rw [List.getElem?_take_of_lt hl]; exact h.same i hl hi
    · rw [List.getElem?_eq_none (by rw [List.length_take]; omega), List.getElem?_eq_none (by omega)]
  · obtain ⟨a, b, f, h1, h2, at_⟩ := h.well
    exact ⟨a, b, f, h1, h2, by rw [List.getElem?_take_of_lt hw]; exact at_⟩
theorem gSb_loc {i j v p : Nat} {ρ : FEnv} {S : Store} {ds : List D} {d : D} (h1 : ρ[i]? = some (some (.loc v))) (h2 : ρ[j]? = some (some (.int (p : Int)))) (at_ : S[v]? = some (.lst ds)) (hp : p < ds.length) :
    gSb (fVar i) (fVar j) d ρ S = some (ρ, S.set v (.lst (ds.set p d))) := by
  have e1 : fVar i ρ S = .ok (.loc v) S := by unfold fVar; rw [h1]
  have e2 : fVar j ρ S = .ok (.int (p : Int)) S := by unfold fVar; rw [h2]
  have e3 : L2.ixN ds.length (p : Int) = some p := by
    unfold L2.ixN
    rw [if_pos (by omega), if_pos (by omega)]
    rw [Int.toNat_natCast]
  unfold gSb
  rw [e1]
  simp only
  rw [e2]
  simp only [gSetI]
  rw [cellM_of at_]
  simp only
  rw [e3]
theorem gAdd_ll {xs ys : List D} {S : Store} (h : xs.length + ys.length ≤ sizeLine) : gAdd false (.lst xs) (.lst ys) S = .ok (.lst (xs ++ ys)) S := by
  show catL false (some xs) (some ys) S = _
  simp [catL, h]
end Kz
namespace Kz
open PySem PySem.Spec PyProof.Rows L2 Kw
def okSz (ns : List Int) : Prop := ns.length = 8 ∧ ∀ z ∈ ns, 1 ≤ z ∧ z ≤ 999
/-- the sizes as a function -/
def sF (ns : List Int) (i : Nat) : Nat := (ns.getD i 1).toNat
theorem sF_ok {ns : List Int} (h : okSz ns) (i : Nat) : 1 ≤ sF ns i ∧ sF ns i ≤ 999 := by
  unfold sF
  rw [List.getD_eq_getElem?_getD]
  cases e : ns[i]? with
  | none => simp
  | some z =>
    have := h.2 z (List.mem_of_getElem? e)
    simp; omega
theorem ix_ints {ns : List Int} (h : okSz ns) (i : _root_.Fin 8) (S : Store) : ixR (ns.map D.int) (i.val : Int) S = .ok (.int ((sF ns i.val : Nat) : Int)) S := by
  have hi : i.val < ns.length := by have := i.isLt; rw [h.1]; omega
  rw [ixR_nat, List.getElem?_map, List.getElem?_eq_getElem hi]
  have hz := h.2 _ (List.getElem_mem hi)
  have e : ((sF ns i.val : Nat) : Int) = ns[i.val] := by
    unfold sF
    rw [List.getD_eq_getElem?_getD, List.getElem?_eq_getElem hi]
    show ((ns[i.val]).toNat : Int) = ns[i.val]
    omega
  rw [e]; rfl
theorem cell_ix {ns : List Int} (h : okSz ns) {T : Store} {v : Nat} (at_ : T[v]? = some (.lst (ns.map .int))) (i : _root_.Fin 8) : gIx (.loc v) (.int (i.val : Int)) T = .ok (.int ((sF ns i.val : Nat) : Int)) T := by
  rw [gIx_loc (cellOf_of at_), ix_ints h]
/-- sizes lie at x -/
structure Szs (z : Nat → Nat) (x : D) (S : Store) : Prop where
  ok : ∀ i, 1 ≤ z i ∧ z i ≤ 999
  ix : ∀ i : _root_.Fin 8, gIx x (.int (i.val : Int)) S = .ok (.int ((z i.val : Nat) : Int)) S
theorem szs_cell {ns : List Int} (h : okSz ns) {T : Store} {v : Nat} (at_ : T[v]? = some (.lst (ns.map .int))) : Szs (sF ns) (.loc v) T := ⟨sF_ok h, cell_ix h at_⟩
theorem sizes_sure {n : Nat} {ns : List Int} (h : okSz ns) {S : Store} {v : Nat} (at_ : S[v]? = some (.lst (ns.map .int))) (hn : 2 ≤ n) : ev n .f_sure_sizes [.loc v] S = .ok .non S := by
  obtain ⟨m, rfl, h'⟩ := up hn
  have hc := cellOf_of at_
  have hi : isiR "list" (.loc v) S = .ok (.bl true) S := by rw [isi_loc hc]; simp
  have hl : gLen [.loc v] S = .ok (.int 8) S := by simp [gLen, seqA, hc, h.1]
  have hx : iSeq S (.loc v) = some (ns.map .int, some (v, ns.map .int)) := by simp [iSeq, hc]
  have hit : itL (.loc v) S = .ok (ns.map .int, some (v, ns.map .int)) S := by unfold itL; rw [hx]
  have hm := compL_map (tg := gN 2) (tt := fYes) (te := fArg (ev m .f_is_from) (fCons (fVar 2) (fCons (fC (.int 1)) (fCons (fC (.int 999)) fNil)))) (ρ := [some (.loc v), some (.bl true), none]) (S := S) (gg := some (v, ns.map .int)) (fun _ => .bl true) hc (ns.map .int) [] (fun d hd => by
    obtain ⟨z, hz, rfl⟩ := List.mem_map.mp hd
    have := h.2 z hz
    refine ⟨[some (.loc v), some (.bl true), some (.int z)], by simp, rfl, ?_⟩
    simp [is_from_int h', this]) (by simp [h.1])
  have e1 : (ns.map D.int).map (fun _ => D.bl true) = (ns.map (fun _ => true)).map D.bl := by simp
  rw [e1] at hm
  have e2 : gAll [D.lst ((ns.map (fun _ => true)).map D.bl)] S = .ok (.bl true) S := by
    rw [gAll_lst]; simp
  rw [ev, b_sure_sizes]
  simp at hm
  simp at e2
  simp [hi, hl, hit, wipeR, hm, e2]
def pw (b t : Nat) : Nat := min (b ^ t) 5001
def nm (z : Nat → Nat) : Kd → Nat
  | .base i => z i.val
  | .unit => 1
  | .both a b => min (nm z a * nm z b) 5001
  | .frm a b => pw (nm z b) (nm z a)
theorem pw_pos {b t : Nat} (h : 1 ≤ b) : 1 ≤ pw b t := by
  have := Nat.one_le_pow t b h
  unfold pw; omega
theorem nm_ok {z : Nat → Nat} (h : ∀ i, 1 ≤ z i ∧ z i ≤ 999) : ∀ k : Kd, 1 ≤ nm z k ∧ nm z k ≤ 5001
  | .base i => by have := h i.val; simp only [nm]; omega
  | .unit => by simp [nm]
  | .both a b => by
    have ha := nm_ok h a; have hb := nm_ok h b
    have := Nat.mul_le_mul ha.1 hb.1
    simp only [nm]; omega
  | .frm a b => by
    have hb := nm_ok h b
    refine ⟨pw_pos hb.1, ?_⟩
    simp only [nm, pw]; omega
theorem mulS {i j : Int} (h1 : 0 ≤ i) (h2 : i < 1000000) : (CMul i j ∨ CMulW i j) = True := eq_true (.inl (.inl ⟨by omega, by omega⟩))
theorem pl_body {m : Nat} {S : Store} {x y : Int} {t d : D} (c : (CMul x y ∨ CMulW x y) = True) : l_power_up_to_0 (ev m) [some (.int y), some t, some (.int x), some d] S = if 5000 < x * y then .rt (.int 5001) S else .nx [some (.int y), some t, some (.int (x * y)), some d] S := by
  rw [l_power_up_to_0]
  by_cases h : 5000 < x * y <;> simp [c, h]
theorem cast_mul2 (f b : Nat) : (f : Int) * (b : Int) = ((f * b : Nat) : Int) := by simp
theorem power_loop {m : Nat} {S : Store} {b : Nat} {t : D} (hb : 1 ≤ b) (hb2 : b ≤ 5001) : ∀ (ds : List D) (f : Nat) (x : Option D), 1 ≤ f → f ≤ 5000 → ∃ x', forL (gN 3) (l_power_up_to_0 (ev m)) none ds [some (.int (b : Int)), some t, some (.int (f : Int)), x] S = if f * b ^ ds.length ≤ 5000 then .nx [some (.int (b : Int)), some t, some (.int ((f * b ^ ds.length : Nat) : Int)), x'] S else .rt (.int 5001) S
  | [], f, x, h1, h2 => ⟨x, by simp [h2]⟩
  | d :: ds, f, x, h1, h2 => by
    have c : (CMul (f : Int) (b : Int) ∨ CMulW (f : Int) (b : Int)) = True := mulS (by omega) (by omega)
    have bd := pl_body (m := m) (S := S) (t := t) (d := d) c
    rw [cast_mul2] at bd
    have hlen : f * b ^ (ds.length + 1) = f * b * b ^ ds.length := by rw [Nat.pow_succ, Nat.mul_assoc, Nat.mul_comm b]
    have hp := Nat.one_le_pow ds.length b hb
    by_cases hf : 5000 < f * b
    · refine ⟨x, ?_⟩
      have hno : ¬ f * b ^ (d :: ds).length ≤ 5000 := by
        rw [List.length_cons, hlen]
        have := Nat.mul_le_mul (Nat.le_refl (f * b)) hp
        omega
      rw [if_pos (by omega)] at bd
      rw [if_neg hno, forL_cons]
      simp [bd]
    · have h1' : 1 ≤ f * b := Nat.mul_le_mul h1 hb
      obtain ⟨x', hx'⟩ := power_loop (m := m) (S := S) (t := t) hb hb2 ds (f * b) (some d) h1' (by omega)
      refine ⟨x', ?_⟩
      rw [if_neg (by omega)] at bd
      rw [List.length_cons, hlen, ← hx', forL_cons]
      simp [bd]
end Kz
namespace Kz
open PySem PySem.Spec PyProof.Rows L2 Kw
theorem rngD_length : ∀ (n : Nat) (lo : Int), (rngD lo n).length = n
  | 0, _ => rfl
  | n + 1, lo => by simp [rngD, rngD_length n]
theorem power_step {m : Nat} {S : Store} {y t : Int} {r : RS} (hy : ¬ y = 1) (r0 : -4611686018427387904 ≤ t) (r9 : t < 4611686018427387904) (e : forL (gN 3) (l_power_up_to_0 (ev m)) none (rngD 0 t.toNat) [some (.int y), some (.int t), some (.int 1), none] S = r) :
    ev (m + 1) .f_power_up_to [.int y, .int t] S = (r.bnd (sRet (fVar 2))).fin := by
  rw [ev, b_power_up_to]
  simp [hy, r0, r9, e]
theorem power_one {m : Nat} {S : Store} {t : Int} : ev (m + 1) .f_power_up_to [.int 1, .int t] S = .ok (.int 1) S := by
  rw [ev, b_power_up_to]
  simp
theorem fin_nx2 {S : Store} {a b x' : Option D} {F : Int} : ((RS.nx [a, b, some (.int F), x'] S).bnd (sRet (fVar 2))).fin = .ok (.int F) S := by simp
theorem fin_rt2 {S : Store} {d : D} {k : FS} : ((RS.rt d S).bnd k).fin = .ok d S := rfl
theorem power_ok {n b t : Nat} {S : Store} (h : 1 ≤ n) (hb : 1 ≤ b) (hb2 : b ≤ 5001) (ht : t ≤ 5001) : ev n .f_power_up_to [.int (b : Int), .int (t : Int)] S = .ok (.int ((pw b t : Nat) : Int)) S := by
  obtain ⟨m, rfl, h'⟩ := up h
  by_cases h1 : b = 1
  · subst h1
    have : pw 1 t = 1 := by simp [pw]
    rw [this]
    exact power_one
  · obtain ⟨x', e⟩ := power_loop (m := m) (S := S) (t := .int (t : Int)) hb hb2 (rngD 0 t) 1 none (by omega) (by omega)
    rw [rngD_length, Nat.one_mul] at e
    have ps := power_step (m := m) (S := S) (y := (b : Int)) (t := (t : Int)) (by omega) (by omega) (by omega) e
    rw [ps]
    by_cases hp : b ^ t ≤ 5000
    · have e5 : pw b t = b ^ t := by unfold pw; omega
      rw [if_pos hp, e5, fin_nx2]
    · have e5 : pw b t = 5001 := by unfold pw; omega
      rw [if_neg hp, e5, fin_rt2]; rfl
theorem gMin_two {i j : Int} {S : Store} : gMin [.int i, .int j] S = .ok (.int (min i j)) S := by
  show RE.ok (D.int (if j < i then j else i)) S = _
  have : (if j < i then j else i) = min i j := by split <;> omega
  rw [this]
theorem num_both {m : Nat} {S : Store} {A B x : D} {p q : Int} (e1 : ev m .f_number_up_to [A, x] S = .ok (.int p) S) (e2 : ev m .f_number_up_to [B, x] S = .ok (.int q) S) (c : (CMul p q ∨ CMulW p q) = True) :
    ev (m + 1) .f_number_up_to [.tup [.str "both", A, B], x] S = .ok (.int (min (p * q) 5001)) S := by
  rw [ev, b_number_up_to]
  simp [e1, e2, c, gMin_two]
theorem num_from {m : Nat} {S : Store} {A B x r : D} {p q : Int} (e1 : ev m .f_number_up_to [A, x] S = .ok (.int p) S) (e2 : ev m .f_number_up_to [B, x] S = .ok (.int q) S) (e3 : ev m .f_power_up_to [.int q, .int p] S = .ok r S) :
    ev (m + 1) .f_number_up_to [.tup [.str "from", A, B], x] S = .ok r S := by
  rw [ev, b_number_up_to]
  simp [e1, e2, e3]
theorem cast_min5 (x y : Nat) : min ((x : Int) * (y : Int)) 5001 = ((min (x * y) 5001 : Nat) : Int) := by
  rw [cast_mul2]; omega
theorem number_ok {z : Nat → Nat} {x : D} {S : Store} (hx : Szs z x S) (k : Kd) : ∀ {n : Nat}, k.dep + 2 ≤ n → ev n .f_number_up_to [k.d, x] S = .ok (.int ((nm z k : Nat) : Int)) S := by
  induction k with
  | base i =>
    intro n h
    obtain ⟨m, rfl, h'⟩ := up (d := 1) (by omega : 1 + 1 ≤ n)
    rw [ev, b_number_up_to]
    simp [Kd.d, hx.ix, nm]
  | unit =>
    intro n h
    obtain ⟨m, rfl, h'⟩ := up (d := 1) (by omega : 1 + 1 ≤ n)
    rw [ev, b_number_up_to]
    simp [Kd.d, nm]
  | both a b ha hb =>
    intro n h
    simp [Kd.dep] at h
    obtain ⟨m, rfl, h'⟩ := up (d := max a.dep b.dep + 2) (by omega)
    have oa := nm_ok hx.ok a; have ob := nm_ok hx.ok b
    have c : (CMul ((nm z a : Nat) : Int) ((nm z b : Nat) : Int) ∨ CMulW ((nm z a : Nat) : Int) ((nm z b : Nat) : Int)) = True := mulS (by omega) (by omega)
    have := num_both (ha (n := m) (by omega)) (hb (n := m) (by omega)) c
    rw [cast_min5] at this
    exact this
  | frm a b ha hb =>
    intro n h
    simp [Kd.dep] at h
    obtain ⟨m, rfl, h'⟩ := up (d := max a.dep b.dep + 2) (by omega)
    have oa := nm_ok hx.ok a; have ob := nm_ok hx.ok b
    exact num_from (ha (n := m) (by omega)) (hb (n := m) (by omega)) (power_ok (n := m) (b := nm z b) (t := nm z a) (S := S) (by omega) ob.1 ob.2 oa.2)
/-- the most that a function takes -/
def tk (z : Nat → Nat) : Kd → Nat
  | .base _ => 0
  | .unit => 0
  | .both a b => max (tk z a) (tk z b)
  | .frm a b => max (max (tk z a) (tk z b)) (nm z a)
theorem in_two_t (s : Str) (S : Store) (h : PyData.strOk s = true) : gIn false (.str s) (.tup [.str "both", .str "from"]) S = .ok (.bl (s == "both" || s == "from")) S := by
  have e1 : (Str.ofString "both" == s) = (s == Str.ofString "both") := by rw [Bool.eq_iff_iff, beq_iff_eq, beq_iff_eq]; exact eq_comm
  have e2 : (Str.ofString "from" == s) = (s == Str.ofString "from") := by rw [Bool.eq_iff_iff, beq_iff_eq, beq_iff_eq]; exact eq_comm
  simp [gIn, pyS, pySL, PyData.canLay0, PyData.canLayAll0, PyData.depth, PyData.depthAll, PyData.eqv, h, e1, e2]
theorem taken_sure {z : Nat → Nat} {x : D} {S : Store} (hx : Szs z x S) (k : Kd) : ∀ {n : Nat}, k.dep + 3 ≤ n → tk z k ≤ 5000 → ev n .f_sure_taken [k.d, x] S = .ok .non S := by
  have i1 := in_two_t "base" S (by simp)
  have i2 := in_two_t "unit" S (by simp)
  have i3 := in_two_t "both" S (by simp)
  have i4 := in_two_t "from" S (by simp)
  induction k with
  | base i =>
    intro n h _
    obtain ⟨m, rfl, h'⟩ := up (d := 1) (by omega : 1 + 1 ≤ n)
    rw [ev, b_sure_taken]
    simp [Kd.d, i1]
  | unit =>
    intro n h _
    obtain ⟨m, rfl, h'⟩ := up (d := 1) (by omega : 1 + 1 ≤ n)
    rw [ev, b_sure_taken]
    simp [Kd.d, i2]
  | both a b ha hb =>
    intro n h ht
    simp [Kd.dep] at h
    simp [tk] at ht
    obtain ⟨m, rfl, h'⟩ := up (d := max a.dep b.dep + 3) (by omega)
    rw [ev, b_sure_taken]
    simp [Kd.d, i3, ha (n := m) (by omega) (by omega), hb (n := m) (by omega) (by omega)]
  | frm a b ha hb =>
    intro n h ht
    simp [Kd.dep] at h
    simp [tk] at ht
    obtain ⟨m, rfl, h'⟩ := up (d := max a.dep b.dep + 3) (by omega)
    have hn : ¬ (5000 : Int) < ((nm z a : Nat) : Int) := by omega
    rw [ev, b_sure_taken]
    simp [Kd.d, i4, number_ok hx a (n := m) (by omega), hn, ha (n := m) (by omega) (by omega), hb (n := m) (by omega) (by omega)]
mutual
/-- data whose sort is known at every place of its tuples -/
def ty : D → Bool
  | .non | .bl _ | .int _ | .str _ | .fls _ | .lst _ | .dic _ _ => true
  | .tup ds => tyL ds
  | _ => false
def tyL : List D → Bool
  | [] => true
  | d :: ds => ty d && tyL ds
end
theorem tyL_mem : ∀ {ds : List D} {d : D}, tyL ds = true → d ∈ ds → ty d = true
  | e :: ds, d, h, m => by
    simp [tyL] at h
    rcases List.mem_cons.mp m with rfl | m
    · exact h.1
    · exact tyL_mem h.2 m
theorem ty_notup {d : D} {S : Store} (h : ty d = true) (hn : ∀ ds, d ≠ .tup ds) : isiR "tuple" d S = .ok (.bl false) S := by
  cases d with
  | tup ds => exact absurd rfl (hn ds)
  | fls b => rfl
  | loc _ => simp [ty] at h
  | ins _ _ _ => simp [ty] at h
  | glo _ => simp [ty] at h
  | exn _ => simp [ty] at h
  | exo _ _ _ => simp [ty] at h
  | lam _ _ _ => simp [ty] at h
  | _ => simp
/-- what is no whole number -/
theorem ty_noint {d : D} {S : Store} (h : ty d = true) (hn : ∀ i, d ≠ .int i) : isiR "int" d S = .ok (.bl false) S ∨ (isiR "int" d S = .ok (.bl true) S ∧ isiR "bool" d S = .ok (.bl true) S) := by
  cases d with
  | int i => exact absurd rfl (hn i)
  | bl b => exact .inr ⟨by simp, by simp⟩
  | fls b => exact .inl rfl
  | loc _ => simp [ty] at h
  | ins _ _ _ => simp [ty] at h
  | glo _ => simp [ty] at h
  | exn _ => simp [ty] at h
  | exo _ _ _ => simp [ty] at h
  | lam _ _ _ => simp [ty] at h
  | _ => exact .inl (by simp)
theorem from_no {n : Nat} {d : D} {lo hi : Int} {S : Store} (h : 1 ≤ n) (l : ty d = true) (hn : ∀ i, d ≠ .int i) : ev n .f_is_from [d, .int lo, .int hi] S = .ok (.bl false) S := by
  obtain ⟨m, rfl, h'⟩ := up h
  rw [ev, b_is_from]
  rcases ty_noint (S := S) l hn with e | ⟨e1, e2⟩
  · simp [e]
  · simp [e1, e2]
/-- whether it is a worth -/
def isW (z : Nat → Nat) : Kd → D → Bool
  | .base i, d => (match d with
    | .int x => decide (0 ≤ x) && decide (x ≤ ((z i.val : Nat) : Int) - 1)
    | _ => false)
  | .unit, d => (match d with
    | .tup ds => ds.isEmpty
    | _ => false)
  | .both a b, d => (match d with
    | .tup [x, y] => isW z a x && isW z b y
    | _ => false)
  | .frm a b, d => (match d with
    | .tup ds => decide (ds.length = nm z a) && ds.all (isW z b)
    | _ => false)
mutual
/-- no tuple in it is too long -/
def sml : D → Bool
  | .tup ds => decide (ds.length ≤ 16000000) && smlL ds
  | _ => true
def smlL : List D → Bool
  | [] => true
  | d :: ds => sml d && smlL ds
end
theorem smlL_mem : ∀ {ds : List D} {d : D}, smlL ds = true → d ∈ ds → sml d = true
  | e :: ds, d, h, m => by
    simp [smlL] at h
    rcases List.mem_cons.mp m with rfl | m
    · exact h.1
    · exact smlL_mem h.2 m
theorem plain_ok {z : Nat → Nat} {x : D} {S : Store} (hx : Szs z x S) (k : Kd) : ∀ {n : Nat} {d : D}, k.dep + 3 ≤ n → ty d = true → sml d = true → ev n .f_is_plain_worth [k.d, x, d] S = .ok (.bl (isW z k d)) S := by
  induction k with
  | base i =>
    intro n d h t q
    obtain ⟨m, rfl, h'⟩ := up (d := 2) (by omega : 2 + 1 ≤ n)
    rw [ev, b_is_plain_worth]
    by_cases hi : ∃ y, d = .int y
    · obtain ⟨y, rfl⟩ := hi
      simp [Kd.d, hx.ix, is_from_int (n := m) (by omega), isW]
    · have hi' : ∀ y, d ≠ .int y := fun y e => hi ⟨y, e⟩
      have e : isW z (.base i) d = false := by
        unfold isW; split
        · exact absurd rfl (hi' _)
        · rfl
      simp [Kd.d, hx.ix, from_no (n := m) (by omega) t hi', e]
  | unit =>
    intro n d h t q
    obtain ⟨m, rfl, h'⟩ := up (d := 2) (by omega : 2 + 1 ≤ n)
    rw [ev, b_is_plain_worth]
    by_cases hi : ∃ ds, d = .tup ds
    · obtain ⟨ds, rfl⟩ := hi
      simp [Kd.d, isW]
    · have hi' : ∀ y, d ≠ .tup y := fun y e => hi ⟨y, e⟩
      have e : isW z .unit d = false := by
        unfold isW; split
        · exact absurd rfl (hi' _)
        · rfl
      simp [Kd.d, ty_notup t hi', e]
  | both a b ha hb =>
    intro n d h t q
    simp [Kd.dep] at h
    obtain ⟨m, rfl, h'⟩ := up (d := max a.dep b.dep + 3) (by omega)
    rw [ev, b_is_plain_worth]
    by_cases hi : ∃ ds, d = .tup ds
    · obtain ⟨ds, rfl⟩ := hi
      have t2 : tyL ds = true := by simpa [ty] using t
      have q2 : smlL ds = true := by simp [sml] at q; exact q.2
      match ds, t2, q2 with
      | [], _, _ => simp [Kd.d, isW]
      | [_], _, _ => simp [Kd.d, isW]
      | [u, v], t2, q2 =>
        have ea := ha (n := m) (d := u) (by omega) (tyL_mem t2 (by simp)) (smlL_mem q2 (by simp))
        have eb := hb (n := m) (d := v) (by omega) (tyL_mem t2 (by simp)) (smlL_mem q2 (by simp))
        cases hw : isW z a u <;> simp [Kd.d, isW, ea, eb, hw]
      | _ :: _ :: _ :: r, _, _ =>
        have n2 : ¬ ((r.length : Int) + 1 + 1 + 1 = 2) := by omega
        simp [Kd.d, isW, n2]
    · have hi' : ∀ y, d ≠ .tup y := fun y e => hi ⟨y, e⟩
      have e : isW z (.both a b) d = false := by
        unfold isW; split
        · exact absurd rfl (hi' _)
        · rfl
      simp [Kd.d, ty_notup t hi', e]
  | frm a b ha hb =>
    intro n d h t q
    simp [Kd.dep] at h
    obtain ⟨m, rfl, h'⟩ := up (d := max a.dep b.dep + 3) (by omega)
    have en := number_ok hx a (n := m) (by omega)
    rw [ev, b_is_plain_worth]
    by_cases hi : ∃ ds, d = .tup ds
    · obtain ⟨ds, rfl⟩ := hi
      have t2 : tyL ds = true := by simpa [ty] using t
      have q2 : ds.length ≤ 16000000 ∧ smlL ds = true := by simpa [sml] using q
      by_cases hl : ds.length = nm z a
      · have hl' : (ds.length : Int) = ((nm z a : Nat) : Int) := by omega
        have hm := compL_map (tg := gN 3) (tt := fYes) (te := fArg (ev m .f_is_plain_worth) (fCons (f2 gIx (fVar 0) (fC (.int 2))) (fCons (fVar 1) (fCons (fVar 3) fNil)))) (ρ := [some (Kd.frm a b).d, some x, some (.tup ds), none]) (S := S) (gg := none) (fun e => .bl (isW z b e)) (by unfold gd; trivial) ds [] (fun e he => by
          refine ⟨[some (Kd.frm a b).d, some x, some (.tup ds), some e], by simp, rfl, ?_⟩
          simp [Kd.d, hb (n := m) (d := e) (by omega) (tyL_mem t2 he) (smlL_mem q2.2 he)]) (by have h8 : sizeLine = 16777216 := rfl; simp; omega)
        have e1 : ds.map (fun e => D.bl (isW z b e)) = (ds.map (isW z b)).map D.bl := by simp
        rw [e1] at hm
        have e2 : gAll [D.lst ((ds.map (isW z b)).map D.bl)] S = .ok (.bl (ds.all (isW z b))) S := by
          rw [gAll_lst]; simp [List.all_map]
        simp at hm
        simp at e2
        simp [Kd.d] at hm ⊢
        simp [en, hl, wipeR, hm, e2, isW]
      · have hl' : ¬ (ds.length : Int) = ((nm z a : Nat) : Int) := by omega
        simp [Kd.d, en, hl', isW, hl]
    · have hi' : ∀ y, d ≠ .tup y := fun y e => hi ⟨y, e⟩
      have e : isW z (.frm a b) d = false := by
        unfold isW; split
        · exact absurd rfl (hi' _)
        · rfl
      simp [Kd.d, ty_notup t hi', e]
end Kz
namespace Kz
open PySem PySem.Spec PyProof.Rows L2 Kw
section
variable {g g1 : FG} {F : FEnv → List D → Store → RE (List D)} {ρ : FEnv} {S : Store} {acc r : List D}
theorem gd_non : gd none S := by unfold gd; trivial
theorem compO_nil : compO g F none ρ [] acc S = .ok acc S := by unfold compO gchk; rw [if_pos gd_non]
theorem compO_step {d : D} {ρ1 : FEnv} {S1 S2 : Store} {acc2 : List D} (h1 : g d ρ S = some (ρ1, S1)) (h2 : F ρ1 acc S1 = .ok acc2 S2) : compO g F none ρ (d :: r) acc S = compO g F none ρ r acc2 S2 := by
  conv => lhs; unfold compO
  unfold gchk
  rw [if_pos gd_non, h1]
  simp [h2]
theorem compO_map (f : D → List D) : ∀ (ds acc : List D), (∀ d ∈ ds, ∃ ρ1, g d ρ S = some (ρ1, S) ∧ ∀ acc, acc.length + (f d).length ≤ sizeLine → F ρ1 acc S = .ok (acc ++ f d) S) → acc.length + (ds.flatMap f).length ≤ sizeLine →
    compO g F none ρ ds acc S = .ok (acc ++ ds.flatMap f) S
  | [], acc, _, _ => by rw [compO_nil]; simp
  | d :: ds, acc, h, hl => by
    obtain ⟨ρ1, h1, h2⟩ := h d List.mem_cons_self
    have hl' : acc.length + ((f d).length + (ds.flatMap f).length) ≤ sizeLine := by simpa [List.flatMap_cons] using hl
    rw [compO_step h1 (h2 acc (by omega)), compO_map f ds (acc ++ f d) (fun e he => h e (List.mem_cons_of_mem _ he)) (by rw [List.length_append]; omega)]
    rw [List.flatMap_cons, List.append_assoc]
theorem fLc2_map {fi fi1 : FI} {te : FE} {vs vs1 : List Nat} {ds : List D} (f : D → List D) (h0 : fi ρ S = .ok (ds, none) S) (h : ∀ d ∈ ds, ∃ ρ1, g d (wipeR ρ vs) S = some (ρ1, S) ∧ ∀ acc, acc.length + (f d).length ≤ sizeLine → inL fi1 g1 te vs1 ρ1 acc S = .ok (acc ++ f d) S) (hl : (ds.flatMap f).length ≤ sizeLine) :
    fLc2 fi g fi1 g1 te vs vs1 ρ S = .ok (.lst (ds.flatMap f)) S := by
  unfold fLc2
  rw [h0]
  show (match compO g (inL fi1 g1 te vs1) none (wipeR ρ vs) ds [] S with
    | .ok acc S2 => RE.ok (D.lst acc) S2
    | _ => .no) = _
  rw [compO_map f ds [] h (by simpa using hl)]
  rfl
theorem inL_map {fi1 : FI} {te : FE} {vs1 : List Nat} {ds : List D} (f : D → D) (h0 : fi1 ρ S = .ok (ds, none) S) (h : ∀ d ∈ ds, ∃ ρ1, g1 d (wipeR ρ vs1) S = some (ρ1, S) ∧ te ρ1 S = .ok (f d) S) (hl : acc.length + ds.length ≤ sizeLine) : inL fi1 g1 te vs1 ρ acc S = .ok (acc ++ ds.map f) S := by
  unfold inL
  rw [h0]
  exact compL_map f gd_non ds acc (fun d hd => by obtain ⟨ρ1, a, b⟩ := h d hd; exact ⟨ρ1, a, rfl, b⟩) hl
end
/-- all rows of so many -/
def LL (ts : List D) : Nat → List (List D)
  | 0 => [[]]
  | n + 1 => (LL ts n).flatMap fun r => ts.map fun t => r ++ [t]
theorem LL_len (ts : List D) : ∀ n, (LL ts n).length = ts.length ^ n
  | 0 => rfl
  | n + 1 => by
    have : ∀ l : List (List D), (l.flatMap fun r => ts.map fun t => r ++ [t]).length = l.length * ts.length := by
      intro l
      induction l with
      | nil => simp
      | cons a l ih => rw [List.flatMap_cons, List.length_append, ih, List.length_map, List.length_cons, Nat.succ_mul]; omega
    rw [LL, this, LL_len ts n, Nat.pow_succ]
theorem LL_mem {ts : List D} : ∀ {n : Nat} {r : List D}, r ∈ LL ts n → r.length = n ∧ ∀ d ∈ r, d ∈ ts
  | 0, r, h => by
    have : r = [] := by simpa [LL] using h
    subst this
    exact ⟨rfl, fun d hd => nomatch hd⟩
  | n + 1, r, h => by
    rw [LL, List.mem_flatMap] at h
    obtain ⟨r', h1, h2⟩ := h
    obtain ⟨t, h3, rfl⟩ := List.mem_map.mp h2
    have ⟨e, a⟩ := LL_mem h1
    refine ⟨by simp [e], fun d hd => ?_⟩
    rcases List.mem_append.mp hd with hd | hd
    · exact a d hd
    · have : d = t := by simpa using hd
      exact this ▸ h3
/-- all worths -/
def wl (z : Nat → Nat) : Kd → List D
  | .base i => (List.range (z i.val)).map fun (j : Nat) => D.int (j : Int)
  | .unit => [.tup []]
  | .both a b => (wl z a).flatMap fun x => (wl z b).map fun y => .tup [x, y]
  | .frm a b => (LL (wl z b) (nm z a)).map .tup
theorem nm_both {z : Nat → Nat} (hz : ∀ i, 1 ≤ z i ∧ z i ≤ 999) {a b : Kd} (h : nm z (.both a b) ≤ 5000) : nm z a * nm z b = nm z (.both a b) ∧ nm z a ≤ 5000 ∧ nm z b ≤ 5000 := by
  have ha := nm_ok hz a; have hb := nm_ok hz b
  simp only [nm] at h ⊢
  have h1 := Nat.mul_le_mul (Nat.le_refl (nm z a)) hb.1
  have h2 := Nat.mul_le_mul ha.1 (Nat.le_refl (nm z b))
  omega
theorem nm_frm {z : Nat → Nat} (hz : ∀ i, 1 ≤ z i ∧ z i ≤ 999) {a b : Kd} (h : nm z (.frm a b) ≤ 5000) : nm z b ^ nm z a = nm z (.frm a b) ∧ nm z b ≤ 5000 := by
  have ha := nm_ok hz a; have hb := nm_ok hz b
  simp only [nm, pw] at h ⊢
  have h1 : nm z b ^ 1 ≤ nm z b ^ nm z a := Nat.pow_le_pow_right hb.1 ha.1
  rw [Nat.pow_one] at h1
  omega
theorem fm_len {xs : List D} {f : D → List D} {c : Nat} (h : ∀ x, (f x).length = c) : (xs.flatMap f).length = xs.length * c := by
  induction xs with
  | nil => simp
  | cons a l ih => rw [List.flatMap_cons, List.length_append, ih, h, List.length_cons, Nat.succ_mul]; omega
theorem wl_len {z : Nat → Nat} (hz : ∀ i, 1 ≤ z i ∧ z i ≤ 999) : ∀ k : Kd, nm z k ≤ 5000 → (wl z k).length = nm z k
  | .base i, _ => by simp [wl, nm]
  | .unit, _ => rfl
  | .both a b, h => by
    have ⟨e, ha, hb⟩ := nm_both hz h
    have la := wl_len hz a ha; have lb := wl_len hz b hb
    rw [← e, ← la, ← lb, wl, fm_len (c := (wl z b).length) (fun x => by simp)]
  | .frm a b, h => by
    have ⟨e, hb⟩ := nm_frm hz h
    have lb := wl_len hz b hb
    rw [← e, wl, List.length_map, LL_len, lb]
def fR (ts : List D) (d : D) : List D := match d with
  | .tup r => ts.map fun t => .tup (r ++ [t])
  | _ => []
theorem fR_map (ts : List D) (L : List (List D)) : (L.map D.tup).flatMap (fR ts) = (L.flatMap fun r => ts.map fun t => r ++ [t]).map .tup := by
  induction L with
  | nil => rfl
  | cons r L ih =>
    rw [List.map_cons, List.flatMap_cons, ih, List.flatMap_cons, List.map_append, List.map_map]
    rfl
theorem lo_body {m : Nat} {S : Store} {ts : List D} {L : List (List D)} {x t : Option D} (h1 : ∀ r ∈ L, r.length < 10000) (h2 : L.length * ts.length ≤ 10000) : l_lists_of_0 (ev m) [some (.lst ts), t, some (.lst (L.map .tup)), x, none, none] S = .nx [some (.lst ts), t, some (.lst ((L.flatMap fun r => ts.map fun t => r ++ [t]).map .tup)), x, none, none] S := by
  have h8 : sizeLine = 16777216 := rfl
  have key := fLc2_map (fi := fiL (fVar 2)) (g := gN 4) (g1 := gN 5) (fi1 := fiL (fVar 0)) (te := f2 (gAdd false) (fVar 4) (fArg mkTup (fCons (fVar 5) fNil))) (vs := [4, 5]) (vs1 := [5]) (ρ := [some (.lst ts), t, some (.lst (L.map .tup)), x, none, none]) (S := S) (ds := L.map .tup) (fR ts) (by rfl) (fun d hd => by
    obtain ⟨r, hr, rfl⟩ := List.mem_map.mp hd
    have := h1 r hr
    refine ⟨[some (.lst ts), t, some (.lst (L.map .tup)), x, some (.tup r), none], by rfl, fun acc ha => ?_⟩
    refine inL_map (ds := ts) (fun t => .tup (r ++ [t])) (by rfl) (fun d hd => ⟨[some (.lst ts), t, some (.lst (L.map .tup)), x, some (.tup r), some d], by rfl, ?_⟩) (by simpa [fR] using ha)
    have : r.length + 1 ≤ sizeLine := by omega
    simp [this]) (by
      rw [fR_map, List.length_map]
      have : (L.flatMap fun r => ts.map fun t => r ++ [t]).length = L.length * ts.length := by
        clear h1 h2
        induction L with
        | nil => simp
        | cons a l ih => rw [List.flatMap_cons, List.length_append, ih, List.length_map, List.length_cons, Nat.succ_mul]; omega
      omega)
  rw [fR_map] at key
  rw [l_lists_of_0]
  simp [key]
theorem lo_loop {m : Nat} {S : Store} {ts : List D} {t : Option D} (h0 : 1 ≤ ts.length) : ∀ (ds : List D) (i : Nat) (x : Option D), i + ds.length ≤ 5001 → ts.length ^ (i + ds.length) ≤ 10000 → ∃ x', forL (gN 3) (l_lists_of_0 (ev m)) none ds [some (.lst ts), t, some (.lst ((LL ts i).map .tup)), x, none, none] S = .nx [some (.lst ts), t, some (.lst ((LL ts (i + ds.length)).map .tup)), x', none, none] S
  | [], i, x, h1, h2 => ⟨x, by simp⟩
  | d :: ds, i, x, h1, h2 => by
    simp only [List.length_cons] at h1 h2
    have e : i + (ds.length + 1) = (i + 1) + ds.length := by omega
    rw [e] at h1 h2
    have hl : (LL ts i).length * ts.length ≤ 10000 := by
      have h3 : ts.length ^ (i + 1) ≤ ts.length ^ (i + 1 + ds.length) := Nat.pow_le_pow_right h0 (by omega)
      have h4 : (LL ts i).length * ts.length = ts.length ^ (i + 1) := by rw [LL_len, Nat.pow_succ]
      omega
    have bd := lo_body (m := m) (S := S) (ts := ts) (L := LL ts i) (x := some d) (t := t) (fun r hr => by have := (LL_mem hr).1; omega) hl
    obtain ⟨x', hx⟩ := lo_loop (m := m) (S := S) (t := t) h0 ds (i + 1) (some d) h1 h2
    refine ⟨x', ?_⟩
    rw [List.length_cons, e, ← hx, forL_cons]
    have e1 : gN 3 d [some (.lst ts), t, some (.lst ((LL ts i).map .tup)), x, none, none] S = some ([some (.lst ts), t, some (.lst ((LL ts i).map .tup)), some d, none, none], S) := rfl
    rw [e1, tgR_some, bd, loopR_nx]
    rfl
theorem lo_step {m : Nat} {S : Store} {t : Int} {ts : List D} {r : RS} (r0 : -4611686018427387904 ≤ t) (r9 : t < 4611686018427387904) (e : forL (gN 3) (l_lists_of_0 (ev m)) none (rngD 0 t.toNat) [some (.lst ts), some (.int t), some (.lst [.tup []]), none, none, none] S = r) :
    ev (m + 1) .f_lists_of [.lst ts, .int t] S = (r.bnd (sRet (fVar 2))).fin := by
  have h8 : sizeLine = 16777216 := rfl
  rw [ev, b_lists_of]
  simp [h8, r0, r9, e]
theorem lists_of_ok {n t : Nat} {S : Store} {ts : List D} (h : 1 ≤ n) (h0 : 1 ≤ ts.length) (ht : t ≤ 5001) (hl : ts.length ^ t ≤ 10000) : ev n .f_lists_of [.lst ts, .int (t : Int)] S = .ok (.lst ((LL ts t).map .tup)) S := by
  obtain ⟨m, rfl, h'⟩ := up h
  obtain ⟨x', e⟩ := lo_loop (m := m) (S := S) (ts := ts) (t := some (.int (t : Int))) h0 (rngD 0 t) 0 none (by rw [rngD_length]; omega) (by rw [rngD_length]; simpa using hl)
  rw [rngD_length, Nat.zero_add] at e
  have e' : forL (gN 3) (l_lists_of_0 (ev m)) none (rngD 0 ((t : Nat) : Int).toNat) [some (.lst ts), some (.int (t : Int)), some (.lst [.tup []]), none, none, none] S = .nx [some (.lst ts), some (.int (t : Int)), some (.lst ((LL ts t).map .tup)), x', none, none] S := e
  rw [lo_step (m := m) (S := S) (t := (t : Int)) (ts := ts) (by omega) (by omega) e']
  rfl
theorem gRng_nat {n : Nat} {S : Store} (h : n ≤ 10000) : gRng (.int (n : Int)) S = .ok (.lst ((List.range n).map fun (j : Nat) => D.int (j : Int))) S := by
  have h1 : (0 : Int) ≤ (n : Int) ∧ (n : Int) ≤ 16777216 := ⟨by omega, by omega⟩
  show (if (0 : Int) ≤ (n : Int) ∧ (n : Int) ≤ 16777216 then RE.ok (D.lst (((List.range ((n : Int)).toNat).map fun (i : Nat) => ((i : Nat) : Int)).map D.int)) S else .no) = _
  rw [if_pos h1, List.map_map]
  rfl
theorem all_worths_ok {z : Nat → Nat} {x : D} {S : Store} (hx : Szs z x S) (k : Kd) : ∀ {n : Nat}, k.dep + 4 ≤ n → tk z k ≤ 5000 → nm z k ≤ 5000 → ev n .f_all_worths [k.d, x] S = .ok (.lst (wl z k)) S := by
  have h8 : sizeLine = 16777216 := rfl
  induction k with
  | base i =>
    intro n h _ _
    obtain ⟨m, rfl, h'⟩ := up (d := 1) (by omega : 1 + 1 ≤ n)
    have := hx.ok i.val
    have e := gRng_nat (n := z i.val) (S := S) (by omega)
    rw [ev, b_all_worths]
    simp [Kd.d, hx.ix, e, wl]
  | unit =>
    intro n h _ _
    obtain ⟨m, rfl, h'⟩ := up (d := 1) (by omega : 1 + 1 ≤ n)
    rw [ev, b_all_worths]
    simp [Kd.d, wl, h8]
  | both a b ha hb =>
    intro n h ht hn
    simp [Kd.dep] at h
    simp only [tk] at ht
    obtain ⟨m, rfl, h'⟩ := up (d := max a.dep b.dep + 4) (by omega)
    have ⟨e, na, nb⟩ := nm_both hx.ok hn
    have ea := ha (n := m) (by omega) (by omega) na
    have eb := hb (n := m) (by omega) (by omega) nb
    have la := wl_len hx.ok a na; have lb := wl_len hx.ok b nb
    have key := fLc2_map (fi := fiL (fArg (ev m .f_all_worths) (fCons (f2 gIx (fVar 0) (fC (.int 1))) (fCons (fVar 1) fNil)))) (g := gN 3) (g1 := gN 4) (fi1 := fiL (fVar 2)) (te := fArg mkTup (fCons (fVar 3) (fCons (fVar 4) fNil))) (vs := [3, 4]) (vs1 := [4]) (ρ := [some (Kd.both a b).d, some x, some (.lst (wl z b)), none, none]) (S := S) (ds := wl z a) (fun u => (wl z b).map fun v => .tup [u, v]) (by simp [Kd.d, ea]) (fun u hu => by
      refine ⟨[some (Kd.both a b).d, some x, some (.lst (wl z b)), some u, none], by rfl, fun acc hacc => ?_⟩
      exact inL_map (ds := wl z b) (fun v => .tup [u, v]) (by rfl) (fun v hv => ⟨[some (Kd.both a b).d, some x, some (.lst (wl z b)), some u, some v], by rfl, by simp [h8]⟩) (by simpa using hacc)) (by
        rw [fm_len (c := (wl z b).length) (fun x => by simp), la, lb]; omega)
    rw [ev, b_all_worths]
    simp [Kd.d] at key ⊢
    simp [eb, key, wl]
  | frm a b ha hb =>
    intro n h ht hn
    simp [Kd.dep] at h
    simp only [tk] at ht
    obtain ⟨m, rfl, h'⟩ := up (d := max a.dep b.dep + 4) (by omega)
    have ⟨e, nb⟩ := nm_frm hx.ok hn
    have eb := hb (n := m) (by omega) (by omega) nb
    have lb := wl_len hx.ok b nb
    have en := number_ok hx a (n := m) (by omega)
    have ob := nm_ok hx.ok b
    have el := lists_of_ok (n := m) (t := nm z a) (S := S) (ts := wl z b) (by omega) (by omega) (by omega) (by rw [lb]; omega)
    rw [ev, b_all_worths]
    simp [Kd.d, eb, en, el, wl]
end Kz
namespace Kz
open PySem PySem.Spec PyProof.Rows L2 Kw
theorem ints_list {ns : List Int} (h : okSz ns) (S : Store) : Szs (sF ns) (.lst (ns.map .int)) S := ⟨sF_ok h, fun i => ix_ints h i S⟩
theorem sizes_list {n : Nat} {ns : List Int} (h : okSz ns) {S : Store} (hn : 2 ≤ n) : ev n .f_sure_sizes [.lst (ns.map .int)] S = .ok .non S := by
  obtain ⟨m, rfl, h'⟩ := up hn
  have h8 : sizeLine = 16777216 := rfl
  have hm := compL_map (tg := gN 2) (tt := fYes) (te := fArg (ev m .f_is_from) (fCons (fVar 2) (fCons (fC (.int 1)) (fCons (fC (.int 999)) fNil)))) (ρ := [some (.lst (ns.map .int)), some (.bl true), none]) (S := S) (gg := none) (fun _ => .bl true) gd_non (ns.map .int) [] (fun d hd => by
    obtain ⟨z, hz, rfl⟩ := List.mem_map.mp hd
    have := h.2 z hz
    refine ⟨[some (.lst (ns.map .int)), some (.bl true), some (.int z)], by simp, rfl, ?_⟩
    simp [is_from_int h', this]) (by simp [h.1])
  have hl : gLen [.lst (ns.map .int)] S = .ok (.int 8) S := by simp [gLen, seqA, h.1]
  have e1 : (ns.map D.int).map (fun _ => D.bl true) = (ns.map (fun _ => true)).map D.bl := by simp
  rw [e1] at hm
  have e2 : gAll [D.lst ((ns.map (fun _ => true)).map D.bl)] S = .ok (.bl true) S := by
    rw [gAll_lst]; simp
  have hit : itL (.lst (ns.map .int)) S = .ok (ns.map .int, none) S := rfl
  rw [ev, b_sure_sizes]
  simp at hm
  simp at e2
  simp at hl
  simp at hit
  simp [hl, hit, wipeR, hm, e2]
end Kz
namespace Kz
open PySem PySem.Spec PyProof.Rows L2 Kw
mutual
/-- a key as a tree -/
def kD : NestedKey → D
  | .none => .non
  | .num i => .int i
  | .text x => .str x
  | .tup ks => .tup (kDs ks)
def kDs : List NestedKey → List D
  | [] => []
  | k :: ks => kD k :: kDs ks
end
theorem kDs_map : ∀ ks : List NestedKey, kDs ks = ks.map kD
  | [] => rfl
  | k :: ks => by rw [kDs, kDs_map ks]; rfl
mutual
theorem keyOf_kD : ∀ k : NestedKey, Kw.keyOf (kD k) = some k
  | .none => rfl
  | .num i => rfl
  | .text x => rfl
  | .tup ks => by rw [kD, Kw.keyOf, keysOf_kDs ks]; rfl
theorem keysOf_kDs : ∀ ks : List NestedKey, keysOf (kDs ks) = some ks
  | [] => rfl
  | k :: ks => by simp only [kDs, keysOf, keyOf_kD k, keysOf_kDs ks]
end
theorem und_kD (n : Nat) (k : NestedKey) : (kD k).under n = true := keyOf_under _ (keyOf_kD k)
theorem undL_kD (n : Nat) : ∀ ks : List NestedKey, underL n (ks.map kD) = true
  | [] => rfl
  | k :: ks => by simp [underL, und_kD n k, undL_kD n ks]
/-- a kind as a key -/
def kk : Kd → NestedKey
  | .base i => .tup [.text "base", .num (i.val : Int)]
  | .unit => .tup [.text "unit"]
  | .both a b => .tup [.text "both", kk a, kk b]
  | .frm a b => .tup [.text "from", kk a, kk b]
theorem kD_kk : ∀ k : Kd, kD (kk k) = k.d
  | .base i => rfl
  | .unit => rfl
  | .both a b => by simp [kk, kD, kDs, kD_kk a, kD_kk b, Kd.d]
  | .frm a b => by simp [kk, kD, kDs, kD_kk a, kD_kk b, Kd.d]
theorem keyOf_kd (k : Kd) : Kw.keyOf k.d = some (kk k) := by rw [← kD_kk k, keyOf_kD]
theorem kk_inj : ∀ {a b : Kd}, kk a = kk b → a = b
  | .base i, b, h => by
    cases b <;> simp [kk] at h
    rename_i j
    congr 1
    exact _root_.Fin.ext (by omega)
  | .unit, b, h => by cases b <;> simp [kk] at h; rfl
  | .both a c, b, h => by
    cases b <;> simp [kk] at h
    rw [kk_inj h.1, kk_inj h.2]
  | .frm a c, b, h => by
    cases b <;> simp [kk] at h
    rw [kk_inj h.1, kk_inj h.2]
theorem kk_depth : ∀ k : Kd, (kk k).depth = k.dep + 1
  | .base i => by simp [kk, NestedKey.depth, NestedKey.depthAll, Kd.dep]
  | .unit => by simp [kk, NestedKey.depth, NestedKey.depthAll, Kd.dep]
  | .both a b => by simp [kk, NestedKey.depth, NestedKey.depthAll, Kd.dep, kk_depth a, kk_depth b] <;> omega
  | .frm a b => by simp [kk, NestedKey.depth, NestedKey.depthAll, Kd.dep, kk_depth a, kk_depth b] <;> omega
theorem kk_tup (k : Kd) : isTupK (kk k) = true := by cases k <;> rfl
/-- all rows of so many -/
def LLk (ts : List NestedKey) : Nat → List (List NestedKey)
  | 0 => [[]]
  | n + 1 => (LLk ts n).flatMap fun r => ts.map fun t => r ++ [t]
/-- all worths, as keys -/
def wlk (z : Nat → Nat) : Kd → List NestedKey
  | .base i => (List.range (z i.val)).map fun (j : Nat) => .num (j : Int)
  | .unit => [.tup []]
  | .both a b => (wlk z a).flatMap fun x => (wlk z b).map fun y => .tup [x, y]
  | .frm a b => (LLk (wlk z b) (nm z a)).map .tup
theorem LLk_map (ts : List NestedKey) : ∀ n, (LLk ts n).map (List.map kD) = LL (ts.map kD) n
  | 0 => rfl
  | n + 1 => by
    rw [LL, LLk, ← LLk_map ts n, List.map_flatMap, List.flatMap_map]
    congr 1
    funext r
    rw [List.map_map, List.map_map]
    refine List.map_congr_left fun t _ => ?_
    simp
theorem wlk_map (z : Nat → Nat) : ∀ k : Kd, (wlk z k).map kD = wl z k
  | .base i => by rw [wlk, wl, List.map_map]; rfl
  | .unit => by simp [wlk, wl, kD, kDs]
  | .both a b => by
    rw [wlk, wl, ← wlk_map z a, ← wlk_map z b, List.map_flatMap, List.flatMap_map]
    congr 1
    funext x
    rw [List.map_map, List.map_map]
    refine List.map_congr_left fun y _ => ?_
    simp [kD, kDs]
  | .frm a b => by
    rw [wlk, wl, ← wlk_map z b, ← LLk_map, List.map_map, List.map_map]
    refine List.map_congr_left fun r _ => ?_
    simp [kD, kDs_map]
theorem LLk_mem {ts : List NestedKey} : ∀ {n : Nat} {r : List NestedKey}, r ∈ LLk ts n ↔ r.length = n ∧ ∀ d ∈ r, d ∈ ts
  | 0, r => by
    constructor
    · intro h
      have : r = [] := by simpa [LLk] using h
      subst this
      exact ⟨rfl, fun d hd => nomatch hd⟩
    · rintro ⟨h, _⟩
      have : r = [] := List.eq_nil_of_length_eq_zero h
      subst this; simp [LLk]
  | n + 1, r => by
    rw [LLk, List.mem_flatMap]
    constructor
    · rintro ⟨r', h1, h2⟩
      obtain ⟨t, h3, rfl⟩ := List.mem_map.mp h2
      have ⟨e, a⟩ := LLk_mem.mp h1
      refine ⟨by simp [e], fun d hd => ?_⟩
      rcases List.mem_append.mp hd with hd | hd
      · exact a d hd
      · have : d = t := by simpa using hd
        exact this ▸ h3
    · rintro ⟨h1, h2⟩
      have hne : r ≠ [] := fun z => by rw [z] at h1; cases h1
      refine ⟨r.dropLast, LLk_mem.mpr ⟨by rw [List.length_dropLast, h1]; rfl, fun d hd => h2 d (List.dropLast_subset _ hd)⟩, ?_⟩
      exact List.mem_map.mpr ⟨r.getLast hne, h2 _ (List.getLast_mem hne), List.dropLast_concat_getLast hne⟩
theorem nodup_fm {α β : Type} {f : α → List β} : ∀ {l : List α}, l.Nodup → (∀ a ∈ l, (f a).Nodup) → (∀ a ∈ l, ∀ b ∈ l, ∀ x, x ∈ f a → x ∈ f b → a = b) → (l.flatMap f).Nodup
  | [], _, _, _ => List.nodup_nil
  | a :: l, h1, h2, h3 => by
    rw [List.nodup_cons] at h1
    rw [List.flatMap_cons, List.nodup_append]
    refine ⟨h2 a List.mem_cons_self, nodup_fm h1.2 (fun b hb => h2 b (List.mem_cons_of_mem _ hb)) (fun b hb c hc => h3 b (List.mem_cons_of_mem _ hb) c (List.mem_cons_of_mem _ hc)), fun x hx y hy e => ?_⟩
    subst e
    obtain ⟨b, hb, hx2⟩ := List.mem_flatMap.mp hy
    have := h3 a List.mem_cons_self b (List.mem_cons_of_mem _ hb) x hx hx2
    exact h1.1 (this ▸ hb)
theorem nodup_map {α β : Type} {f : α → β} (hf : ∀ a b, f a = f b → a = b) : ∀ {l : List α}, l.Nodup → (l.map f).Nodup
  | [], _ => List.nodup_nil
  | a :: l, h => by
    rw [List.nodup_cons] at h
    rw [List.map_cons, List.nodup_cons]
    refine ⟨fun z => ?_, nodup_map hf h.2⟩
    obtain ⟨b, hb, e⟩ := List.mem_map.mp z
    exact h.1 (hf _ _ e ▸ hb)
theorem LLk_nodup {ts : List NestedKey} (h : ts.Nodup) : ∀ n, (LLk ts n).Nodup
  | 0 => by simp [LLk]
  | n + 1 => by
    rw [LLk]
    refine nodup_fm (LLk_nodup h n) (fun r _ => nodup_map (fun a b e => by simpa using e) h) fun r _ s _ x hx hy => ?_
    obtain ⟨t, _, rfl⟩ := List.mem_map.mp hx
    obtain ⟨u, _, e⟩ := List.mem_map.mp hy
    exact (List.append_inj' e rfl).1.symm
/-- each once -/
theorem wlk_nodup (z : Nat → Nat) : ∀ k : Kd, (wlk z k).Nodup
  | .base i => by
    rw [wlk]
    exact nodup_map (fun a b e => by simp at e; omega) List.nodup_range
  | .unit => by simp [wlk]
  | .both a b => by
    rw [wlk]
    refine nodup_fm (wlk_nodup z a) (fun x _ => nodup_map (fun c d e => by simpa using e) (wlk_nodup z b)) fun x _ y _ w hx hy => ?_
    obtain ⟨u, _, rfl⟩ := List.mem_map.mp hx
    obtain ⟨v, _, e⟩ := List.mem_map.mp hy
    simp at e
    exact e.1.symm
  | .frm a b => by
    rw [wlk]
    exact nodup_map (fun c d e => by simpa using e) (LLk_nodup (wlk_nodup z b) _)
theorem wlk_depth {z : Nat → Nat} : ∀ {k : Kd} {w : NestedKey}, w ∈ wlk z k → w.depth ≤ k.dep + 1
  | .base i, w, h => by
    obtain ⟨j, _, rfl⟩ := List.mem_map.mp h
    simp [NestedKey.depth]
  | .unit, w, h => by
    have : w = .tup [] := by simpa [wlk] using h
    subst this; simp [NestedKey.depth, NestedKey.depthAll]
  | .both a b, w, h => by
    rw [wlk, List.mem_flatMap] at h
    obtain ⟨x, hx, h⟩ := h
    obtain ⟨y, hy, rfl⟩ := List.mem_map.mp h
    have := wlk_depth hx; have := wlk_depth hy
    simp [NestedKey.depth, NestedKey.depthAll, Kd.dep]; omega
  | .frm a b, w, h => by
    rw [wlk] at h
    obtain ⟨r, hr, rfl⟩ := List.mem_map.mp h
    have ⟨_, m⟩ := LLk_mem.mp hr
    have key : ∀ l : List NestedKey, (∀ d ∈ l, d.depth ≤ b.dep + 1) → NestedKey.depthAll l ≤ b.dep + 1 := by
      intro l
      induction l with
      | nil => intro _; simp [NestedKey.depthAll]
      | cons d l ih =>
        intro h
        have h1 := h d List.mem_cons_self
        have h2 := ih fun e he => h e (List.mem_cons_of_mem _ he)
        simp only [NestedKey.depthAll]; omega
    have := key r fun d hd => wlk_depth (m d hd)
    simp [NestedKey.depth, Kd.dep]; omega
/-- tuples alone, or numbers alone -/
theorem wlk_hom {z : Nat → Nat} : ∀ k : Kd, (∀ w ∈ wlk z k, isTupK w = true) ∨ (∀ w ∈ wlk z k, isNumK w = true)
  | .base i => .inr fun w h => by obtain ⟨j, _, rfl⟩ := List.mem_map.mp h; rfl
  | .unit => .inl fun w h => by have : w = .tup [] := by simpa [wlk] using h
                                subst this; rfl
  | .both a b => .inl fun w h => by
    rw [wlk, List.mem_flatMap] at h
    obtain ⟨x, hx, h⟩ := h
    obtain ⟨y, hy, rfl⟩ := List.mem_map.mp h
    rfl
  | .frm a b => .inl fun w h => by
    rw [wlk] at h
    obtain ⟨r, hr, rfl⟩ := List.mem_map.mp h
    rfl
theorem wlk_len {z : Nat → Nat} (hz : ∀ i, 1 ≤ z i ∧ z i ≤ 999) (k : Kd) (h : nm z k ≤ 5000) : (wlk z k).length = nm z k := by
  have := wl_len hz k h
  rw [← wlk_map, List.length_map] at this
  exact this
end Kz
namespace Kz
open PySem PySem.Spec PyProof.Rows L2 Kw
mutual
inductive Rv where
  | num (i : Int) | unit | pair (a b : Rv) | made (t : Tm) (env : Rs) | told (A B : Kd) (ws : List NestedKey)
inductive Rs where
  | nil | snoc (r : Rs) (v : Rv)
end
mutual
def Rv.d (R : D) : Rv → D
  | .num i => .int i
  | .unit => .tup []
  | .pair a b => .tup [a.d R, b.d R]
  | .made t env => .ins "Made" ["reckoner", "body", "things"] [R, t.d, .lst (env.ds R)]
  | .told A B ws => .ins "Told" ["reckoner", "kind", "worth"] [R, (Kd.frm A B).d, .tup (ws.map kD)]
def Rs.ds (R : D) : Rs → List D
  | .nil => []
  | .snoc r v => r.ds R ++ [v.d R]
end
def Rs.len : Rs → Nat
  | .nil => 0
  | .snoc r _ => r.len + 1
def Rs.at_ : Rs → Nat → Option Rv
  | .nil, _ => none
  | .snoc r v, k => if k = r.len then some v else r.at_ k
theorem Rs.ds_len (R : D) : ∀ e : Rs, (e.ds R).length = e.len
  | .nil => rfl
  | .snoc r v => by simp [Rs.ds, Rs.len, Rs.ds_len R r]
theorem Rs.at_lt : ∀ {e : Rs} {k : Nat} {v : Rv}, e.at_ k = some v → k < e.len
  | .nil, _, _, h => by simp [Rs.at_] at h
  | .snoc r u, k, v, h => by
    simp only [Rs.at_] at h
    split at h
    · rename_i e; subst e; simp [Rs.len]
    · have := Rs.at_lt h; simp only [Rs.len]; omega
theorem Rs.ds_at (R : D) : ∀ {e : Rs} {k : Nat} {v : Rv}, e.at_ k = some v → (e.ds R)[k]? = some (v.d R)
  | .nil, _, _, h => by simp [Rs.at_] at h
  | .snoc r u, k, v, h => by
    simp only [Rs.at_] at h
    simp only [Rs.ds]
    split at h
    · rename_i e; subst e; cases h
      rw [List.getElem?_append_right (by rw [Rs.ds_len]; exact Nat.le_refl _), Rs.ds_len, Nat.sub_self]; rfl
    · have hl := Rs.at_lt h
      rw [List.getElem?_append_left (by rw [Rs.ds_len]; exact hl)]
      exact Rs.ds_at R h
def seqO {α : Type} : List (Option α) → Option (List α)
  | [] => some []
  | o :: r => o.bind fun a => (seqO r).bind fun l => some (a :: l)
/-- a worth as it is reckoned with -/
def hld : Kd → NestedKey → Option Rv
  | .base _, .num i => some (.num i)
  | .unit, .tup [] => some .unit
  | .both A B, .tup [x, y] => (hld A x).bind fun a => (hld B y).bind fun b => some (.pair a b)
  | .frm A B, .tup ws => some (.told A B ws)
  | _, _ => none
mutual
/-- U: the kinds whose worths may be listed -/
def wrk (z : Nat → Nat) (U : List Kd) : Nat → Tm → Rs → Option Rv
  | 0, _, _ => none
  | f + 1, t, env => match t with
    | .giv k => env.at_ k
    | .unit => some .unit
    | .mk _ b => some (.made b env)
    | .app a b => (wrk z U f a env).bind fun u => (wrk z U f b env).bind fun x => hwn z U f u x
    | .both a b => (wrk z U f a env).bind fun u => (wrk z U f b env).bind fun x => some (.pair u x)
    | .fst a => (wrk z U f a env).bind fun u => match u with
      | .pair x _ => some x
      | _ => none
    | .snd a => (wrk z U f a env).bind fun u => match u with
      | .pair _ y => some y
      | _ => none
def hwn (z : Nat → Nat) (U : List Kd) : Nat → Rv → Rv → Option Rv
  | 0, _, _ => none
  | f + 1, u, x => match u with
    | .made t env => if env.len < 1000 then wrk z U f t (.snoc env x) else none
    | .told A B ws => if A ∈ U ∧ B.dep ≤ 20 then (tlv z U f A x).bind fun w => ((wlk z A).idxOf? w).bind fun j => (ws[j]?).bind (hld B) else none
    | _ => none
def tlv (z : Nat → Nat) (U : List Kd) : Nat → Kd → Rv → Option NestedKey
  | 0, _, _ => none
  | f + 1, K, v => match K with
    | .base _ => match v with
      | .num i => some (.num i)
      | _ => none
    | .unit => match v with
      | .unit => some (.tup [])
      | _ => none
    | .both A B => match v with
      | .pair a b => (tlv z U f A a).bind fun x => (tlv z U f B b).bind fun y => some (.tup [x, y])
      | _ => none
    | .frm A B => if A ∈ U then (seqO ((wlk z A).map fun w => (hld A w).bind fun x => hwn z U f v x)).bind fun vs => (seqO (vs.map fun u => tlv z U f B u)).bind fun ws => some (.tup ws) else none
end
def rck (x : D) (a b : Nat) : D := .ins "Reckoner" ["sizes", "lists", "spots"] [x, .loc a, .loc b]
structure GoodU (z : Nat → Nat) (U : List Kd) : Prop where
  len : U.length ≤ 10000
  ok : ∀ A ∈ U, tk z A ≤ 5000 ∧ nm z A ≤ 5000 ∧ A.dep ≤ 7 ∧ A.sz ≤ 2000000
def nums (n : Nat) : List D := (List.range n).map fun (j : Nat) => D.int (j : Int)
/-- the Reckoner's cells: the kinds Ks are listed -/
structure Rk (z : Nat → Nat) (U : List Kd) (x : D) (a b : Nat) (Ks : List Kd) (S : Store) : Prop where
  sz : ∃ ns, okSz ns ∧ z = sF ns ∧ (x = .lst (ns.map .int) ∨ ∃ v, x = .loc v ∧ S[v]? = some (.lst (ns.map .int)))
  la : S[a]? = some (.dct (Ks.map kk) (Ks.map fun K => .lst (wl z K)))
  lb : ∃ cs : List Nat, S[b]? = some (.dct (Ks.map kk) (cs.map .loc)) ∧ cs.length = Ks.length ∧ ∀ (i : Nat) K c, Ks[i]? = some K → cs[i]? = some c → c ≠ a ∧ c ≠ b ∧ S[c]? = some (.dct (wlk z K) (nums (wlk z K).length))
  nd : Ks.Nodup
  sub : ∀ K ∈ Ks, K ∈ U
  ab : a ≠ b
/-- only the Reckoner's own cells were changed -/
structure Gx (a b : Nat) (S S' : Store) : Prop where
  le : S.length ≤ S'.length
  at_ : ∀ i, i < S.length → i ≠ a → i ≠ b → S'[i]? = S[i]?
theorem Gx.refl {a b : Nat} {S : Store} : Gx a b S S := ⟨Nat.le_refl _, fun _ _ _ _ => rfl⟩
theorem Gx.trans {a b : Nat} {S S1 S2 : Store} (h : Gx a b S S1) (k : Gx a b S1 S2) : Gx a b S S2 :=
  ⟨Nat.le_trans h.le k.le, fun i hi ha hb => (k.at_ i (Nat.lt_of_lt_of_le hi h.le) ha hb).trans (h.at_ i hi ha hb)⟩
theorem lt_at {S : Store} {i : Nat} {c : Cell} (h : S[i]? = some c) : i < S.length := by
  rcases Nat.lt_or_ge i S.length with z | z
  · exact z
  · rw [List.getElem?_eq_none z] at h; cases h
theorem dAt_map {f : Kd → D} {A : Kd} : ∀ {Ks : List Kd}, A ∈ Ks → dAt (Ks.map kk) (Ks.map f) (kk A) = some (f A)
  | [], h => nomatch h
  | K :: Ks, h => by
    rw [List.map_cons, List.map_cons, dAt]
    by_cases e : kk K = kk A
    · rw [if_pos e, kk_inj e]
    · rw [if_neg e]
      rcases List.mem_cons.mp h with rfl | h
      · exact absurd rfl e
      · exact dAt_map h
theorem dAt_at {A : Kd} : ∀ {Ks : List Kd} {ds : List D} {i : Nat} {d : D}, Ks.Nodup → Ks[i]? = some A → ds[i]? = some d → dAt (Ks.map kk) ds (kk A) = some d
  | [], _, i, _, _, h, _ => by simp at h
  | K :: Ks, [], i, _, _, _, h => by simp at h
  | K :: Ks, e :: ds, 0, d, hn, h1, h2 => by
    simp at h1 h2
    subst h1 h2
    rw [List.map_cons, dAt, if_pos rfl]
  | K :: Ks, e :: ds, i + 1, d, hn, h1, h2 => by
    rw [List.nodup_cons] at hn
    simp at h1 h2
    rw [List.map_cons, dAt, if_neg (fun (z : kk K = kk A) => hn.1 (by rw [kk_inj z]; exact List.mem_of_getElem? h1))]
    exact dAt_at hn.2 h1 h2
theorem kk_mem {A : Kd} {Ks : List Kd} : kk A ∈ Ks.map kk ↔ A ∈ Ks := by
  constructor
  · intro h
    obtain ⟨K, hK, e⟩ := List.mem_map.mp h
    exact kk_inj e ▸ hK
  · exact List.mem_map_of_mem
theorem kks_tup (Ks : List Kd) : (Ks.map kk).all isTupK = true := by
  rw [List.all_eq_true]
  intro k hk
  obtain ⟨K, _, rfl⟩ := List.mem_map.mp hk
  exact kk_tup K
/-- the places of worths -/
theorem dAt_nums : ∀ {ws : List NestedKey} {w : NestedKey} {j : Nat} {s : Nat}, ws.idxOf? w = some j → dAt ws ((List.range' s ws.length).map fun (i : Nat) => D.int (i : Int)) w = some (.int ((s + j : Nat) : Int))
  | [], _, _, _, h => by simp at h
  | k :: ws, w, j, s, h => by
    rw [List.idxOf?_cons] at h
    rw [List.length_cons, List.range'_succ, List.map_cons, dAt]
    by_cases e : k = w
    · subst e
      simp at h
      subst h
      rw [if_pos rfl]; rfl
    · rw [if_neg e]
      have eb : (k == w) = false := by simpa using e
      rw [eb] at h
      simp at h
      obtain ⟨j', h1, rfl⟩ := h
      have := dAt_nums (s := s + 1) h1
      rw [this]
      congr 2
      omega
theorem nums_range' (n : Nat) : nums n = (List.range' 0 n).map fun (i : Nat) => D.int (i : Int) := by
  rw [nums, List.range_eq_range']
mutual
theorem und_rv {R : D} {n : Nat} (hR : R.under n = true) : ∀ v : Rv, (v.d R).under n = true
  | .num i => by simp [Rv.d, D.under]
  | .unit => by simp [Rv.d, D.under, underL]
  | .pair a b => by simp [Rv.d, D.under, underL, und_rv hR a, und_rv hR b]
  | .made t env => by
    have ht : t.d.under n = true := by
      have : ∀ t : Tm, t.d.under n = true := by
        intro t
        induction t with
        | giv k => simp [Tm.d, D.under, underL]
        | unit => simp [Tm.d, D.under, underL]
        | mk A b ih => simp [Tm.d, D.under, underL, ih, keyOf_under _ (keyOf_kd A)]
        | app a b ia ib => simp [Tm.d, D.under, underL, ia, ib]
        | both a b ia ib => simp [Tm.d, D.under, underL, ia, ib]
        | fst a ia => simp [Tm.d, D.under, underL, ia]
        | snd a ia => simp [Tm.d, D.under, underL, ia]
      exact this t
    simp [Rv.d, D.under, underL, ht, und_rs hR env, hR]
  | .told A B ws => by simp [Rv.d, D.under, underL, hR, keyOf_under _ (keyOf_kd (.frm A B)), undL_kD]
theorem und_rs {R : D} {n : Nat} (hR : R.under n = true) : ∀ e : Rs, underL n (e.ds R) = true
  | .nil => rfl
  | .snoc r v => by
    have app : ∀ ds es : List D, underL n (ds ++ es) = (underL n ds && underL n es) := by
      intro ds es
      induction ds with
      | nil => simp [underL]
      | cons d ds ih => simp [underL, ih, Bool.and_assoc]
    simp [Rs.ds, app, underL, und_rs hR r, und_rv hR v]
end
end Kz
namespace Kz
open PySem PySem.Spec PyProof.Rows L2 Kw
def meR (o : Option FF) (fa : FA) (x : D) (ρ : FEnv) (S : Store) : RE D := match o with
  | some F => (fa ρ S).bnd fun as S2 => F (x :: as) S2
  | none => .no
@[simp] theorem meR_some {F : FF} {fa : FA} {x : D} {ρ : FEnv} {S : Store} : meR (some F) fa x ρ S = (fa ρ S).bnd fun as S2 => F (x :: as) S2 := rfl
@[simp] theorem fMe_ap {L : List (Str × FF)} {m : Str} {fo : FE} {fa : FA} {ρ : FEnv} {S : Store} : fMe L m fo fa ρ S = (fo ρ S).bnd fun x S1 => meR (disR L m x) fa x ρ S1 := rfl
@[simp] theorem fMk_ap {c : Str} {F : FF} {fs : FA} {ρ : FEnv} {S : Store} : fMk c F fs ρ S = (fs ρ S).bnd (mkR c F) := rfl
@[simp] theorem fMk2_ap {c : Str} {F : FF} {fs : FA} {ρ : FEnv} {S : Store} : fMk2 c F fs ρ S = (fs ρ S).bnd (mkR2 c F) := rfl
theorem gFld_at {cs : List Str} {f c : Str} {fs : List Str} {ds : List D} {d : D} {S : Store} (hc : c ∈ cs) (h : lookF f fs ds = some d) : gFld cs f (.ins c fs ds) S = .ok d S := by
  unfold gFld obOf
  simp only
  rw [if_pos hc, h]
theorem cut_here {S : Store} {c : Str} {fs : List Str} {ds : List D} (h : underL S.length ds = true) : cutR S (.ok (.ins c fs ds) (S ++ [.dead])) = .ok (.ins c fs ds) S := cut_ok _ (by simpa [D.under] using h)
section
variable {S : Store} {n : Nat}
theorem mk_made {R t e : D} (h : 1 ≤ n) (u : underL S.length [R, t, e] = true) : mkR "Made" (ev n .f_Made___init__) [R, t, e] S = .ok (.ins "Made" ["reckoner", "body", "things"] [R, t, e]) S := by
  obtain ⟨m, rfl, h'⟩ := up (d := 0) (by omega : 0 + 1 ≤ n)
  have e : ev (m + 1) .f_Made___init__ [.loc S.length, R, t, e] (S ++ [.ob "Made" [] []]) = .ok .non (S ++ [.ob "Made" ["reckoner", "body", "things"] [R, t, e]]) := by
    rw [ev, b_Made___init__]
    simp [sFl]
  unfold mkR
  rw [e]
  simp
  exact cut_here u
theorem mk_told {R t e : D} (h : 1 ≤ n) (u : underL S.length [R, t, e] = true) : mkR "Told" (ev n .f_Told___init__) [R, t, e] S = .ok (.ins "Told" ["reckoner", "kind", "worth"] [R, t, e]) S := by
  obtain ⟨m, rfl, h'⟩ := up (d := 0) (by omega : 0 + 1 ≤ n)
  have e : ev (m + 1) .f_Told___init__ [.loc S.length, R, t, e] (S ++ [.ob "Told" [] []]) = .ok .non (S ++ [.ob "Told" ["reckoner", "kind", "worth"] [R, t, e]]) := by
    rw [ev, b_Told___init__]
    simp [sFl]
  unfold mkR
  rw [e]
  simp
  exact cut_here u
/-- a new Reckoner -/
theorem mk_rck {x : D} (h : 1 ≤ n) : mkR2 "Reckoner" (ev n .f_Reckoner___init__) [x] S = .ok (rck x (S.length + 1) (S.length + 2)) (S ++ [.dead, .dct [] [], .dct [] []]) := by
  obtain ⟨m, rfl, h'⟩ := up (d := 0) (by omega : 0 + 1 ≤ n)
  have e : ev (m + 1) .f_Reckoner___init__ [.loc S.length, x] (S ++ [.ob "Reckoner" [] []]) = .ok .non (S ++ [.ob "Reckoner" ["sizes", "lists", "spots"] [x, .loc (S.length + 1), .loc (S.length + 2)], .dct [] [], .dct [] []]) := by
    rw [ev, b_Reckoner___init__]
    simp [sFl, fNewD]
  unfold mkR2
  rw [e]
  simp [rck]
end
theorem disp_rck {m : Str} {F : FF} {x : D} {a b : Nat} (h : m ∉ (["sizes", "lists", "spots"] : List Str)) : disR [("Reckoner", F)] m (rck x a b) = some F := by
  unfold rck disR
  simp only
  rw [if_neg h]
  simp [List.lookup]
section
variable {z : Nat → Nat} {U : List Kd} {x : D} {a b : Nat} {Ks : List Kd} {S : Store}
theorem Rk.szs (h : Rk z U x a b Ks S) : Szs z x S := by
  obtain ⟨ns, ok, rfl, rfl | ⟨v, rfl, at_⟩⟩ := h.sz
  · exact ints_list ok S
  · exact szs_cell ok at_
theorem Rk.sizes (h : Rk z U x a b Ks S) {n : Nat} (hn : 2 ≤ n) : ev n .f_sure_sizes [x] S = .ok .non S := by
  obtain ⟨ns, ok, rfl, rfl | ⟨v, rfl, at_⟩⟩ := h.sz
  · exact sizes_list ok hn
  · exact sizes_sure ok at_ hn
theorem Rk.und (h : Rk z U x a b Ks S) : (rck x a b).under S.length = true := by
  have ha := lt_at h.la
  obtain ⟨cs, lb, _⟩ := h.lb
  have hb := lt_at lb
  have hx : x.under S.length = true := by
    obtain ⟨ns, ok, rfl, rfl | ⟨v, rfl, at_⟩⟩ := h.sz
    · have : ∀ l : List Int, underL S.length (l.map .int) = true := by
        intro l
        induction l with
        | nil => rfl
        | cons a l ih => simp [underL, D.under, ih]
      simp [D.under, this]
    · have := lt_at at_
      simp [D.under, this]
  simp [rck, D.under, underL, hx, ha, hb]
theorem Rk.len (h : Rk z U x a b Ks S) (g : GoodU z U) : Ks.length ≤ 10000 := by
  have := h.nd.length_le_of_subset h.sub
  exact Nat.le_trans this g.len
theorem rworths_ok {n : Nat} {A : Kd} (h : Rk z U x a b Ks S) (g : GoodU z U) (hA : A ∈ U) (hn : A.dep + 6 ≤ n) : ev n .f_worths [A.d, x] S = .ok (.lst (wl z A)) S := by
  obtain ⟨ht, h5, hd, hk⟩ := g.ok A hA
  obtain ⟨m, rfl, h'⟩ := up (d := A.dep + 5) hn
  have hx := h.szs
  have hq : ¬ (5000 : Int) < ((nm z A : Nat) : Int) := by omega
  rw [ev, b_worths]
  simp [sure_kind_kd (n := m) (S := S) (k := A) (by omega) hk, h.sizes (n := m) (by omega), taken_sure hx A (n := m) (by omega) ht, number_ok hx A (n := m) (by omega), hq, all_worths_ok hx A (n := m) (by omega) ht h5]
end
/-- the dict of places -/
theorem dct_enum {ρ0 ρ1 : Option D} {S : Store} : ∀ (ws : List NestedKey) (s : Nat) (ks : List NestedKey) (ds : List D), hom (ks ++ ws) = true → (ks ++ ws).Nodup → (∀ w ∈ ws, w.depth ≤ 8) → (ks ++ ws).length ≤ 10000 →
    dctL (gTu 2 (gsCons (gN 2) (gsCons (gN 3) gsNil))) (fVar 3) (fVar 2) none [ρ0, ρ1, none, none] (enumD s (ws.map kD)) ks ds S = .ok (ks ++ ws, ds ++ (List.range' s ws.length).map fun (i : Nat) => D.int (i : Int)) S
  | [], s, ks, ds, _, _, _, _ => by
    rw [List.map_nil, enumD, dctL, gchk, if_pos (by unfold gd; trivial)]
    simp
  | w :: ws, s, ks, ds, ho, hn, hd, hl => by
    have h8 : sizeLine = 16777216 := rfl
    have ho' : hom (w :: ks) = true := by
      unfold hom at ho ⊢
      rw [List.all_append, List.all_append, List.all_cons, List.all_cons] at ho
      rw [List.all_cons, List.all_cons]
      simp only [Bool.or_eq_true, Bool.and_eq_true] at ho ⊢
      rcases ho with ho | ho
      · exact .inl ⟨ho.2.1, ho.1⟩
      · exact .inr ⟨ho.2.1, ho.1⟩
    have hw : w ∉ ks := fun q => by
      rw [List.nodup_append] at hn
      exact hn.2.2 w q w List.mem_cons_self rfl
    have hl' : ks.length < sizeLine := by
      rw [List.length_append, List.length_cons] at hl
      omega
    have e0 : ks ++ w :: ws = (ks ++ [w]) ++ ws := by simp
    have ih := dct_enum (ρ0 := ρ0) (ρ1 := ρ1) (S := S) ws (s + 1) (ks ++ [w]) (ds ++ [.int (s : Int)]) (by rw [← e0]; exact ho) (by rw [← e0]; exact hn) (fun v hv => hd v (List.mem_cons_of_mem _ hv)) (by rw [← e0]; exact hl)
    rw [List.map_cons, enumD, dctL, gchk, if_pos (by unfold gd; trivial)]
    have g0 : gTu 2 (gsCons (gN 2) (gsCons (gN 3) gsNil)) (.tup [.int (s : Int), kD w]) [ρ0, ρ1, none, none] S = some ([ρ0, ρ1, some (.int (s : Int)), some (kD w)], S) := rfl
    have f3 : fVar 3 [ρ0, ρ1, some (.int (s : Int)), some (kD w)] S = .ok (kD w) S := rfl
    have f2 : fVar 2 [ρ0, ρ1, some (.int (s : Int)), some (kD w)] S = .ok (.int (s : Int)) S := rfl
    rw [g0]
    simp only [f3, f2, keyOf_kD]
    rw [if_pos ⟨hd w List.mem_cons_self, ho', hw, hl'⟩]
    rw [ih]
    rw [List.length_cons, List.range'_succ]
    simp
end Kz
namespace Kz
open PySem PySem.Spec PyProof.Rows L2 Kw
section
variable {z : Nat → Nat} {U : List Kd} {x : D} {a b : Nat} {Ks : List Kd} {S : Store} {A : Kd}
theorem not_listed {ds : List D} {c : Nat} (h : S[c]? = some (.dct (Ks.map kk) ds)) (hd : A.dep ≤ 7) : gDnot A.d (.loc c) S = .ok (.bl (!decide (A ∈ Ks))) S := by
  unfold gDnot
  simp only [h, keyOf_kd]
  rw [if_pos ⟨kk_tup A, kks_tup Ks, by rw [kk_depth]; omega⟩]
  by_cases hm : A ∈ Ks
  · rw [decide_eq_true hm, decide_eq_true (kk_mem.mpr hm)]
  · rw [decide_eq_false hm, decide_eq_false (fun q => hm (kk_mem.mp q))]
theorem get_at {ds : List D} {c : Nat} {d : D} (h : S[c]? = some (.dct (Ks.map kk) ds)) (hd : A.dep ≤ 7) (e : dAt (Ks.map kk) ds (kk A) = some d) : gDget (.loc c) A.d S = .ok d S := by
  unfold gDget
  simp only [h, keyOf_kd]
  have ho : hom (kk A :: Ks.map kk) = true := by
    unfold hom
    rw [List.all_cons, kk_tup, kks_tup]; rfl
  rw [if_pos ⟨ho, by rw [kk_depth]; omega⟩, e]
theorem put_at {ds : List D} {c : Nat} {d : D} {fo fi fv : FE} {ρ : FEnv} {S1 : Store} (hv : fv ρ S = .ok d S1) (ho : fo ρ S1 = .ok (.loc c) S1) (hi : fi ρ S1 = .ok A.d S1) (h : S1[c]? = some (.dct (Ks.map kk) ds)) (hd : A.dep ≤ 7) (hn : A ∉ Ks) (hl : Ks.length ≤ 10000) :
    sDput fo fi fv ρ S = .nx ρ (S1.set c (.dct ((Ks ++ [A]).map kk) (ds ++ [d]))) := by
  have h8 : sizeLine = 16777216 := rfl
  unfold sDput
  rw [hv, toS_ok, ho, toS_ok, hi, toS_ok]
  simp only [h, keyOf_kd]
  rw [if_pos ⟨kk_tup A, kks_tup Ks, by rw [kk_depth]; omega, fun q => hn (kk_mem.mp q), by rw [List.length_map]; omega⟩, List.map_append]
  rfl
theorem get_place {c j : Nat} {w : NestedKey} (h : S[c]? = some (.dct (wlk z A) (nums (wlk z A).length))) (hd : A.dep ≤ 7) (e : (wlk z A).idxOf? w = some j) : gDget (.loc c) (kD w) S = .ok (.int (j : Int)) S := by
  have hw : w ∈ wlk z A := by
    apply Classical.byContradiction
    intro hn
    have : (wlk z A).idxOf? w = none := by simpa using hn
    rw [this] at e; cases e
  unfold gDget
  simp only [h, keyOf_kD]
  have ho : hom (w :: wlk z A) = true := by
    unfold hom
    rw [Bool.or_eq_true, List.all_eq_true, List.all_eq_true]
    have key : ∀ {p : NestedKey → Bool}, (∀ v ∈ wlk z A, p v = true) → ∀ v ∈ w :: wlk z A, p v = true := fun hp v hv => by
      rcases List.mem_cons.mp hv with rfl | hv
      · exact hp _ hw
      · exact hp v hv
    rcases wlk_hom (z := z) A with q | q
    · exact .inl (key q)
    · exact .inr (key q)
  rw [if_pos ⟨ho, by have := wlk_depth hw; omega⟩, nums_range', dAt_nums e, Nat.zero_add]
theorem fld_lists {T : Store} : gFld ["Reckoner"] "lists" (rck x a b) T = .ok (.loc a) T := gFld_at (by simp) (by simp [lookF])
theorem fld_spots {T : Store} : gFld ["Reckoner"] "spots" (rck x a b) T = .ok (.loc b) T := gFld_at (by simp) (by simp [lookF])
theorem fld_sizes {T : Store} : gFld ["Reckoner"] "sizes" (rck x a b) T = .ok x T := gFld_at (by simp) (by simp [lookF])
theorem all_of_ok (g : GoodU z U) (h : Rk z U x a b Ks S) (hA : A ∈ U) {n : Nat} (hn : 20 ≤ n) : ∃ Ks' S', ev n .f_Reckoner_all_of [rck x a b, A.d] S = .ok (.lst (wl z A)) S' ∧ Rk z U x a b Ks' S' ∧ Gx a b S S' ∧ A ∈ Ks' := by
  have h8 : sizeLine = 16777216 := rfl
  obtain ⟨m, rfl, h'⟩ := up (d := 19) hn
  obtain ⟨ht, h5, hd, hk⟩ := g.ok A hA
  have hl := h.len g
  have en := not_listed h.la hd
  by_cases hm : A ∈ Ks
  · rw [decide_eq_true hm] at en
    have eg := get_at h.la hd (dAt_map (f := fun K => .lst (wl z K)) hm)
    refine ⟨Ks, S, ?_, h, Gx.refl, hm⟩
    have fl := fun T => fld_lists (x := x) (a := a) (b := b) (T := T)
    rw [ev, b_Reckoner_all_of]
    generalize rck x a b = R at *
    generalize A.d = X at *
    generalize wl z A = L at *
    simp [fl, en, eg]
  · rw [decide_eq_false hm] at en
    have ew := rworths_ok h g hA (n := m) (by omega)
    obtain ⟨cs, lb, lc, hc⟩ := h.lb
    have ha := lt_at h.la
    have hb := lt_at lb
    -- the list is kept
    let S1 : Store := S.set a (.dct ((Ks ++ [A]).map kk) ((Ks ++ [A]).map fun K => .lst (wl z K)))
    have e1 : sDput (f1 (gFld ["Reckoner"] "lists") (fVar 0)) (fVar 1) (fArg (ev m .f_worths) (fCons (fVar 1) (fCons (f1 (gFld ["Reckoner"] "sizes") (fVar 0)) fNil))) [some (rck x a b), some A.d, none, none] S = .nx [some (rck x a b), some A.d, none, none] S1 := by
      have fs := fld_sizes (x := x) (a := a) (b := b) (T := S)
      have fl := fld_lists (x := x) (a := a) (b := b) (T := S)
      have hfv : fArg (ev m .f_worths) (fCons (fVar 1) (fCons (f1 (gFld ["Reckoner"] "sizes") (fVar 0)) fNil)) [some (rck x a b), some A.d, none, none] S = .ok (.lst (wl z A)) S := by
        generalize rck x a b = R at *
        generalize A.d = X at *
        generalize wl z A = L at *
        simp [fs, ew]
      have hfo : f1 (gFld ["Reckoner"] "lists") (fVar 0) [some (rck x a b), some A.d, none, none] S = .ok (.loc a) S := by
        generalize rck x a b = R at *
        simp [fl]
      have := put_at (S := S) (S1 := S) (c := a) (d := .lst (wl z A)) (fo := f1 (gFld ["Reckoner"] "lists") (fVar 0)) (fi := fVar 1) (ρ := [some (rck x a b), some A.d, none, none]) hfv hfo rfl h.la hd hm hl
      rw [this]
      simp only [S1, List.map_append, List.map_cons, List.map_nil]
    have l1 : S1.length = S.length := by simp [S1]
    have a1 : S1[a]? = some (.dct ((Ks ++ [A]).map kk) ((Ks ++ [A]).map fun K => .lst (wl z K))) := by simp [S1, ha]
    have o1 : ∀ i, i ≠ a → S1[i]? = S[i]? := fun i hi => List.getElem?_set_ne (Ne.symm hi)
    have eg : gDget (.loc a) A.d S1 = .ok (.lst (wl z A)) S1 := get_at a1 hd (dAt_map (f := fun K => .lst (wl z K)) (by simp))
    -- the places
    have nd := wlk_nodup z A
    have wlen := wlk_len h.szs.ok A h5
    have dd := dct_enum (ρ0 := some (rck x a b)) (ρ1 := some A.d) (S := S1) (wlk z A) 0 [] [] (by
      unfold hom
      rw [Bool.or_eq_true, List.all_eq_true, List.all_eq_true]
      simpa using wlk_hom (z := z) A) (by simpa using nd) (fun w hw => by have := wlk_depth hw; omega) (by simp; omega)
    rw [wlk_map] at dd
    let S2 : Store := S1 ++ [.dct (wlk z A) (nums (wlk z A).length)]
    have e2 : fDc (fiE (fCons (f2 gDget (f1 (gFld ["Reckoner"] "lists") (fVar 0)) (fVar 1)) fNil)) (gTu 2 (gsCons (gN 2) (gsCons (gN 3) gsNil))) (fVar 3) (fVar 2) [2, 3] [some (rck x a b), some A.d, none, none] S1 = .ok (.loc S.length) S2 := by
      have fl := fld_lists (x := x) (a := a) (b := b) (T := S1)
      have it : fiE (fCons (f2 gDget (f1 (gFld ["Reckoner"] "lists") (fVar 0)) (fVar 1)) fNil) [some (rck x a b), some A.d, none, none] S1 = .ok (enumD 0 (wl z A), none) S1 := by
        have ea : fCons (f2 gDget (f1 (gFld ["Reckoner"] "lists") (fVar 0)) (fVar 1)) fNil [some (rck x a b), some A.d, none, none] S1 = .ok [.lst (wl z A)] S1 := by
          generalize rck x a b = R at *
          generalize A.d = X at *
          generalize wl z A = L at *
          simp [fl, eg]
        unfold fiE
        rw [ea]; rfl
      unfold fDc
      rw [it, bnd_ok]
      show dctFin (dctL _ _ _ none [some (rck x a b), some A.d, none, none] (enumD 0 (wl z A)) [] [] S1) = _
      rw [dd, dctFin, l1]
      simp only [S2, nums_range', List.nil_append]
    have l2 : S2.length = S.length + 1 := by simp [S2, l1]
    have o2 : ∀ i, i < S.length → S2[i]? = S1[i]? := fun i hi => List.getElem?_append_left (by rw [l1]; exact hi)
    have n2 : S2[S.length]? = some (.dct (wlk z A) (nums (wlk z A).length)) := by
      show (S1 ++ _)[S.length]? = _
      rw [List.getElem?_append_right (by rw [l1]; exact Nat.le_refl _), l1, Nat.sub_self]; rfl
    have b2 : S2[b]? = some (.dct (Ks.map kk) (cs.map .loc)) := by rw [o2 b hb, o1 b (Ne.symm h.ab)]; exact lb
    let S3 : Store := S2.set b (.dct ((Ks ++ [A]).map kk) ((cs ++ [S.length]).map .loc))
    have e3 : sDput (f1 (gFld ["Reckoner"] "spots") (fVar 0)) (fVar 1) (fDc (fiE (fCons (f2 gDget (f1 (gFld ["Reckoner"] "lists") (fVar 0)) (fVar 1)) fNil)) (gTu 2 (gsCons (gN 2) (gsCons (gN 3) gsNil))) (fVar 3) (fVar 2) [2, 3]) [some (rck x a b), some A.d, none, none] S1 = .nx [some (rck x a b), some A.d, none, none] S3 := by
      have fl := fld_spots (x := x) (a := a) (b := b) (T := S2)
      have hfo : f1 (gFld ["Reckoner"] "spots") (fVar 0) [some (rck x a b), some A.d, none, none] S2 = .ok (.loc b) S2 := by
        generalize rck x a b = R at *
        simp [fl]
      have := put_at (S := S1) (S1 := S2) (c := b) (d := .loc S.length) (fo := f1 (gFld ["Reckoner"] "spots") (fVar 0)) (fi := fVar 1) (ρ := [some (rck x a b), some A.d, none, none]) e2 hfo rfl b2 hd hm hl
      rw [this]
      simp only [S3, List.map_append, List.map_cons, List.map_nil]
    have l3 : S3.length = S.length + 1 := by simp [S3, l2]
    have o3 : ∀ i, i ≠ b → S3[i]? = S2[i]? := fun i hi => List.getElem?_set_ne (Ne.symm hi)
    have a3 : S3[a]? = some (.dct ((Ks ++ [A]).map kk) ((Ks ++ [A]).map fun K => .lst (wl z K))) := by rw [o3 a h.ab, o2 a ha]; exact a1
    have b3 : S3[b]? = some (.dct ((Ks ++ [A]).map kk) ((cs ++ [S.length]).map .loc)) := by
      show (S2.set b _)[b]? = _
      rw [List.getElem?_set_self (by rw [l2]; omega)]
    have eg3 : gDget (.loc a) A.d S3 = .ok (.lst (wl z A)) S3 := get_at a3 hd (dAt_map (f := fun K => .lst (wl z K)) (by simp))
    have keep : ∀ i, i < S.length → i ≠ a → i ≠ b → S3[i]? = S[i]? := fun i hi h1 h2 => by rw [o3 i h2, o2 i hi, o1 i h1]
    refine ⟨Ks ++ [A], S3, ?_, ⟨?_, a3, ⟨cs ++ [S.length], b3, by simp [lc], fun i K c hi hci => ?_⟩, ?_, fun K hK => ?_, h.ab⟩, ⟨by omega, keep⟩, by simp⟩
    · have fl := fun T => fld_lists (x := x) (a := a) (b := b) (T := T)
      rw [ev, b_Reckoner_all_of, fnB_2]
      show RS.fin (sSeq _ _ [some (rck x a b), some A.d, none, none] S) = _
      have ei : sIf (fB (f2 gDnot (fVar 1) (f1 (gFld ["Reckoner"] "lists") (fVar 0)))) (sSeq (sDput (f1 (gFld ["Reckoner"] "lists") (fVar 0)) (fVar 1) (fArg (ev m .f_worths) (fCons (fVar 1) (fCons (f1 (gFld ["Reckoner"] "sizes") (fVar 0)) fNil)))) (sDput (f1 (gFld ["Reckoner"] "spots") (fVar 0)) (fVar 1) (fDc (fiE (fCons (f2 gDget (f1 (gFld ["Reckoner"] "lists") (fVar 0)) (fVar 1)) fNil)) (gTu 2 (gsCons (gN 2) (gsCons (gN 3) gsNil))) (fVar 3) (fVar 2) [2, 3]))) sNil [some (rck x a b), some A.d, none, none] S = .nx [some (rck x a b), some A.d, none, none] S3 := by
        have et : fB (f2 gDnot (fVar 1) (f1 (gFld ["Reckoner"] "lists") (fVar 0))) [some (rck x a b), some A.d, none, none] S = .ok true S := by
          have f0 := fl S
          generalize rck x a b = R at *
          generalize A.d = X at *
          simp [f0, en]
        rw [sIf_ap, et, toS_ok, if_pos rfl, sSeq_ap, e1, sb_nx, e3]
      rw [sSeq_ap, ei, sb_nx]
      have f3 := fl S3
      generalize rck x a b = R at *
      generalize A.d = X at *
      generalize wl z A = L at *
      simp [f3, eg3]
    · obtain ⟨ns, ok, ez, ex⟩ := h.sz
      refine ⟨ns, ok, ez, ?_⟩
      rcases ex with rfl | ⟨v, rfl, at_⟩
      · exact .inl rfl
      · refine .inr ⟨v, rfl, ?_⟩
        rw [keep v (lt_at at_) (fun q => by subst q; rw [h.la] at at_; cases at_) (fun q => by subst q; rw [lb] at at_; cases at_)]
        exact at_
    · by_cases hlt : i < Ks.length
      · rw [List.getElem?_append_left hlt] at hi
        rw [List.getElem?_append_left (by omega)] at hci
        obtain ⟨c1, c2, c3⟩ := hc i K c hi hci
        exact ⟨c1, c2, by rw [keep c (lt_at c3) c1 c2]; exact c3⟩
      · rw [List.getElem?_append_right (by omega)] at hi
        rw [List.getElem?_append_right (by omega), lc] at hci
        cases hj : i - Ks.length with
        | zero =>
          rw [hj] at hi hci
          simp at hi hci
          subst hi hci
          exact ⟨by omega, by omega, by rw [o3 _ (by omega)]; exact n2⟩
        | succ j => rw [hj] at hi; simp at hi
    · rw [List.nodup_append]
      refine ⟨h.nd, by simp, fun K hK K' hK' e => hm ?_⟩
      have : K' = A := by simpa using hK'
      rw [← this, ← e]; exact hK
    · rcases List.mem_append.mp hK with hK | hK
      · exact h.sub K hK
      · have : K = A := by simpa using hK
        exact this ▸ hA
/-- where a listed kind's worths have their places -/
theorem Rk.spot (h : Rk z U x a b Ks S) (g : GoodU z U) (hm : A ∈ Ks) : ∃ c, gDget (.loc b) A.d S = .ok (.loc c) S ∧ S[c]? = some (.dct (wlk z A) (nums (wlk z A).length)) := by
  obtain ⟨cs, lb, lc, hc⟩ := h.lb
  obtain ⟨i, hi⟩ := List.mem_iff_getElem?.mp hm
  have hlt := (List.getElem?_eq_some_iff.mp hi).1
  have hci : cs[i]? = some cs[i] := List.getElem?_eq_getElem (by omega)
  obtain ⟨_, _, c3⟩ := hc i A _ hi hci
  refine ⟨cs[i], get_at lb (g.ok A (h.sub A hm)).2.2.1 (dAt_at h.nd hi (by rw [List.getElem?_map, hci]; rfl)), c3⟩
end
end Kz
namespace Kz
open PySem PySem.Spec PyProof.Rows L2 Kw
section
variable {z : Nat → Nat} {U : List Kd} {x : D} {a b : Nat} {S : Store}
theorem held_ok (hu : (rck x a b).under S.length = true) : ∀ (K : Kd) {w : NestedKey} {v : Rv} {n : Nat}, hld K w = some v → K.dep + 3 ≤ n → ev n .f_Reckoner_held [rck x a b, K.d, kD w] S = .ok (v.d (rck x a b)) S := by
  have h8 : sizeLine = 16777216 := rfl
  have dr := fun F => disp_rck (m := "held") (F := F) (x := x) (a := a) (b := b) (by decide)
  intro K
  induction K with
  | base i =>
    intro w v n h hn
    obtain ⟨m, rfl⟩ : ∃ m, n = m + 2 := ⟨n - 2, by omega⟩
    cases w <;> simp [hld] at h
    subst h
    rw [ev, b_Reckoner_held]
    simp [Kd.d, Rv.d, kD]
  | unit =>
    intro w v n h hn
    obtain ⟨m, rfl⟩ : ∃ m, n = m + 2 := ⟨n - 2, by omega⟩
    cases w with
    | tup ws =>
      cases ws <;> simp [hld] at h
      subst h
      rw [ev, b_Reckoner_held]
      simp [Kd.d, Rv.d, kD, kDs]
    | _ => simp [hld] at h
  | both A B iA iB =>
    intro w v n h hn
    simp only [Kd.dep] at hn
    obtain ⟨m, rfl⟩ : ∃ m, n = m + 2 := ⟨n - 2, by omega⟩
    cases w with
    | tup ws =>
      match ws, h with
      | [p, q], h =>
        simp only [hld, Option.bind_eq_some_iff, Option.some.injEq] at h
        obtain ⟨va, h1, vb, h2, rfl⟩ := h
        have e1 := iA (n := m + 1) h1 (by omega)
        have e2 := iB (n := m + 1) h2 (by omega)
        rw [ev, b_Reckoner_held]
        simp only [Kd.d, Rv.d, kD, kDs]
        generalize rck x a b = R at *
        generalize A.d = XA at *
        generalize B.d = XB at *
        generalize kD p = Y1 at *
        generalize kD q = Y2 at *
        simp [dr, e1, e2, h8]
      | [], h => simp [hld] at h
      | [_], h => simp [hld] at h
      | _ :: _ :: _ :: _, h => simp [hld] at h
    | _ => simp [hld] at h
  | frm A B _ _ =>
    intro w v n h hn
    obtain ⟨m, rfl⟩ : ∃ m, n = m + 2 := ⟨n - 2, by omega⟩
    cases w with
    | tup ws =>
      simp only [hld, Option.some.injEq] at h
      subst h
      have e := mk_told (S := S) (n := m) (R := rck x a b) (t := (Kd.frm A B).d) (e := .tup (ws.map kD)) (by omega) (by simp [underL, hu, keyOf_under _ (keyOf_kd (.frm A B)), D.under, undL_kD])
      rw [ev, b_Reckoner_held]
      simp only [Kd.d, Rv.d, kD, kDs_map] at e ⊢
      generalize rck x a b = R at *
      generalize A.d = XA at *
      generalize B.d = XB at *
      generalize ws.map kD = Y at *
      simp [e]
    | _ => simp [hld] at h
theorem seqO_zip {α β : Type} {F : α → Option β} : ∀ {ws : List α} {vs : List β}, seqO (ws.map F) = some vs → ∃ l : List (α × β), l.map (·.1) = ws ∧ l.map (·.2) = vs ∧ ∀ p ∈ l, F p.1 = some p.2
  | [], vs, h => by
    simp [seqO] at h
    subst h
    exact ⟨[], rfl, rfl, fun p hp => nomatch hp⟩
  | w :: ws, vs, h => by
    rw [List.map_cons, seqO] at h
    simp only [Option.bind_eq_some_iff, Option.some.injEq] at h
    obtain ⟨v, h1, l, h2, rfl⟩ := h
    obtain ⟨q, q1, q2, q3⟩ := seqO_zip h2
    exact ⟨(w, v) :: q, by simp [q1], by simp [q2], fun p hp => by
      rcases List.mem_cons.mp hp with rfl | hp
      · exact h1
      · exact q3 p hp⟩
/-- a comprehension whose calls may change cells -/
theorem compL_thr {i : Nat} {te : FE} {ρ : FEnv} {I : Store → Prop} : ∀ (l : List (D × D)) (acc : List D) (S : Store), I S → acc.length + l.length ≤ 10000 → (∀ p ∈ l, ∀ T, I T → ∃ T', te (ρ.set i (some p.1)) T = .ok p.2 T' ∧ I T') →
    ∃ S', compL (gN i) fYes te none ρ (l.map (·.1)) acc S = .ok (acc ++ l.map (·.2)) S' ∧ I S'
  | [], acc, S, hI, _, _ => ⟨S, by rw [List.map_nil, compL_nil (by unfold gd; trivial)]; simp, hI⟩
  | p :: l, acc, S, hI, hl, h => by
    have h8 : sizeLine = 16777216 := rfl
    rw [List.length_cons] at hl
    obtain ⟨T', e, hT⟩ := h p List.mem_cons_self S hI
    obtain ⟨S', e2, hS⟩ := compL_thr (i := i) (te := te) (ρ := ρ) (I := I) l (acc ++ [p.2]) T' hT (by simp; omega) fun q hq => h q (List.mem_cons_of_mem _ hq)
    refine ⟨S', ?_, hS⟩
    rw [List.map_cons, compL_step (ρ1 := ρ.set i (some p.1)) (S1 := S) (S2 := S) (S3 := T') (y := p.2) (by unfold gd; trivial) rfl rfl e (by omega), e2]
    simp
end
/-- a Told or a Made -/
noncomputable def hdF (n : Nat) : Rv → FF
  | .told _ _ _ => ev n .f_Told_handed
  | _ => ev n .f_Made_handed
def isFn : Rv → Bool
  | .told _ _ _ => true
  | .made _ _ => true
  | _ => false
theorem disp_fn {n : Nat} {R : D} {u : Rv} (h : isFn u = true) : disR [("Told", ev n .f_Told_handed), ("Made", ev n .f_Made_handed)] "handed" (u.d R) = some (hdF n u) := by
  cases u <;> simp [isFn] at h
  · simp [Rv.d, disR, hdF, List.lookup]
  · simp [Rv.d, disR, hdF, List.lookup]
theorem hwn_fn {z : Nat → Nat} {U : List Kd} {f : Nat} {u y v : Rv} (h : hwn z U f u y = some v) : isFn u = true := by
  cases f with
  | zero => simp [hwn] at h
  | succ f => cases u <;> simp [hwn, isFn] at h ⊢
section
variable {z : Nat → Nat} {U : List Kd} {x : D} {a b : Nat}
/-- the cells go on -/
def Go (z : Nat → Nat) (U : List Kd) (x : D) (a b : Nat) (S0 S : Store) : Prop := Gx a b S0 S ∧ ∃ Ks, Rk z U x a b Ks S
mutual
theorem worked_ok (g : GoodU z U) {S0 : Store} : ∀ (f : Nat) (t : Tm) (env : Rs) (v : Rv), wrk z U f t env = some v → ∀ {n : Nat} {S : Store}, Go z U x a b S0 S → f + 25 ≤ n → ∃ S', ev n .f_Reckoner_worked [rck x a b, t.d, .lst (env.ds (rck x a b))] S = .ok (v.d (rck x a b)) S' ∧ Go z U x a b S0 S'
  | 0, _, _, _, h, _, _, _, _ => by simp [wrk] at h
  | f + 1, .giv k, env, v, h, n, S, hS, hn => by
    obtain ⟨m, rfl⟩ : ∃ m, n = m + 2 := ⟨n - 2, by omega⟩
    rw [wrk] at h
    have e := Rs.ds_at (rck x a b) h
    refine ⟨S, ?_, hS⟩
    rw [ev, b_Reckoner_worked]
    simp [Tm.d, e]
  | f + 1, .unit, env, v, h, n, S, hS, hn => by
    have h8 : sizeLine = 16777216 := rfl
    obtain ⟨m, rfl⟩ : ∃ m, n = m + 2 := ⟨n - 2, by omega⟩
    rw [wrk] at h
    cases h
    refine ⟨S, ?_, hS⟩
    rw [ev, b_Reckoner_worked]
    simp [Tm.d, Rv.d, h8]
  | f + 1, .mk A t, env, v, h, n, S, hS, hn => by
    obtain ⟨m, rfl⟩ : ∃ m, n = m + 2 := ⟨n - 2, by omega⟩
    rw [wrk] at h
    cases h
    obtain ⟨gx, Ks, hk⟩ := hS
    have hR := hk.und
    have hu := und_rv hR (.made t env)
    simp only [Rv.d, D.under] at hu
    have e := mk_made (S := S) (n := m) (R := rck x a b) (t := t.d) (e := .lst (env.ds (rck x a b))) (by omega) hu
    refine ⟨S, ?_, gx, Ks, hk⟩
    rw [ev, b_Reckoner_worked]
    simp only [Tm.d, Rv.d]
    generalize rck x a b = R at *
    generalize A.d = XA at *
    generalize t.d = XT at *
    generalize env.ds R = E at *
    simp [e]
  | f + 1, .app s t, env, v, h, n, S, hS, hn => by
    obtain ⟨m, rfl⟩ : ∃ m, n = m + 2 := ⟨n - 2, by omega⟩
    rw [wrk] at h
    simp only [Option.bind_eq_some_iff] at h
    obtain ⟨u, h1, y, h2, h3⟩ := h
    obtain ⟨S1, e1, g1⟩ := worked_ok g f s env u h1 (n := m + 1) hS (by omega)
    obtain ⟨S2, e2, g2⟩ := worked_ok g f t env y h2 (n := m + 1) g1 (by omega)
    obtain ⟨S3, e3, g3⟩ := handedR_ok g f u y v h3 (n := m + 1) g2 (by omega)
    have dp := disp_fn (n := m + 1) (R := rck x a b) (hwn_fn h3)
    have dr := fun F => disp_rck (m := "worked") (F := F) (x := x) (a := a) (b := b) (by decide)
    refine ⟨S3, ?_, g3⟩
    rw [ev, b_Reckoner_worked]
    simp only [Tm.d]
    generalize rck x a b = R at *
    generalize s.d = XS at *
    generalize t.d = XT at *
    generalize env.ds R = E at *
    simp [e1, e2, e3, dp, dr]
  | f + 1, .both s t, env, v, h, n, S, hS, hn => by
    have h8 : sizeLine = 16777216 := rfl
    obtain ⟨m, rfl⟩ : ∃ m, n = m + 2 := ⟨n - 2, by omega⟩
    rw [wrk] at h
    simp only [Option.bind_eq_some_iff] at h
    obtain ⟨u, h1, y, h2, h3⟩ := h
    cases h3
    obtain ⟨S1, e1, g1⟩ := worked_ok g f s env u h1 (n := m + 1) hS (by omega)
    obtain ⟨S2, e2, g2⟩ := worked_ok g f t env y h2 (n := m + 1) g1 (by omega)
    have dr := fun F => disp_rck (m := "worked") (F := F) (x := x) (a := a) (b := b) (by decide)
    refine ⟨S2, ?_, g2⟩
    rw [ev, b_Reckoner_worked]
    simp only [Tm.d, Rv.d]
    generalize rck x a b = R at *
    generalize s.d = XS at *
    generalize t.d = XT at *
    generalize env.ds R = E at *
    simp [e1, e2, dr, h8]
  | f + 1, .fst s, env, v, h, n, S, hS, hn => by
    obtain ⟨m, rfl⟩ : ∃ m, n = m + 2 := ⟨n - 2, by omega⟩
    rw [wrk] at h
    simp only [Option.bind_eq_some_iff] at h
    obtain ⟨u, h1, h2⟩ := h
    obtain ⟨S1, e1, g1⟩ := worked_ok g f s env u h1 (n := m + 1) hS (by omega)
    have dr := fun F => disp_rck (m := "worked") (F := F) (x := x) (a := a) (b := b) (by decide)
    split at h2
    · cases h2
      refine ⟨S1, ?_, g1⟩
      rw [ev, b_Reckoner_worked]
      simp only [Tm.d]
      simp only [Rv.d] at e1
      generalize rck x a b = R at *
      generalize s.d = XS at *
      generalize env.ds R = E at *
      simp [e1, dr]
    · cases h2
  | f + 1, .snd s, env, v, h, n, S, hS, hn => by
    obtain ⟨m, rfl⟩ : ∃ m, n = m + 2 := ⟨n - 2, by omega⟩
    rw [wrk] at h
    simp only [Option.bind_eq_some_iff] at h
    obtain ⟨u, h1, h2⟩ := h
    obtain ⟨S1, e1, g1⟩ := worked_ok g f s env u h1 (n := m + 1) hS (by omega)
    have dr := fun F => disp_rck (m := "worked") (F := F) (x := x) (a := a) (b := b) (by decide)
    split at h2
    · cases h2
      refine ⟨S1, ?_, g1⟩
      rw [ev, b_Reckoner_worked]
      simp only [Tm.d]
      simp only [Rv.d] at e1
      generalize rck x a b = R at *
      generalize s.d = XS at *
      generalize env.ds R = E at *
      simp [e1, dr]
    · cases h2
theorem handedR_ok (g : GoodU z U) {S0 : Store} : ∀ (f : Nat) (u y v : Rv), hwn z U f u y = some v → ∀ {n : Nat} {S : Store}, Go z U x a b S0 S → f + 25 ≤ n → ∃ S', hdF n u [u.d (rck x a b), y.d (rck x a b)] S = .ok (v.d (rck x a b)) S' ∧ Go z U x a b S0 S'
  | 0, _, _, _, h, _, _, _, _ => by simp [hwn] at h
  | f + 1, .made t env, y, v, h, n, S, hS, hn => by
    have h8 : sizeLine = 16777216 := rfl
    obtain ⟨m, rfl⟩ : ∃ m, n = m + 1 := ⟨n - 1, by omega⟩
    rw [hwn] at h
    split at h
    · rename_i hl
      obtain ⟨S1, e, g1⟩ := worked_ok g f t (.snoc env y) v h (n := m) hS (by omega)
      simp only [Rs.ds] at e
      have ll : (env.ds (rck x a b)).length + 1 ≤ 16777216 := by rw [Rs.ds_len]; omega
      have dr := fun F => disp_rck (m := "worked") (F := F) (x := x) (a := a) (b := b) (by decide)
      refine ⟨S1, ?_, g1⟩
      show ev (m + 1) .f_Made_handed _ S = _
      rw [ev, b_Made_handed]
      have g0 : ∀ T : Store, gFld ["Told", "Made"] "reckoner" ((Rv.made t env).d (rck x a b)) T = .ok (rck x a b) T := fun T => by rw [Rv.d]; exact gFld_at (by simp) (by simp [lookF])
      have g1 : ∀ T : Store, gFld ["Made"] "body" ((Rv.made t env).d (rck x a b)) T = .ok t.d T := fun T => by rw [Rv.d]; exact gFld_at (by simp) (by simp [lookF])
      have g2 : ∀ T : Store, gFld ["Made"] "things" ((Rv.made t env).d (rck x a b)) T = .ok (.lst (env.ds (rck x a b))) T := fun T => by rw [Rv.d]; exact gFld_at (by simp) (by simp [lookF])
      generalize (Rv.made t env).d (rck x a b) = L at *
      generalize y.d (rck x a b) = Y at *
      generalize v.d (rck x a b) = V at *
      generalize env.ds (rck x a b) = E at *
      generalize rck x a b = R at *
      generalize t.d = XT at *
      simp [g0, g1, g2, h8, ll, e, dr]
    · cases h
  | f + 1, .told A B ws, y, v, h, n, S, hS, hn => by
    have h8 : sizeLine = 16777216 := rfl
    obtain ⟨m, rfl⟩ : ∃ m, n = m + 1 := ⟨n - 1, by omega⟩
    rw [hwn] at h
    split at h
    · rename_i hAB
      have hA := hAB.1
      have hB := hAB.2
      simp only [Option.bind_eq_some_iff] at h
      obtain ⟨w, h1, j, h2, wj, h3, h4⟩ := h
      obtain ⟨S1, e1, g1⟩ := toldR_ok g f A y w h1 (n := m) hS (by omega)
      obtain ⟨gx1, Ks1, k1⟩ := g1
      obtain ⟨Ks2, S2, e2, k2, gx2, hm⟩ := all_of_ok g k1 hA (n := m) (by omega)
      obtain ⟨c, e3, hc⟩ := k2.spot g hm
      have e4 := get_place hc (g.ok A hA).2.2.1 h2
      have e5 : gIx (.tup (ws.map kD)) (.int (j : Int)) S2 = .ok (kD wj) S2 := by
        rw [gIx_tup, ixR_nat, List.getElem?_map, h3]; rfl
      have e6 : ev m .f_Reckoner_held [rck x a b, B.d, kD wj] S2 = .ok (v.d (rck x a b)) S2 := held_ok k2.und B h4 (by omega)
      have dr1 := fun F => disp_rck (m := "told") (F := F) (x := x) (a := a) (b := b) (by decide)
      have dr2 := fun F => disp_rck (m := "all_of") (F := F) (x := x) (a := a) (b := b) (by decide)
      have dr3 := fun F => disp_rck (m := "held") (F := F) (x := x) (a := a) (b := b) (by decide)
      have fs := fun T => fld_spots (x := x) (a := a) (b := b) (T := T)
      refine ⟨S2, ?_, gx1.trans gx2, Ks2, k2⟩
      show ev (m + 1) .f_Told_handed _ S = _
      have g0 : ∀ T : Store, gFld ["Told", "Made"] "reckoner" ((Rv.told A B ws).d (rck x a b)) T = .ok (rck x a b) T := fun T => by rw [Rv.d]; exact gFld_at (by simp) (by simp [lookF])
      have g1 : ∀ T : Store, gFld ["Told"] "kind" ((Rv.told A B ws).d (rck x a b)) T = .ok (.tup [.str "from", A.d, B.d]) T := fun T => by rw [Rv.d]; exact gFld_at (by simp) (by simp [lookF, Kd.d])
      have g2 : ∀ T : Store, gFld ["Told"] "worth" ((Rv.told A B ws).d (rck x a b)) T = .ok (.tup (ws.map kD)) T := fun T => by rw [Rv.d]; exact gFld_at (by simp) (by simp [lookF])
      rw [ev, b_Told_handed]
      generalize (Rv.told A B ws).d (rck x a b) = L at *
      generalize y.d (rck x a b) = Y at *
      generalize v.d (rck x a b) = V at *
      generalize rck x a b = R at *
      generalize A.d = XA at *
      generalize B.d = XB at *
      generalize ws.map kD = WS at *
      generalize kD w = W at *
      generalize kD wj = WJ at *
      generalize wl z A = WL at *
      generalize (j : Int) = J at *
      simp [g0, g1, g2, fs, dr1, dr2, dr3, e1, e2, e3, e4, e5, e6]
    · cases h
  | f + 1, .num c, _, v, h, n, S, hS, hn => by simp [hwn] at h
  | f + 1, .unit, _, v, h, n, S, hS, hn => by simp [hwn] at h
  | f + 1, .pair _ _, _, v, h, n, S, hS, hn => by simp [hwn] at h
theorem toldR_ok (g : GoodU z U) {S0 : Store} : ∀ (f : Nat) (K : Kd) (v : Rv) (w : NestedKey), tlv z U f K v = some w → ∀ {n : Nat} {S : Store}, Go z U x a b S0 S → f + 25 ≤ n → ∃ S', ev n .f_Reckoner_told [rck x a b, K.d, v.d (rck x a b)] S = .ok (kD w) S' ∧ Go z U x a b S0 S'
  | 0, _, _, _, h, _, _, _, _ => by simp [tlv] at h
  | f + 1, .base i, v, w, h, n, S, hS, hn => by
    obtain ⟨m, rfl⟩ : ∃ m, n = m + 1 := ⟨n - 1, by omega⟩
    simp only [tlv] at h
    split at h
    · cases h
      refine ⟨S, ?_, hS⟩
      rw [ev, b_Reckoner_told]
      simp [Kd.d, Rv.d, kD]
    · cases h
  | f + 1, .unit, v, w, h, n, S, hS, hn => by
    obtain ⟨m, rfl⟩ : ∃ m, n = m + 1 := ⟨n - 1, by omega⟩
    simp only [tlv] at h
    split at h
    · cases h
      refine ⟨S, ?_, hS⟩
      rw [ev, b_Reckoner_told]
      simp [Kd.d, Rv.d, kD, kDs]
    · cases h
  | f + 1, .both A B, v, w, h, n, S, hS, hn => by
    have h8 : sizeLine = 16777216 := rfl
    obtain ⟨m, rfl⟩ : ∃ m, n = m + 1 := ⟨n - 1, by omega⟩
    simp only [tlv] at h
    split at h
    · rename_i p q
      simp only [Option.bind_eq_some_iff, Option.some.injEq] at h
      obtain ⟨s, h1, t, h2, rfl⟩ := h
      obtain ⟨S1, e1, g1⟩ := toldR_ok g f A p s h1 (n := m) hS (by omega)
      obtain ⟨S2, e2, g2⟩ := toldR_ok g f B q t h2 (n := m) g1 (by omega)
      have dr := fun F => disp_rck (m := "told") (F := F) (x := x) (a := a) (b := b) (by decide)
      refine ⟨S2, ?_, g2⟩
      rw [ev, b_Reckoner_told]
      simp only [Kd.d, Rv.d, kD, kDs]
      generalize p.d (rck x a b) = P at *
      generalize q.d (rck x a b) = Q at *
      generalize rck x a b = R at *
      generalize A.d = XA at *
      generalize B.d = XB at *
      generalize kD s = Y1 at *
      generalize kD t = Y2 at *
      simp [e1, e2, dr, h8]
    · cases h
  | f + 1, .frm A B, v, w, h, n, S, hS, hn => by
    have h8 : sizeLine = 16777216 := rfl
    obtain ⟨m, rfl⟩ : ∃ m, n = m + 1 := ⟨n - 1, by omega⟩
    simp only [tlv] at h
    split at h
    · rename_i hA
      simp only [Option.bind_eq_some_iff, Option.some.injEq] at h
      obtain ⟨vs, h1, ws, h2, rfl⟩ := h
      obtain ⟨gx, Ks, hk⟩ := hS
      obtain ⟨_, h5, hdA, _⟩ := g.ok A hA
      have wlen := wlk_len hk.szs.ok A h5
      obtain ⟨Ks1, S1, e1, k1, gx1, hm⟩ := all_of_ok g hk hA (n := m) (by omega)
      obtain ⟨l, l1, l2, l3⟩ := seqO_zip h1
      obtain ⟨r, r1, r2, r3⟩ := seqO_zip h2
      have ll : l.length = (wlk z A).length := by rw [← l1, List.length_map]
      have lr : r.length = (wlk z A).length := by rw [← ll, ← List.length_map (f := (·.1)) (as := r), r1, ← l2, List.length_map]
      have dr1 := fun F => disp_rck (m := "told") (F := F) (x := x) (a := a) (b := b) (by decide)
      have dr2 := fun F => disp_rck (m := "all_of") (F := F) (x := x) (a := a) (b := b) (by decide)
      have dr3 := fun F => disp_rck (m := "held") (F := F) (x := x) (a := a) (b := b) (by decide)
      obtain ⟨S2, e2, G2⟩ := compL_thr (i := 4) (te := fMe [("Told", ev m .f_Told_handed), ("Made", ev m .f_Made_handed)] "handed" (fVar 2) (fCons (fMe [("Reckoner", ev m .f_Reckoner_held)] "held" (fVar 0) (fCons (f2 gIx (fVar 1) (fC (.int 1))) (fCons (fVar 4) fNil))) fNil))
        (ρ := [some (rck x a b), some (Kd.frm A B).d, some (v.d (rck x a b)), none, none, none]) (I := Go z U x a b S0) (l.map fun p => (kD p.1, p.2.d (rck x a b))) [] S1 ⟨gx.trans gx1, Ks1, k1⟩ (by simp; omega) (fun p hp T hT => by
          obtain ⟨q, hq, rfl⟩ := List.mem_map.mp hp
          have h4 := l3 q hq
          simp only [Option.bind_eq_some_iff] at h4
          obtain ⟨y, hy1, hy2⟩ := h4
          obtain ⟨gxT, KT, kT⟩ := hT
          have a1 := held_ok kT.und A (n := m) hy1 (by omega)
          obtain ⟨T', a2, a3⟩ := handedR_ok g f v y q.2 hy2 (n := m) ⟨gxT, KT, kT⟩ (by omega)
          have dp := disp_fn (n := m) (R := rck x a b) (hwn_fn hy2)
          refine ⟨T', ?_, a3⟩
          simp only [Kd.d]
          generalize v.d (rck x a b) = V at *
          generalize y.d (rck x a b) = Y at *
          generalize q.2.d (rck x a b) = Q at *
          generalize rck x a b = R at *
          generalize A.d = XA at *
          generalize B.d = XB at *
          generalize kD q.1 = W at *
          simp [dp, dr3, a1, a2])
      obtain ⟨S3, e3, G3⟩ := compL_thr (i := 5) (te := fMe [("Reckoner", ev m .f_Reckoner_told)] "told" (fVar 0) (fCons (f2 gIx (fVar 1) (fC (.int 2))) (fCons (fVar 5) fNil)))
        (ρ := [some (rck x a b), some (Kd.frm A B).d, some (v.d (rck x a b)), some (.lst (vs.map (Rv.d (rck x a b)))), none, none]) (I := Go z U x a b S0) (r.map fun p => (p.1.d (rck x a b), kD p.2)) [] S2 G2 (by simp; omega) (fun p hp T hT => by
          obtain ⟨q, hq, rfl⟩ := List.mem_map.mp hp
          obtain ⟨T', a2, a3⟩ := toldR_ok g f B q.1 q.2 (r3 q hq) (n := m) hT (by omega)
          refine ⟨T', ?_, a3⟩
          simp only [Kd.d]
          generalize v.d (rck x a b) = V at *
          generalize q.1.d (rck x a b) = Q at *
          generalize vs.map (Rv.d (rck x a b)) = VS at *
          generalize rck x a b = R at *
          generalize A.d = XA at *
          generalize B.d = XB at *
          generalize kD q.2 = W at *
          simp [dr1, a2])
      have m1 : (l.map fun p => (kD p.1, p.2.d (rck x a b))).map (·.1) = wl z A := by rw [List.map_map, ← wlk_map, ← l1, List.map_map]; rfl
      have m2 : (l.map fun p => (kD p.1, p.2.d (rck x a b))).map (·.2) = vs.map (Rv.d (rck x a b)) := by rw [List.map_map, ← l2, List.map_map]; rfl
      have m3 : (r.map fun p => (p.1.d (rck x a b), kD p.2)).map (·.1) = vs.map (Rv.d (rck x a b)) := by rw [List.map_map, ← r1, List.map_map]; rfl
      have m4 : (r.map fun p => (p.1.d (rck x a b), kD p.2)).map (·.2) = ws.map kD := by rw [List.map_map, ← r2, List.map_map]; rfl
      rw [m1, m2, List.nil_append] at e2
      rw [m3, m4, List.nil_append] at e3
      refine ⟨S3, ?_, G3⟩
      have q1 : fLc false (fiL (fMe [("Reckoner", ev m .f_Reckoner_all_of)] "all_of" (fVar 0) (fCons (f2 gIx (fVar 1) (fC (.int 1))) fNil))) (gN 4) fYes (fMe [("Told", ev m .f_Told_handed), ("Made", ev m .f_Made_handed)] "handed" (fVar 2) (fCons (fMe [("Reckoner", ev m .f_Reckoner_held)] "held" (fVar 0) (fCons (f2 gIx (fVar 1) (fC (.int 1))) (fCons (fVar 4) fNil))) fNil)) [4] [some (rck x a b), some (Kd.frm A B).d, some (v.d (rck x a b)), none, none, none] S = .ok (.lst (vs.map (Rv.d (rck x a b)))) S2 := by
        have it : fiL (fMe [("Reckoner", ev m .f_Reckoner_all_of)] "all_of" (fVar 0) (fCons (f2 gIx (fVar 1) (fC (.int 1))) fNil)) [some (rck x a b), some (Kd.frm A B).d, some (v.d (rck x a b)), none, none, none] S = .ok (wl z A, none) S1 := by
          have : fMe [("Reckoner", ev m .f_Reckoner_all_of)] "all_of" (fVar 0) (fCons (f2 gIx (fVar 1) (fC (.int 1))) fNil) [some (rck x a b), some (Kd.frm A B).d, some (v.d (rck x a b)), none, none, none] S = .ok (.lst (wl z A)) S1 := by
            simp only [Kd.d]
            generalize v.d (rck x a b) = V at *
            generalize rck x a b = R at *
            generalize A.d = XA at *
            generalize B.d = XB at *
            generalize wl z A = WL at *
            simp [dr2, e1]
          unfold fiL
          rw [this]; rfl
        rw [fLc_ap, it, bnd_ok]
        show lcR false (compL _ _ _ none [some (rck x a b), some (Kd.frm A B).d, some (v.d (rck x a b)), none, none, none] (wl z A) [] S1) = _
        rw [e2]; rfl
      have q2 : fLc false (fiL (fVar 3)) (gN 5) fYes (fMe [("Reckoner", ev m .f_Reckoner_told)] "told" (fVar 0) (fCons (f2 gIx (fVar 1) (fC (.int 2))) (fCons (fVar 5) fNil))) [5] [some (rck x a b), some (Kd.frm A B).d, some (v.d (rck x a b)), some (.lst (vs.map (Rv.d (rck x a b)))), none, none] S2 = .ok (.lst (ws.map kD)) S3 := by
        have it : fiL (fVar 3) [some (rck x a b), some (Kd.frm A B).d, some (v.d (rck x a b)), some (.lst (vs.map (Rv.d (rck x a b)))), none, none] S2 = .ok (vs.map (Rv.d (rck x a b)), none) S2 := rfl
        rw [fLc_ap, it, bnd_ok]
        show lcR false (compL _ _ _ none [some (rck x a b), some (Kd.frm A B).d, some (v.d (rck x a b)), some (.lst (vs.map (Rv.d (rck x a b)))), none, none] (vs.map (Rv.d (rck x a b))) [] S2) = _
        rw [e3]; rfl
      rw [ev, b_Reckoner_told]
      simp only [Kd.d, kD, kDs_map] at q1 q2 ⊢
      generalize v.d (rck x a b) = V at *
      generalize vs.map (Rv.d (rck x a b)) = VS at *
      generalize rck x a b = R at *
      generalize A.d = XA at *
      generalize B.d = XB at *
      generalize ws.map kD = WS at *
      simp [q1, q2, -fLc_ap]
    · cases h
end
end
end Kz
namespace Kz
open PySem PySem.Spec PyProof.Rows L2 Kw
def inR (lo hi : Int) : D → Bool
  | .int i => decide (lo ≤ i) && decide (i ≤ hi)
  | _ => false
theorem is_from_gen {n : Nat} {d : D} {lo hi : Int} {S : Store} (h : 1 ≤ n) (l : lay d) : ev n .f_is_from [d, .int lo, .int hi] S = .ok (.bl (inR lo hi d)) S := by
  by_cases hi' : ∃ i, d = .int i
  · obtain ⟨i, rfl⟩ := hi'
    exact is_from_int h
  · have hn : ∀ i, d ≠ .int i := fun i e => hi' ⟨i, e⟩
    rw [is_from_else h l hn]
    unfold inR
    split
    · exact absurd rfl (hn _)
    · rfl
theorem layL_mem {ds : List D} {d : D} (h : layL ds) (m : d ∈ ds) : lay d := by
  induction ds with
  | nil => cases m
  | cons e es ih =>
    rcases List.mem_cons.mp m with rfl | m
    · exact (layL_cons.mp h).1
    · exact ih (layL_cons.mp h).2 m
/-- sizes that are none -/
def NoSz (x : D) : Prop := ∀ S : Store, (isiR "list" x S = .ok (.bl false) S) ∨ (∃ ds : List D, x = .lst ds ∧ layL ds ∧ ds.length ≤ 100 ∧ (ds.length ≠ 8 ∨ ds.all (inR 1 999) = false))
theorem sizes_bad {n : Nat} {x : D} {S : Store} (h : 2 ≤ n) (hx : NoSz x) : ev n .f_sure_sizes [x] S = .ex ⟨"NoSizes", [], []⟩ S := by
  obtain ⟨m, rfl, h'⟩ := up h
  rcases hx S with hl | ⟨ds, rfl, hl, hn, hb⟩
  · rw [ev, b_sure_sizes]
    simp [hl]
  · have h8 : sizeLine = 16777216 := rfl
    by_cases h9 : ds.length = 8
    · have hb' : ds.all (inR 1 999) = false := by
        rcases hb with hb | hb
        · exact absurd h9 hb
        · exact hb
      have hm := compL_map (tg := gN 2) (tt := fYes) (te := fArg (ev m .f_is_from) (fCons (fVar 2) (fCons (fC (.int 1)) (fCons (fC (.int 999)) fNil)))) (ρ := [some (.lst ds), some (.bl true), none]) (S := S) (gg := none) (fun d => .bl (inR 1 999 d)) (by unfold gd; trivial) ds [] (fun d hd => by
        refine ⟨[some (.lst ds), some (.bl true), some d], by simp, rfl, ?_⟩
        simp [is_from_gen h' (layL_mem hl hd)]) (by simp; omega)
      have e1 : ds.map (fun d => D.bl (inR 1 999 d)) = (ds.map (inR 1 999)).map D.bl := by simp
      rw [e1] at hm
      have e2 : gAll [D.lst ((ds.map (inR 1 999)).map D.bl)] S = .ok (.bl false) S := by
        rw [gAll_lst, ← hb']; simp [List.all_map]
      have hit : itL (.lst ds) S = .ok (ds, none) S := rfl
      rw [ev, b_sure_sizes]
      simp at hm
      simp at e2
      simp [h9, hit, wipeR, hm, e2]
    · have h9' : ¬ (ds.length : Int) = 8 := by omega
      rw [ev, b_sure_sizes]
      simp [h9']
end Kz
namespace Kz
open PySem PySem.Spec PyProof.Rows L2 Kw
theorem taken_bad {z : Nat → Nat} {x : D} {S : Store} (hx : Szs z x S) (k : Kd) : ∀ {n : Nat}, k.dep + 3 ≤ n → 5000 < tk z k → ev n .f_sure_taken [k.d, x] S = .ex ⟨"TooMany", [], []⟩ S := by
  have i3 := in_two_t "both" S (by simp)
  have i4 := in_two_t "from" S (by simp)
  induction k with
  | base i => intro n h ht; simp [tk] at ht
  | unit => intro n h ht; simp [tk] at ht
  | both a b ha hb =>
    intro n h ht
    simp only [Kd.dep] at h
    simp only [tk] at ht
    obtain ⟨m, rfl, h'⟩ := up (d := max a.dep b.dep + 3) (by omega)
    by_cases h1 : 5000 < tk z a
    · have e := ha (n := m) (by omega) h1
      rw [ev, b_sure_taken]
      simp [Kd.d, i3, e]
    · have e := taken_sure hx a (n := m) (by omega) (by omega)
      have e2 := hb (n := m) (by omega) (by omega)
      rw [ev, b_sure_taken]
      simp [Kd.d, i3, e, e2]
  | frm a b ha hb =>
    intro n h ht
    simp only [Kd.dep] at h
    simp only [tk] at ht
    obtain ⟨m, rfl, h'⟩ := up (d := max a.dep b.dep + 3) (by omega)
    have en := number_ok hx a (n := m) (by omega)
    by_cases h0 : 5000 < nm z a
    · have hn : (5000 : Int) < ((nm z a : Nat) : Int) := by omega
      generalize ((nm z a : Nat) : Int) = V at *
      rw [ev, b_sure_taken]
      simp [Kd.d, i4, en, hn]
    · have hn : ¬ (5000 : Int) < ((nm z a : Nat) : Int) := by omega
      generalize ((nm z a : Nat) : Int) = V at *
      by_cases h1 : 5000 < tk z a
      · have e := ha (n := m) (by omega) h1
        rw [ev, b_sure_taken]
        simp [Kd.d, i4, en, hn, e]
      · have e := taken_sure hx a (n := m) (by omega) (by omega)
        have e2 := hb (n := m) (by omega) (by omega)
        rw [ev, b_sure_taken]
        simp [Kd.d, i4, en, hn, e, e2]
end Kz
namespace Kz
open PySem PySem.Spec PyProof.Rows L2 Kw
/-- sizes, made or under way -/
def SzR (z : Nat → Nat) (x : D) (S : Store) : Prop := ∃ ns, okSz ns ∧ z = sF ns ∧ (x = .lst (ns.map .int) ∨ ∃ v, x = .loc v ∧ S[v]? = some (.lst (ns.map .int)))
theorem SzR.szs {z : Nat → Nat} {x : D} {S : Store} (h : SzR z x S) : Szs z x S := by
  obtain ⟨ns, ok, rfl, rfl | ⟨v, rfl, at_⟩⟩ := h
  · exact ints_list ok S
  · exact szs_cell ok at_
theorem SzR.sizes {z : Nat → Nat} {x : D} {S : Store} (h : SzR z x S) {n : Nat} (hn : 2 ≤ n) : ev n .f_sure_sizes [x] S = .ok .non S := by
  obtain ⟨ns, ok, rfl, rfl | ⟨v, rfl, at_⟩⟩ := h
  · exact sizes_list ok hn
  · exact sizes_sure ok at_ hn
theorem cut_go {S S' : Store} {d : D} (hl : S.length ≤ S'.length) (h : ∀ i, i < S.length → S'[i]? = S[i]?) (hu : d.under S.length = true) : cutR S (.ok d S') = .ok d S := by
  have e : S' = S ++ S'.drop S.length := by
    have e1 : S'.take S.length = S := by
      refine List.ext_getElem? fun i => ?_
      rw [List.getElem?_take]
      split
      · rename_i hi; exact h i hi
      · rename_i hi; rw [List.getElem?_eq_none (by omega)]
    have e2 := List.take_append_drop S.length S'
    rw [e1] at e2
    exact e2.symm
  rw [e]
  exact cut_ok _ hu
theorem cut_exS {S : Store} {y : Str} : cutR S (.ex ⟨y, [], []⟩ S) = .ex ⟨y, [], []⟩ S := by
  have := cut_ex (S := S) (e := ⟨y, [], []⟩) [] rfl
  rwa [List.append_nil] at this
theorem rk_new {z : Nat → Nat} {U : List Kd} {x : D} {S : Store} (h : SzR z x S) : Rk z U x (S.length + 1) (S.length + 2) [] (S ++ [.dead, .dct [] [], .dct [] []]) where
  sz := by
    obtain ⟨ns, ok, e, rfl | ⟨v, rfl, at_⟩⟩ := h
    · exact ⟨ns, ok, e, .inl rfl⟩
    · exact ⟨ns, ok, e, .inr ⟨v, rfl, by rw [List.getElem?_append_left (lt_at at_)]; exact at_⟩⟩
  la := by
    rw [List.getElem?_append_right (by omega), show S.length + 1 - S.length = 1 by omega]; rfl
  lb := ⟨[], by rw [List.getElem?_append_right (by omega), show S.length + 2 - S.length = 2 by omega]; rfl, rfl, fun i K c h _ => by simp at h⟩
  nd := List.nodup_nil
  sub := fun K hK => nomatch hK
  ab := by omega
section
variable {z : Nat → Nat} {x y d : D} {S : Store} {A B : Kd} {n : Nat}
theorem done_noterm (e : ∀ m, n ≤ m + 1 → ev m .f_sure_kind_in [d, .lst []] S = .ex ⟨"NoTerm", [], []⟩ S) (hn : 2 ≤ n) : ev n .f_done [d, x, y] S = .ex ⟨"NoTerm", [], []⟩ S := by
  obtain ⟨m, rfl⟩ : ∃ m, n = m + 2 := ⟨n - 2, by omega⟩
  have e1 := e (m + 1) (Nat.le_refl _)
  rw [ev, b_done]
  show cutR S (fnB 3 5 _ [d, x, y] S) = _
  have : ∀ b : FS, b [some d, some x, some y, none, none] S = .ex ⟨"NoTerm", [], []⟩ [some d, some x, some y, none, none] S → fnB 3 5 b [d, x, y] S = .ex ⟨"NoTerm", [], []⟩ S := fun b h => by
    show RS.fin (b [some d, some x, some y, none, none] S) = _
    rw [h]; rfl
  rw [this _ (by simp [e1])]
  exact cut_exS
theorem done_nofun {K : Kd} (hK : ∀ A B, K ≠ .frm A B) (e : ∀ m, n ≤ m + 1 → ev m .f_sure_kind_in [d, .lst []] S = .ok K.d S) (hn : 2 ≤ n) : ev n .f_done [d, x, y] S = .ex ⟨"NoTerm", [], []⟩ S := by
  obtain ⟨m, rfl⟩ : ∃ m, n = m + 2 := ⟨n - 2, by omega⟩
  have e1 := e (m + 1) (Nat.le_refl _)
  rw [ev, b_done]
  show cutR S (RS.fin _) = _
  have r : ∀ (X Y : RE D), X = Y → cutR S X = cutR S Y := fun X Y h => by rw [h]
  refine (r _ (.ex ⟨"NoTerm", [], []⟩ S) ?_).trans cut_exS
  cases K with
  | frm A B => exact absurd rfl (hK A B)
  | base i =>
    simp only [Kd.d] at e1
    simp [e1]
  | unit =>
    simp only [Kd.d] at e1
    simp [e1]
  | both A B =>
    simp only [Kd.d] at e1
    generalize A.d = XA at *
    generalize B.d = XB at *
    simp [e1]
theorem done_sizes (e : ∀ m, n ≤ m + 1 → ev m .f_sure_kind_in [d, .lst []] S = .ok (Kd.frm A B).d S) (hx : NoSz x) (hn : 4 ≤ n) : ev n .f_done [d, x, y] S = .ex ⟨"NoSizes", [], []⟩ S := by
  obtain ⟨m, rfl⟩ : ∃ m, n = m + 2 := ⟨n - 2, by omega⟩
  have e1 := e (m + 1) (Nat.le_refl _)
  have e2 := sizes_bad (n := m + 1) (S := S) (by omega) hx
  rw [ev, b_done]
  show cutR S (RS.fin _) = _
  have r : ∀ (X Y : RE D), X = Y → cutR S X = cutR S Y := fun X Y h => by rw [h]
  refine (r _ (.ex ⟨"NoSizes", [], []⟩ S) ?_).trans cut_exS
  simp only [Kd.d] at e1
  generalize A.d = XA at *
  generalize B.d = XB at *
  simp [e1, e2]
theorem done_great (e : ∀ m, n ≤ m + 1 → ev m .f_sure_kind_in [d, .lst []] S = .ok (Kd.frm A B).d S) (hx : SzR z x S) (hA : A.dep ≤ 40) (hB : B.dep ≤ 40) (hg : 5000 < tk z A ∨ (tk z A ≤ 5000 ∧ 5000 < tk z B)) (hn : 60 ≤ n) : ev n .f_done [d, x, y] S = .ex ⟨"TooMany", [], []⟩ S := by
  obtain ⟨m, rfl⟩ : ∃ m, n = m + 2 := ⟨n - 2, by omega⟩
  have e1 := e (m + 1) (Nat.le_refl _)
  have e2 := hx.sizes (n := m + 1) (by omega)
  rw [ev, b_done]
  show cutR S (RS.fin _) = _
  have r : ∀ (X Y : RE D), X = Y → cutR S X = cutR S Y := fun X Y h => by rw [h]
  refine (r _ (.ex ⟨"TooMany", [], []⟩ S) ?_).trans cut_exS
  rcases hg with hg | ⟨h1, hg⟩
  · have e3 := taken_bad hx.szs A (n := m + 1) (by omega) hg
    simp only [Kd.d] at e1
    generalize A.d = XA at *
    generalize B.d = XB at *
    simp [e1, e2, e3]
  · have e3 := taken_sure hx.szs A (n := m + 1) (by omega) h1
    have e4 := taken_bad hx.szs B (n := m + 1) (by omega) hg
    simp only [Kd.d] at e1
    generalize A.d = XA at *
    generalize B.d = XB at *
    simp [e1, e2, e3, e4]
theorem rk_is_worth {k : Kd} (hx : SzR z x S) (hn : k.dep + 6 ≤ n) (hk : k.sz ≤ 2000000) (ht : tk z k ≤ 5000) (t : ty y = true) (q : sml y = true) :
    ev n .f_is_worth [k.d, x, y] S = .ok (.bl (isW z k y)) S := by
  obtain ⟨m, rfl, h'⟩ := up (d := k.dep + 5) hn
  rw [ev, b_is_worth]
  simp [sure_kind_kd (n := m) (S := S) (k := k) (by omega) hk, hx.sizes (n := m) (by omega), taken_sure hx.szs k (n := m) (by omega) ht, plain_ok hx.szs k (n := m) (by omega) t q]
theorem done_worth (e : ∀ m, n ≤ m + 1 → ev m .f_sure_kind_in [d, .lst []] S = .ok (Kd.frm A B).d S) (hx : SzR z x S) (hA : A.dep ≤ 40) (hB : B.dep ≤ 40) (sA : A.sz ≤ 2000000) (tA : tk z A ≤ 5000) (tB : tk z B ≤ 5000) (t : ty y = true) (q : sml y = true) (hw : isW z A y = false) (hn : 60 ≤ n) : ev n .f_done [d, x, y] S = .ex ⟨"NoWorth", [], []⟩ S := by
  obtain ⟨m, rfl⟩ : ∃ m, n = m + 2 := ⟨n - 2, by omega⟩
  have e1 := e (m + 1) (Nat.le_refl _)
  have e2 := hx.sizes (n := m + 1) (by omega)
  have e3 := taken_sure hx.szs A (n := m + 1) (by omega) tA
  have e4 := taken_sure hx.szs B (n := m + 1) (by omega) tB
  have e5 := rk_is_worth hx (n := m + 1) (by omega) sA tA t q
  rw [hw] at e5
  rw [ev, b_done]
  show cutR S (RS.fin _) = _
  have r : ∀ (X Y : RE D), X = Y → cutR S X = cutR S Y := fun X Y h => by rw [h]
  refine (r _ (.ex ⟨"NoWorth", [], []⟩ S) ?_).trans cut_exS
  simp only [Kd.d] at e1
  generalize A.d = XA at *
  generalize B.d = XB at *
  simp [e1, e2, e3, e4, e5]
/-- what is told -/
theorem done_told {U : List Kd} {t : Tm} {w r : NestedKey} {f : Nat} {yv u v : Rv} (g : GoodU z U) (e : ∀ m, n ≤ m + 1 → ev m .f_sure_kind_in [t.d, .lst []] S = .ok (Kd.frm A B).d S) (hx : SzR z x S) (hA : A.dep ≤ 20) (hB : B.dep ≤ 40) (sA : A.sz ≤ 2000000) (tA : tk z A ≤ 5000) (tB : tk z B ≤ 5000) (ht : ty (kD w) = true) (q : sml (kD w) = true) (hw : isW z A (kD w) = true)
    (h0 : hld A w = some yv) (h1 : wrk z U f t .nil = some u) (h2 : hwn z U f u yv = some v) (h3 : tlv z U f B v = some r) (hn : f + 60 ≤ n) : ev n .f_done [t.d, x, kD w] S = .ok (kD r) S := by
  obtain ⟨m, rfl⟩ : ∃ m, n = m + 2 := ⟨n - 2, by omega⟩
  have e1 := e (m + 1) (Nat.le_refl _)
  have e2 := hx.sizes (n := m + 1) (by omega)
  have e3 := taken_sure hx.szs A (n := m + 1) (by omega) tA
  have e4 := taken_sure hx.szs B (n := m + 1) (by omega) tB
  have e5 := rk_is_worth hx (n := m + 1) (by omega) sA tA ht q
  rw [hw] at e5
  have e6 := mk_rck (n := m) (S := S) (x := x) (by omega)
  have rk := rk_new (U := U) hx
  have e7 := held_ok rk.und A (n := m + 1) h0 (by omega)
  obtain ⟨S1, e8, g1⟩ := worked_ok g (S0 := S ++ [.dead, .dct [] [], .dct [] []]) f t .nil u h1 (n := m + 1) ⟨Gx.refl, _, rk⟩ (by omega)
  have e7' := fun (T : Store) (Ks : List Kd) (k : Rk z U x (S.length + 1) (S.length + 2) Ks T) => held_ok k.und A (n := m + 1) h0 (by omega)
  obtain ⟨gx1, Ks1, k1⟩ := id g1
  have e9 := e7' S1 Ks1 k1
  obtain ⟨S2, e10, g2⟩ := handedR_ok g (S0 := S ++ [.dead, .dct [] [], .dct [] []]) f u yv v h2 (n := m + 1) g1 (by omega)
  obtain ⟨S3, e11, g3⟩ := toldR_ok g (S0 := S ++ [.dead, .dct [] [], .dct [] []]) f B v r h3 (n := m + 1) g2 (by omega)
  have dp := disp_fn (n := m + 1) (R := rck x (S.length + 1) (S.length + 2)) (hwn_fn h2)
  have dr1 := fun F => disp_rck (m := "worked") (F := F) (x := x) (a := S.length + 1) (b := S.length + 2) (by decide)
  have dr2 := fun F => disp_rck (m := "held") (F := F) (x := x) (a := S.length + 1) (b := S.length + 2) (by decide)
  have dr3 := fun F => disp_rck (m := "told") (F := F) (x := x) (a := S.length + 1) (b := S.length + 2) (by decide)
  rw [ev, b_done]
  show cutR S (RS.fin _) = _
  have rr : ∀ (X Y : RE D), X = Y → cutR S X = cutR S Y := fun X Y h => by rw [h]
  refine (rr _ (.ok (kD r) S3) ?_).trans (cut_go (by have := g3.1.le; simp at this; omega) (fun i hi => ?_) (und_kD _ _))
  · simp only [Kd.d] at e1
    simp only [Rs.ds] at e8
    generalize u.d (rck x (S.length + 1) (S.length + 2)) = XU at *
    generalize yv.d (rck x (S.length + 1) (S.length + 2)) = XY at *
    generalize v.d (rck x (S.length + 1) (S.length + 2)) = XV at *
    generalize rck x (S.length + 1) (S.length + 2) = R at *
    generalize A.d = XA at *
    generalize B.d = XB at *
    generalize t.d = XT at *
    generalize kD w = W at *
    generalize kD r = WR at *
    simp [e1, e2, e3, e4, e5, e6, e8, e9, e10, e11, dp, dr1, dr2, dr3]
  · rw [g3.1.at_ i (by simp; omega) (by omega) (by omega), List.getElem?_append_left hi]
end
end Kz
namespace Kz
open PySem PySem.Spec PyProof.Rows L2 Kw
def Sh (d : D) (L q : Nat) (hd hl : Bool) : Prop := ∃ p : PyData, (∀ S, shS S d = some p) ∧ p.showable = true ∧ p.depth ≤ q ∧ p.shown.length ≤ L ∧ (p.hasDict = true → hd = true) ∧ (noLs p = false → hl = true)
def ShL (ds : List D) (L q : Nat) (hd hl : Bool) : Prop := ∃ ps : List PyData, (∀ S, shSL S ds = some ps) ∧ PyData.showableAll ps = true ∧ PyData.depthAll ps ≤ q ∧ piled (PyData.shownAll ps) ≤ L ∧ (PyData.hasDictAll ps = true → hd = true) ∧ (noLsL ps = false → hl = true)
theorem ShL.nil {q : Nat} {hd hl : Bool} : ShL [] 0 q hd hl := ⟨[], fun _ => rfl, rfl, Nat.zero_le _, Nat.le_refl _, fun h => by simp [PyData.hasDictAll] at h, fun h => by simp [noLsL] at h⟩
theorem ShL.cons {d : D} {ds : List D} {L1 L2 q : Nat} {hd hl : Bool} (h : Sh d L1 q hd hl) (t : ShL ds L2 q hd hl) : ShL (d :: ds) (L1 + 2 + L2) q hd hl := by
  obtain ⟨p, a1, a2, a3, a4, a5, a6⟩ := h
  obtain ⟨ps, b1, b2, b3, b4, b5, b6⟩ := t
  refine ⟨p :: ps, fun S => by unfold shSL; rw [a1, b1]; rfl, by simp [PyData.showableAll, a2, b2], ?_, ?_, fun h => ?_, fun h => ?_⟩
  · simp [PyData.depthAll]; omega
  · simp only [PyData.shownAll, piled_cons]; omega
  · simp [PyData.hasDictAll] at h
    exact h.elim a5 b5
  · simp only [noLsL, Bool.and_eq_false_iff] at h
    exact h.elim a6 b6
theorem tupLen (ts : List Str) : (tupleText ts).length ≤ piled ts + 3 := by
  unfold tupleText
  rw [strLen_append, strLen_append]
  have e1 : ((("(" : String) : Str)).length = 1 := rfl
  have e3 : (((if ts.length == 1 then ",)" else ")" : String) : Str)).length ≤ 2 := by split <;> decide
  rw [e1]
  by_cases h : ts = []
  · subst h; decide
  · have := join_length_add ts h
    omega
theorem lstLen : ∀ ts : List Str, (listText ts).length ≤ piled ts + 2
  | [] => by decide
  | t :: r => by
    have h := textFrom_length_pos r 1 (("[" : Str) ++ (if (0 : Nat) > 0 then ", " else "" : String) ++ t) (Nat.succ_pos 0)
    have e : ((("[" : Str) ++ (if (0 : Nat) > 0 then ", " else "" : String) ++ t)).length = 1 + t.length := by
      rw [strLen_append, strLen_append]; rfl
    have hX : (listText (t :: r)).length = (textFrom 1 (("[" : Str) ++ (if (0 : Nat) > 0 then ", " else "" : String) ++ t) r).length + 1 := by
      show (textFrom 1 _ r ++ "]").length = _
      rw [strLen_append]; rfl
    rw [hX, h, e, piled_cons]
    omega
theorem Sh.tup {ds : List D} {L q : Nat} {hd hl : Bool} (h : ShL ds L q hd hl) : Sh (.tup ds) (L + 3) (q + 1) hd hl := by
  obtain ⟨ps, b1, b2, b3, b4, b5, b6⟩ := h
  refine ⟨.tuple ps, fun S => by unfold shS; rw [b1]; rfl, by simpa [PyData.showable] using b2, by simp [PyData.depth]; omega, ?_, fun h => b5 (by simpa [PyData.hasDict] using h), fun h => b6 (by simpa [noLs] using h)⟩
  have := tupLen (PyData.shownAll ps)
  simp only [PyData.shown]; omega
theorem Sh.lst {ds : List D} {L q : Nat} {hd hl hl' : Bool} (h : ShL ds L q hd hl') (hh : hl = true) : Sh (.lst ds) (L + 2) (q + 1) hd hl := by
  obtain ⟨ps, b1, b2, b3, b4, b5, b6⟩ := h
  refine ⟨.list ps, fun S => by unfold shS; rw [b1]; rfl, by simpa [PyData.showable] using b2, by simp [PyData.depth]; omega, ?_, fun h => b5 (by simpa [PyData.hasDict] using h), fun h => hh⟩
  have := lstLen (PyData.shownAll ps)
  simp only [PyData.shown]; omega
theorem Sh.mono {d : D} {L L' q q' : Nat} {hd hl hd' hl' : Bool} (h : Sh d L q hd hl) (e1 : L ≤ L') (e2 : q ≤ q') (e3 : hd = true → hd' = true) (e4 : hl = true → hl' = true) : Sh d L' q' hd' hl' := by
  obtain ⟨p, a1, a2, a3, a4, a5, a6⟩ := h
  exact ⟨p, a1, a2, by omega, by omega, fun z => e3 (a5 z), fun z => e4 (a6 z)⟩
theorem ShL.mono {d : List D} {L L' q q' : Nat} {hd hl hd' hl' : Bool} (h : ShL d L q hd hl) (e1 : L ≤ L') (e2 : q ≤ q') (e3 : hd = true → hd' = true) (e4 : hl = true → hl' = true) : ShL d L' q' hd' hl' := by
  obtain ⟨p, a1, a2, a3, a4, a5, a6⟩ := h
  exact ⟨p, a1, a2, by omega, by omega, fun z => e3 (a5 z), fun z => e4 (a6 z)⟩
theorem Sh.non {q : Nat} {hd hl : Bool} : Sh .non 4 q hd hl := ⟨.none, fun _ => rfl, rfl, Nat.zero_le _, by decide +kernel, fun h => by simp [PyData.hasDict] at h, fun h => by simp [noLs] at h⟩
theorem Sh.bl {q : Nat} {hd hl : Bool} (b : Bool) : Sh (.bl b) 5 q hd hl := ⟨.bool b, fun _ => rfl, rfl, Nat.zero_le _, by cases b <;> decide +kernel, fun h => by simp [PyData.hasDict] at h, fun h => by simp [noLs] at h⟩
theorem Sh.int {i : Int} {L q : Nat} {hd hl : Bool} (h1 : i.natAbs.log2 < 1920) (h2 : (PyData.int i).shown.length ≤ L) : Sh (.int i) L q hd hl := ⟨.int i, fun _ => rfl, by simpa [PyData.showable] using h1, Nat.zero_le _, h2, fun h => by simp [PyData.hasDict] at h, fun h => by simp [noLs] at h⟩
theorem Sh.str {x : Str} {L q : Nat} {hd hl : Bool} (h2 : (PyData.str x).shown.length ≤ L) : Sh (.str x) L q hd hl := ⟨.str x, fun _ => rfl, rfl, Nat.zero_le _, h2, fun h => by simp [PyData.hasDict] at h, fun h => by simp [noLs] at h⟩
theorem Sh.dic {q : Nat} {hd hl : Bool} (h : hd = true) : Sh (.dic [] []) 2 (q + 1) hd hl := ⟨.dict [], fun _ => rfl, rfl, by simp [PyData.depth, PyData.depthKv], by decide +kernel, fun _ => h, fun h => by simp [noLs, noLsV] at h⟩
theorem sh_kd : ∀ k : Kd, Sh k.d (40 * k.sz) (k.dep + 1) false false
  | .base i => by
    have h : ∀ i : _root_.Fin 8, (PyData.int (i.val : Int)).shown.length ≤ 1 := by decide +kernel
    have h2 : ∀ i : _root_.Fin 8, (i.val : Int).natAbs.log2 < 1920 := by decide +kernel
    exact (Sh.tup (ShL.cons (Sh.str (L := 6) (q := 0) (by decide +kernel)) (ShL.cons (Sh.int (L := 1) (h2 i) (h i)) ShL.nil))).mono (by simp [Kd.sz]) (by simp [Kd.dep]) id id
  | .unit => (Sh.tup (ShL.cons (Sh.str (L := 6) (q := 0) (by decide +kernel)) ShL.nil)).mono (by simp [Kd.sz]) (by simp [Kd.dep]) id id
  | .both a b => by
    have pa := a.sz_pos; have pb := b.sz_pos
    exact (Sh.tup (ShL.cons (Sh.str (L := 6) (q := max a.dep b.dep + 1) (by decide +kernel)) (ShL.cons ((sh_kd a).mono (Nat.le_refl _) (by omega) id id) (ShL.cons ((sh_kd b).mono (Nat.le_refl _) (by omega) id id) ShL.nil)))).mono (by simp [Kd.sz]; omega) (by simp [Kd.dep]) id id
  | .frm a b => by
    have pa := a.sz_pos; have pb := b.sz_pos
    exact (Sh.tup (ShL.cons (Sh.str (L := 6) (q := max a.dep b.dep + 1) (by decide +kernel)) (ShL.cons ((sh_kd a).mono (Nat.le_refl _) (by omega) id id) (ShL.cons ((sh_kd b).mono (Nat.le_refl _) (by omega) id id) ShL.nil)))).mono (by simp [Kd.sz]; omega) (by simp [Kd.dep]) id id
end Kz
namespace Kz
open PySem PySem.Spec PyProof.Rows L2 Kw
mutual
/-- how many tuples stand within one another -/
def hD : D → Nat
  | .tup ds => hDL ds + 1
  | _ => 0
def hDL : List D → Nat
  | [] => 0
  | d :: ds => max (hD d) (hDL ds)
end
open Classical in
noncomputable def toK (d : D) : Option Kd := if h : ∃ k : Kd, d = k.d then some (Classical.choose h) else none
theorem toK_kd (k : Kd) : toK k.d = some k := by
  unfold toK
  have h : ∃ k' : Kd, k.d = k'.d := ⟨k, rfl⟩
  rw [dif_pos h]
  exact congrArg some (Kd.d_inj (Classical.choose_spec h)).symm
theorem toK_some {d : D} {k : Kd} (h : toK d = some k) : d = k.d := by
  unfold toK at h
  split at h
  · rename_i hh
    cases h
    exact Classical.choose_spec hh
  · cases h
theorem isK_ex : ∀ (N : Nat) {d : D}, nd d ≤ N → isK d = true → ∃ k : Kd, d = k.d
  | 0, d, h, _ => absurd (nd_pos d) (by omega)
  | N + 1, d, hn, h => by
    rw [isK_eq] at h
    cases hd : innD d with
    | none => rw [hd] at h; cases h
    | some ds =>
      rw [hd] at h
      simp only at h
      have hlt := inn_nd hd
      unfold innD at hd
      split at hd
      · rename_i s r
        unfold innR at hd
        split at hd
        · rename_i hs
          subst hs
          split at hd
          · rename_i i
            split at hd
            · rename_i hi
              exact ⟨.base ⟨i.toNat, by omega⟩, by simp [Kd.d]; omega⟩
            · cases hd
          · cases hd
        · split at hd
          · rename_i hs
            subst hs
            split at hd
            · exact ⟨.unit, rfl⟩
            · cases hd
          · split at hd
            · rename_i hs
              split at hd
              · rename_i a b
                cases hd
                simp only [List.all_cons, List.all_nil, Bool.and_true, Bool.and_eq_true] at h
                simp only [ndL] at hlt
                obtain ⟨A, rfl⟩ := isK_ex N (d := a) (by omega) h.1
                obtain ⟨B, rfl⟩ := isK_ex N (d := b) (by omega) h.2
                rcases hs with rfl | rfl
                · exact ⟨.both A B, rfl⟩
                · exact ⟨.frm A B, rfl⟩
              · cases hd
            · cases hd
      · cases hd
theorem toK_isK (d : D) : (toK d).isSome = isK d := by
  cases h : isK d with
  | true =>
    obtain ⟨k, rfl⟩ := isK_ex (nd d) (Nat.le_refl _) h
    rw [toK_kd]; rfl
  | false =>
    cases hk : toK d with
    | none => rfl
    | some k =>
      have := toK_some hk
      subst this
      rw [isK_kd] at h; cases h
def fstK : Kd → Option Kd
  | .both a _ => some a
  | _ => none
def sndK : Kd → Option Kd
  | .both _ b => some b
  | _ => none
/-- the kind of anything as a term -/
noncomputable def jdf : Nat → List Kd → D → Option Kd
  | 0, _, _ => none
  | f + 1, Γ, .tup (.str s :: r) =>
    if s = "unit" then (match r with
      | [] => some .unit
      | _ => none)
    else if s = "given" then (match r with
      | [.int i] => if 0 ≤ i then Γ[i.toNat]? else none
      | _ => none)
    else if s = "make" then (match r with
      | [a, b] => (toK a).bind fun A => (jdf f (Γ ++ [A]) b).bind fun B => some (.frm A B)
      | _ => none)
    else if s = "do" then (match r with
      | [a, b] => (jdf f Γ a).bind fun u => (jdf f Γ b).bind fun x => appK u x
      | _ => none)
    else if s = "both" then (match r with
      | [a, b] => (jdf f Γ a).bind fun u => (jdf f Γ b).bind fun x => some (.both u x)
      | _ => none)
    else if s = "first" then (match r with
      | [a] => (jdf f Γ a).bind fstK
      | _ => none)
    else if s = "second" then (match r with
      | [a] => (jdf f Γ a).bind sndK
      | _ => none)
    else none
  | _ + 1, _, _ => none
/-- a list of kinds, made or under way -/
def Gv (S : Store) (x : D) (Γ : List Kd) : Prop := x = .lst (Γ.map Kd.d) ∨ ∃ c, x = .loc c ∧ S[c]? = some (.lst (Γ.map Kd.d))
theorem Gv.lst {S : Store} {Γ : List Kd} : Gv S (.lst (Γ.map Kd.d)) Γ := .inl rfl
section
variable {S : Store} {x : D} {Γ : List Kd}
theorem Gv.len (h : Gv S x Γ) : gLen [x] S = .ok (.int ((Γ.length : Nat) : Int)) S := by
  rcases h with rfl | ⟨c, rfl, h⟩
  · simp
  · have e : Kw.seqA S (.loc c) = some (Γ.map Kd.d) := by simp [Kw.seqA, Kw.cellOf, h]
    simp [gLen, e]
theorem Gv.ix (h : Gv S x Γ) {i : Nat} (hi : i < Γ.length) : gIx x (.int (i : Int)) S = .ok (Γ[i]).d S := by
  rcases h with rfl | ⟨c, rfl, h⟩
  · simp [hi]
  · have e : gIx (.loc c) (.int (i : Int)) S = ixR (Γ.map Kd.d) (i : Int) S := gIx_loc (by simp [Kw.cellOf, h])
    rw [e, ixR_nat, List.getElem?_map, List.getElem?_eq_getElem hi]
    rfl
theorem Gv.add (h : Gv S x Γ) (A : Kd) (hl : Γ.length ≤ 10000) : gAdd false x (.lst [A.d]) S = .ok (.lst ((Γ ++ [A]).map Kd.d)) S := by
  have h8 : sizeLine = 16777216 := rfl
  rcases h with rfl | ⟨c, rfl, h⟩
  · show catL false (some (Γ.map Kd.d)) (some [A.d]) S = _
    simp [catL, h8]; omega
  · have e : Kw.seqM S (.loc c) = some (Γ.map Kd.d) := by simp [Kw.seqM, Kw.cellM, h]
    show catL false (Kw.seqM S (.loc c)) (some [A.d]) S = _
    rw [e]
    simp [catL, h8]; omega
end
/-- the kind of the given by its place -/
def gvO (Γ : List Kd) : D → Option Kd
  | .int i => if 0 ≤ i then Γ[i.toNat]? else none
  | _ => none
theorem given_gen {n : Nat} {Γ : List Kd} {d x : D} {S : Store} (h : 1 ≤ n) (l : lay d) (hg : Gv S x Γ) : ev n .f_kind_of_given [d, x] S = .ok (oK (gvO Γ d)) S := by
  obtain ⟨m, rfl, h'⟩ := up (d := 0) (by omega : 0 + 1 ≤ n)
  have gl := hg.len
  rw [ev, b_kind_of_given]
  cases d with
  | int i =>
    by_cases h0 : 0 ≤ i
    · obtain ⟨k, rfl⟩ : ∃ k : Nat, i = (k : Int) := ⟨i.toNat, by omega⟩
      by_cases hk : k < Γ.length
      · have gi := hg.ix hk
        have hk' : (k : Int) < ((Γ.length : Nat) : Int) := by omega
        rw [gvO, if_pos (by omega), Int.toNat_natCast, List.getElem?_eq_getElem hk]
        generalize ((Γ.length : Nat) : Int) = V at *
        generalize hk2 : (k : Int) = K at *
        have : (0 : Int) ≤ K := by omega
        simp [gl, hk', gi, oK, this]
      · have hk' : ¬ (k : Int) < ((Γ.length : Nat) : Int) := by omega
        rw [gvO, if_pos (by omega), Int.toNat_natCast, List.getElem?_eq_none (by omega)]
        generalize ((Γ.length : Nat) : Int) = V at *
        generalize hk2 : (k : Int) = K at *
        have : (0 : Int) ≤ K := by omega
        simp [gl, hk', oK, this]
    · rw [gvO, if_neg h0]
      simp [h0, oK]
  | bl b => simp [oK, gvO]
  | fls ds => simp [oK, gvO]; rfl
  | loc _ => simp [lay, pl] at l
  | ins _ _ _ => simp [lay, pl] at l
  | glo _ => simp [lay, pl] at l
  | exn _ => simp [lay, pl] at l
  | exo _ _ _ => simp [lay, pl] at l
  | lam _ _ _ => simp [lay, pl] at l
  | _ => simp [oK, gvO]
/-- as many parts as a term of that word has -/
def prts (s : Str) : Option Nat :=
  if s = "given" then some 2 else if s = "make" then some 3 else if s = "do" then some 3 else if s = "both" then some 3 else if s = "first" then some 2 else if s = "second" then some 2 else if s = "unit" then some 1 else none
def shp : D → Bool
  | .tup (.str s :: r) => (match prts s with
    | some k => decide (k = r.length + 1)
    | none => false)
  | _ => false
theorem shape_str {n : Nat} {s : Str} {r : List D} {S : Store} (h : 1 ≤ n) : ev n .f_is_shape [.tup (.str s :: r)] S = .ok (.bl (shp (.tup (.str s :: r)))) S := by
  obtain ⟨m, rfl, h'⟩ := up (d := 0) (by omega : 0 + 1 ≤ n)
  have n0 : ¬ ((r.length : Int) + 1 = 0) := by omega
  have e2 : (((r.length : Nat) : Int) + 1 == 2) = decide (2 = r.length + 1) := by rw [Bool.eq_iff_iff, beq_iff_eq, decide_eq_true_eq]; omega
  have key : ∀ k : Nat, ((k : Int) == ((r.length : Nat) : Int) + 1) = decide (k = r.length + 1) := fun k => by rw [Bool.eq_iff_iff, beq_iff_eq, decide_eq_true_eq]; omega
  have k1 := key 1
  have k2 := key 2
  have k3 := key 3
  have c2 : ((2 : Nat) : Int) = 2 := rfl
  have c3 : ((3 : Nat) : Int) = 3 := rfl
  have c1 : ((1 : Nat) : Int) = 1 := rfl
  rw [c1] at k1
  rw [c2] at k2
  rw [c3] at k3
  rw [ev, b_is_shape]
  unfold shp prts
  have lt : gLen [.tup (.str s :: r)] S = .ok (.int (((r.length : Nat) : Int) + 1)) S := by simp
  by_cases h1 : s = "given"
  · subst h1; simp [n0, fGetG_ap, kv_PARTS, List.lookup, k2]
  by_cases h2 : s = "make"
  · subst h2; simp [n0, fGetG_ap, kv_PARTS, List.lookup, k3]
  by_cases h3 : s = "do"
  · subst h3; simp [n0, fGetG_ap, kv_PARTS, List.lookup, k3]
  by_cases h4 : s = "both"
  · subst h4; simp [n0, fGetG_ap, kv_PARTS, List.lookup, k3]
  by_cases h5 : s = "first"
  · subst h5; simp [n0, fGetG_ap, kv_PARTS, List.lookup, k2]
  by_cases h6 : s = "second"
  · subst h6; simp [n0, fGetG_ap, kv_PARTS, List.lookup, k2]
  by_cases h7 : s = "unit"
  · subst h7; simp [n0, fGetG_ap, kv_PARTS, List.lookup, k1]
  have f1 : (s == Str.ofString "given") = false := by simpa using h1
  have f2 : (s == Str.ofString "make") = false := by simpa using h2
  have f3 : (s == Str.ofString "do") = false := by simpa using h3
  have f4 : (s == Str.ofString "both") = false := by simpa using h4
  have f5 : (s == Str.ofString "first") = false := by simpa using h5
  have f6 : (s == Str.ofString "second") = false := by simpa using h6
  have f7 : (s == Str.ofString "unit") = false := by simpa using h7
  have gn : ∀ W : Int, gEq .non (.int W) S = .ok (.bl false) S := by
    intro W
    simp [gEq, eqE, pyS, okPy, PyData.canLay0, PyData.depth, PyData.eqv]
  simp [n0, fGetG_ap, kv_PARTS, List.lookup, f1, f2, f3, f4, f5, f6, f7, h1, h2, h3, h4, h5, h6, h7, gn]
theorem shape_gen {n : Nat} {d : D} {S : Store} (h : 1 ≤ n) (l : lay d) : ev n .f_is_shape [d] S = .ok (.bl (shp d)) S := by
  by_cases hs : ∃ s r, d = .tup (.str s :: r)
  · obtain ⟨s, r, rfl⟩ := hs
    exact shape_str h
  · have e0 : shp d = false := by
      unfold shp
      split
      · exact absurd ⟨_, _, rfl⟩ hs
      · rfl
    rw [e0]
    obtain ⟨m, rfl, h'⟩ := up (d := 0) (by omega : 0 + 1 ≤ n)
    rw [ev, b_is_shape]
    by_cases ht : ∃ ds, d = .tup ds
    · obtain ⟨ds, rfl⟩ := ht
      cases ds with
      | nil => simp
      | cons a r =>
        have la := (layL_cons.mp (lay_tup l)).1
        have ea := isi_nostr (S := S) la (fun s e => hs ⟨s, r, by rw [e]⟩)
        have n0 : ¬ ((r.length : Int) + 1 = 0) := by omega
        simp [n0, ea]
    · have et := isi_notup (S := S) l (fun ds e => ht ⟨ds, e⟩)
      simp [et]
end Kz
namespace Kz
open PySem PySem.Spec PyProof.Rows L2 Kw
theorem toK_no {d : D} (h : toK d = none) : isK d = false := by
  have := toK_isK d
  rw [h] at this
  exact this.symm
theorem toK_is {d : D} {k : Kd} (h : toK d = some k) : isK d = true := by
  have := toK_isK d
  rw [h] at this
  exact this.symm
theorem hD_kd : ∀ k : Kd, hD k.d = k.dep + 1
  | .base i => by simp [Kd.d, hD, hDL, Kd.dep]
  | .unit => by simp [Kd.d, hD, hDL, Kd.dep]
  | .both a b => by simp [Kd.d, hD, hDL, Kd.dep, hD_kd a, hD_kd b]
  | .frm a b => by simp [Kd.d, hD, hDL, Kd.dep, hD_kd a, hD_kd b]
/-- how deep the kind told can be -/
theorem jdf_dep : ∀ (f : Nat) {d : D} {Γ : List Kd} {k : Kd} {q : Nat}, (∀ A ∈ Γ, A.dep ≤ q) → jdf f Γ d = some k → k.dep ≤ max q (hD d) + hD d
  | 0, d, Γ, k, q, hΓ, h => by simp [jdf] at h
  | f + 1, d, Γ, k, q, hΓ, h => by
    unfold jdf at h
    split at h
    · cases h
    · rename_i f' s r e1
      cases e1
      split at h
      · split at h
        · cases h; simp [Kd.dep]
        · cases h
      · split at h
        · split at h
          · split at h
            · have := hΓ k (List.mem_of_getElem? h)
              omega
            · cases h
          · cases h
        · split at h
          · split at h
            · rename_i a b
              simp only [Option.bind_eq_some_iff] at h
              obtain ⟨A, h1, B, h2, h3⟩ := h
              cases h3
              have ea := toK_some h1
              have hA : A.dep < hD (.tup [.str s, a, b]) := by
                have e := hD_kd A
                rw [← ea] at e
                simp only [hD, hDL]; omega
              have := jdf_dep f (Γ := _ ++ [A]) (q := max q (hD (.tup [.str s, a, b]))) (fun X hX => by
                rcases List.mem_append.mp hX with hX | hX
                · have := hΓ X hX; omega
                · have : X = A := by simpa using hX
                  rw [this]; omega) h2
              have hb : hD b < hD (.tup [.str s, a, b]) := by simp only [hD, hDL]; omega
              simp only [Kd.dep]; omega
            · cases h
          · split at h
            · split at h
              · rename_i a b
                simp only [Option.bind_eq_some_iff] at h
                obtain ⟨u, h1, x, h2, h3⟩ := h
                have := jdf_dep f hΓ h1
                have ha : hD a < hD (.tup [.str s, a, b]) := by simp only [hD, hDL]; omega
                unfold appK at h3
                split at h3
                · split at h3
                  · cases h3; simp only [Kd.dep] at this; omega
                  · cases h3
                · cases h3
              · cases h
            · split at h
              · split at h
                · rename_i a b
                  simp only [Option.bind_eq_some_iff] at h
                  obtain ⟨u, h1, x, h2, h3⟩ := h
                  cases h3
                  have := jdf_dep f hΓ h1
                  have := jdf_dep f hΓ h2
                  have ha : hD a < hD (.tup [.str s, a, b]) := by simp only [hD, hDL]; omega
                  have hb : hD b < hD (.tup [.str s, a, b]) := by simp only [hD, hDL]; omega
                  simp only [Kd.dep]; omega
                · cases h
              · split at h
                · split at h
                  · rename_i a
                    simp only [Option.bind_eq_some_iff] at h
                    obtain ⟨u, h1, h3⟩ := h
                    have := jdf_dep f hΓ h1
                    have ha : hD a < hD (.tup [.str s, a]) := by simp only [hD, hDL]; omega
                    unfold fstK at h3
                    split at h3
                    · cases h3; simp only [Kd.dep] at this; omega
                    · cases h3
                  · cases h
                · split at h
                  · split at h
                    · rename_i a
                      simp only [Option.bind_eq_some_iff] at h
                      obtain ⟨u, h1, h3⟩ := h
                      have := jdf_dep f hΓ h1
                      have ha : hD a < hD (.tup [.str s, a]) := by simp only [hD, hDL]; omega
                      unfold sndK at h3
                      split at h3
                      · cases h3; simp only [Kd.dep] at this; omega
                      · cases h3
                    · cases h
                  · cases h
    · cases h
theorem two_do' {n : Nat} {a b : Option Kd} {S : Store} (h : 1 ≤ n) (hd : ∀ u, a = some u → u.dep ≤ 200) : ev n .f_kind_of_two [.str "do", oK a, oK b] S = .ok (oK (a.bind fun u => b.bind fun x => appK u x)) S := by
  obtain ⟨m, rfl, h'⟩ := up (d := 0) (by omega : 0 + 1 ≤ n)
  by_cases hf : ∃ A B, a = some (.frm A B)
  · obtain ⟨A, B, rfl⟩ := hf
    have hu := hd _ rfl
    simp only [Kd.dep] at hu
    rw [ev, b_kind_of_two]
    cases b with
    | none =>
      have n1 := is_non_kd (k := .frm A B) (S := S)
      simp [oK, n1]
    | some x =>
      have n1 := is_non_kd (k := .frm A B) (S := S)
      have n2 := is_non_kd (k := x) (S := S)
      have e := Kd.gEq_d (a := A) (b := x) (S := S) (by omega)
      simp only [Kd.d] at n1
      by_cases hA : A = x
      · subst hA
        simp only [decide_true] at e
        simp [oK, n1, n2, Kd.d, appK, e]
      · rw [decide_eq_false hA] at e
        simp [oK, n1, n2, Kd.d, appK, e, hA]
  · rw [ev, b_kind_of_two]
    cases a with
    | none => simp [oK]
    | some u =>
      cases b with
      | none => simp [oK, is_non_kd]
      | some x =>
        have n1 := is_non_kd (k := u) (S := S)
        have n2 := is_non_kd (k := x) (S := S)
        cases u with
        | frm A B => exact absurd ⟨A, B, rfl⟩ hf
        | base i => simp only [Kd.d] at n1; simp [oK, n1, n2, Kd.d, appK]
        | unit => simp only [Kd.d] at n1; simp [oK, n1, n2, Kd.d, appK]
        | both A B => simp only [Kd.d] at n1; simp [oK, n1, n2, Kd.d, appK]
/-- the word's own parts, put apart -/
inductive Shp : D → Prop
  | unit : Shp (.tup [.str "unit"])
  | giv (d : D) : Shp (.tup [.str "given", d])
  | mk (a b : D) : Shp (.tup [.str "make", a, b])
  | app (a b : D) : Shp (.tup [.str "do", a, b])
  | both (a b : D) : Shp (.tup [.str "both", a, b])
  | fst (a : D) : Shp (.tup [.str "first", a])
  | snd (a : D) : Shp (.tup [.str "second", a])
theorem shp_sh {d : D} (h : shp d = true) : Shp d := by
  unfold shp at h
  split at h
  · rename_i s r
    split at h
    · rename_i k hk
      have hl := of_decide_eq_true h
      unfold prts at hk
      split at hk
      · rename_i e; subst e; cases hk
        match r, hl with
        | [x], _ => exact .giv x
      · split at hk
        · rename_i e; subst e; cases hk
          match r, hl with
          | [x, y], _ => exact .mk x y
        · split at hk
          · rename_i e; subst e; cases hk
            match r, hl with
            | [x, y], _ => exact .app x y
          · split at hk
            · rename_i e; subst e; cases hk
              match r, hl with
              | [x, y], _ => exact .both x y
            · split at hk
              · rename_i e; subst e; cases hk
                match r, hl with
                | [x], _ => exact .fst x
              · split at hk
                · rename_i e; subst e; cases hk
                  match r, hl with
                  | [x], _ => exact .snd x
                · split at hk
                  · rename_i e; subst e; cases hk
                    match r, hl with
                    | [], _ => exact .unit
                  · cases hk
    · cases h
  · cases h
theorem jdf_noshp : ∀ {f : Nat} {Γ : List Kd} {d : D}, shp d = false → jdf f Γ d = none
  | 0, _, _, _ => rfl
  | f + 1, Γ, d, h => by
    unfold jdf
    split
    · rfl
    · rename_i f' s r e1
      have hh : ∀ k, prts s = some k → ¬ k = r.length + 1 := by
        intro k hk hl
        simp [shp, hk, hl] at h
      unfold prts at hh
      by_cases h7 : s = "unit"
      · subst h7
        rw [if_pos rfl]
        cases r with
        | nil => exact absurd rfl (hh 1 rfl)
        | cons a r => rfl
      rw [if_neg h7]
      by_cases h1 : s = "given"
      · subst h1
        rw [if_pos rfl]
        split
        · exact absurd rfl (hh 2 rfl)
        · rfl
      rw [if_neg h1]
      by_cases h2 : s = "make"
      · subst h2
        rw [if_pos rfl]
        split
        · exact absurd rfl (hh 3 rfl)
        · rfl
      rw [if_neg h2]
      by_cases h3 : s = "do"
      · subst h3
        rw [if_pos rfl]
        split
        · exact absurd rfl (hh 3 rfl)
        · rfl
      rw [if_neg h3]
      by_cases h4 : s = "both"
      · subst h4
        rw [if_pos rfl]
        split
        · exact absurd rfl (hh 3 rfl)
        · rfl
      rw [if_neg h4]
      by_cases h5 : s = "first"
      · subst h5
        rw [if_pos rfl]
        split
        · exact absurd rfl (hh 2 rfl)
        · rfl
      rw [if_neg h5]
      by_cases h6 : s = "second"
      · subst h6
        rw [if_pos rfl]
        split
        · exact absurd rfl (hh 2 rfl)
        · rfl
      rw [if_neg h6]
    · rfl
theorem kind_in_gen : ∀ (f : Nat) {d x : D} {Γ : List Kd} {n q : Nat} {S : Store}, hD d < f → (∀ A ∈ Γ, A.dep ≤ q) → lay d → nd d ≤ 8000000 → Gv S x Γ → max q (hD d) + hD d ≤ 200 → hD d + 5 ≤ n → Γ.length + hD d ≤ 10000 → ev n .f_kind_in [d, x] S = .ok (oK (jdf f Γ d)) S
  | 0, d, x, Γ, n, q, S, hf, hΓ, l, hnd, hg, hq, hn, hl => absurd hf (by omega)
  | f + 1, d, x, Γ, n, q, S, hf, hΓ, l, hnd, hg, hq, hn, hl => by
    obtain ⟨m, rfl, h'⟩ := up (d := hD d + 4) (by omega : hD d + 4 + 1 ≤ n)
    have h8 : sizeLine = 16777216 := rfl
    have es := shape_gen (n := m) (d := d) (S := S) (by omega) l
    cases hs : shp d with
    | false =>
      rw [hs] at es
      rw [jdf_noshp hs, ev, b_kind_in]
      simp [es, oK]
    | true =>
      rw [hs] at es
      cases shp_sh hs with
      | unit =>
        rw [ev, b_kind_in]
        simp [es, jdf, oK, Kd.d, h8]
      | giv d =>
        have ld : lay d := (layL_cons.mp (layL_cons.mp (lay_tup l)).2).1
        have eg := given_gen (n := m) (d := d) (x := x) (Γ := Γ) (S := S) (by omega) ld hg
        have ej : jdf (f + 1) Γ (.tup [.str "given", d]) = gvO Γ d := by
          unfold jdf
          cases d <;> simp [gvO]
        rw [ej, ev, b_kind_in]
        simp [es, eg]
      | mk a b =>
        have la : lay a := (layL_cons.mp (layL_cons.mp (lay_tup l)).2).1
        have lb : lay b := (layL_cons.mp (layL_cons.mp (layL_cons.mp (lay_tup l)).2).2).1
        simp only [nd, ndL] at hnd
        have ek := is_kind_gen (n := m) (d := a) (S := S) (by omega) (by omega) la
        have ej : jdf (f + 1) Γ (.tup [.str "make", a, b]) = (toK a).bind fun A => (jdf f (Γ ++ [A]) b).bind fun B => some (.frm A B) := by
          simp [jdf]
        rw [ej, ev, b_kind_in]
        simp only [hD, hDL] at hf hq h' hl
        cases hk : toK a with
        | none =>
          rw [toK_no hk] at ek
          simp [es, ek, oK]
        | some A =>
          rw [toK_is hk] at ek
          have ea := toK_some hk
          subst ea
          have eh := hD_kd A
          have ga := hg.add A (by omega)
          have ei := kind_in_gen f (d := b) (x := .lst ((Γ ++ [A]).map Kd.d)) (Γ := Γ ++ [A]) (n := m) (q := max q A.dep) (S := S) (by omega) (fun X hX => by
            rcases List.mem_append.mp hX with hX | hX
            · have := hΓ X hX; omega
            · have : X = A := by simpa using hX
              rw [this]; omega) lb (by omega) .lst (by omega) (by omega) (by simp; omega)
          simp only [List.map_append, List.map_cons, List.map_nil] at ei ga
          cases hb : jdf f (Γ ++ [A]) b with
          | none =>
            rw [hb] at ei
            simp [es, ek, ga, ei, oK, hb]
          | some B =>
            rw [hb] at ei
            have nb := is_non_kd (k := B) (S := S)
            simp only [oK] at ei
            simp [es, ek, ga, ei, oK, nb, Kd.d, h8, hb]
      | app a b =>
        have la : lay a := (layL_cons.mp (layL_cons.mp (lay_tup l)).2).1
        have lb : lay b := (layL_cons.mp (layL_cons.mp (layL_cons.mp (lay_tup l)).2).2).1
        simp only [nd, ndL] at hnd
        simp only [hD, hDL] at hf hq h' hl
        have e1 := kind_in_gen f (d := a) (x := x) (Γ := Γ) (n := m) (q := q) (S := S) (by omega) hΓ la (by omega) hg (by omega) (by omega) (by omega)
        have e2 := kind_in_gen f (d := b) (x := x) (Γ := Γ) (n := m) (q := q) (S := S) (by omega) hΓ lb (by omega) hg (by omega) (by omega) (by omega)
        have e3 := two_do' (n := m) (a := jdf f Γ a) (b := jdf f Γ b) (S := S) (by omega) (fun u hu => by have := jdf_dep f hΓ hu; omega)
        have iw := in_words (s := "do") (S := S)
        have ej : jdf (f + 1) Γ (.tup [.str "do", a, b]) = (jdf f Γ a).bind fun u => (jdf f Γ b).bind fun x => appK u x := by
          simp [jdf]
        rw [ej]
        generalize oK ((jdf f Γ a).bind fun u => (jdf f Γ b).bind fun x => appK u x) = R at *
        generalize oK (jdf f Γ a) = ka at *
        generalize oK (jdf f Γ b) = kb at *
        rw [ev, b_kind_in]
        simp [es, e1, e2, e3, iw]
      | both a b =>
        have la : lay a := (layL_cons.mp (layL_cons.mp (lay_tup l)).2).1
        have lb : lay b := (layL_cons.mp (layL_cons.mp (layL_cons.mp (lay_tup l)).2).2).1
        simp only [nd, ndL] at hnd
        simp only [hD, hDL] at hf hq h' hl
        have e1 := kind_in_gen f (d := a) (x := x) (Γ := Γ) (n := m) (q := q) (S := S) (by omega) hΓ la (by omega) hg (by omega) (by omega) (by omega)
        have e2 := kind_in_gen f (d := b) (x := x) (Γ := Γ) (n := m) (q := q) (S := S) (by omega) hΓ lb (by omega) hg (by omega) (by omega) (by omega)
        have e3 := two_both (n := m) (a := jdf f Γ a) (b := jdf f Γ b) (S := S) (by omega)
        have iw := in_words (s := "both") (S := S)
        have ej : jdf (f + 1) Γ (.tup [.str "both", a, b]) = (jdf f Γ a).bind fun u => (jdf f Γ b).bind fun x => some (.both u x) := by
          simp [jdf]
        rw [ej]
        generalize oK ((jdf f Γ a).bind fun u => (jdf f Γ b).bind fun x => some (.both u x)) = R at *
        generalize oK (jdf f Γ a) = ka at *
        generalize oK (jdf f Γ b) = kb at *
        rw [ev, b_kind_in]
        simp [es, e1, e2, e3, iw]
      | fst a =>
        have la : lay a := (layL_cons.mp (layL_cons.mp (lay_tup l)).2).1
        simp only [nd, ndL] at hnd
        simp only [hD, hDL] at hf hq h' hl
        have e1 := kind_in_gen f (d := a) (x := x) (Γ := Γ) (n := m) (q := q) (S := S) (by omega) hΓ la (by omega) hg (by omega) (by omega) (by omega)
        have iw := in_words (s := "first") (S := S)
        have ej : jdf (f + 1) Γ (.tup [.str "first", a]) = (jdf f Γ a).bind fstK := by
          simp [jdf]
        rw [ej, ev, b_kind_in]
        cases ha : jdf f Γ a with
        | none => rw [ha] at e1; simp [es, e1, iw, oK]
        | some u =>
          rw [ha] at e1
          have nu := is_non_kd (k := u) (S := S)
          simp only [oK] at e1
          cases u <;> simp only [Kd.d] at nu e1 <;> simp [es, e1, iw, oK, nu, fstK, Kd.d]
      | snd a =>
        have la : lay a := (layL_cons.mp (layL_cons.mp (lay_tup l)).2).1
        simp only [nd, ndL] at hnd
        simp only [hD, hDL] at hf hq h' hl
        have e1 := kind_in_gen f (d := a) (x := x) (Γ := Γ) (n := m) (q := q) (S := S) (by omega) hΓ la (by omega) hg (by omega) (by omega) (by omega)
        have iw := in_words (s := "second") (S := S)
        have ej : jdf (f + 1) Γ (.tup [.str "second", a]) = (jdf f Γ a).bind sndK := by
          simp [jdf]
        rw [ej, ev, b_kind_in]
        cases ha : jdf f Γ a with
        | none => rw [ha] at e1; simp [es, e1, iw, oK]
        | some u =>
          rw [ha] at e1
          have nu := is_non_kd (k := u) (S := S)
          simp only [oK] at e1
          cases u <;> simp only [Kd.d] at nu e1 <;> simp [es, e1, iw, oK, nu, sndK, Kd.d]
theorem sure_in_gen {f : Nat} {d x : D} {Γ : List Kd} {n q : Nat} {S : Store} (hf : hD d < f) (hΓ : ∀ A ∈ Γ, A.dep ≤ q) (l : lay d) (hnd : nd d ≤ 8000000) (hg : Gv S x Γ) (hq : max q (hD d) + hD d ≤ 200) (hn : hD d + 6 ≤ n) (hl : Γ.length + hD d ≤ 10000) :
    ev n .f_sure_kind_in [d, x] S = (match jdf f Γ d with | some k => .ok k.d S | none => .ex ⟨"NoTerm", [], []⟩ S) := by
  obtain ⟨m, rfl, h'⟩ := up (d := hD d + 5) hn
  have e := kind_in_gen f (n := m) (S := S) hf hΓ l hnd hg hq h' hl
  rw [ev, b_sure_kind_in]
  cases hj : jdf f Γ d with
  | none =>
    rw [hj] at e
    simp [e, oK]
  | some k =>
    rw [hj] at e
    have nk := is_non_kd (k := k) (S := S)
    simp only [oK] at e
    simp [e, nk]
end Kz
namespace Kz
open PySem PySem.Spec PyProof.Rows L2 Kw
def Wd4 (y : Str) (w : String) : Prop := (y = "NoTerm" ∧ w = "term") ∨ (y = "NoSizes" ∧ w = "sizes") ∨ (y = "NoWorth" ∧ w = "worth") ∨ (y = "TooMany" ∧ w = "great")
noncomputable def wSuite (y : Str) (a : Addr) : FS := (sSeq (sSet 5 (fArg mkLst (fCons (fIsE a (isx y "NoTerm") (fVar 4)) (fCons (fIsE a (isx y "NoSizes") (fVar 4)) (fCons (fIsE a (isx y "NoWorth") (fVar 4)) fNil)))))
  (sSeq (sSet 5 (f2 (gAdd false) (fVar 5) (fArg mkLst (fCons (fIsE a (isx y "NoKind") (fVar 4)) (fCons (fIsE a (isx y "TooMany") (fVar 4)) fNil)))))
  (sSeq (sSet 3 (fC (.str "other")))
  (sIf (fB (f2 gEq (fMth gCnt (fVar 5) (fCons (fC (.bl true)) fNil)) (fC (.int 1)))) (sSet 3 (f2 gIx (fArg mkLst (fCons (fC (.str "term")) (fCons (fC (.str "sizes")) (fCons (fC (.str "worth")) (fCons (fC (.str "other")) (fCons (fC (.str "great")) fNil)))))) (fMth gIdx (fVar 5) (fCons (fC (.bl true)) fNil)))) sNil))))
theorem word_eq (cl : Fn → FF) : b__law_word cl = sSeq (sSet 3 (fC (.str "told"))) (sSeq (sTryAs excs (fun y => isx y "SwapError") 4 (sExp (fArg (cl .f_done) (fCons (fVar 0) (fCons (fVar 1) (fCons (fVar 2) fNil))))) wSuite) (sRet (fVar 3))) := rfl
theorem mthR_lst {g : D → List D → Store → RE D} {a : FA} {ρ : FEnv} {ds : List D} {S : Store} : mthR g a ρ (.lst ds) S = (a ρ S).bnd fun ds' S2 => g (.lst ds) ds' S2 := rfl
theorem wsuite_go {y : Str} {w : String} (h1 : Wd4 y w) {x0 x1 x2 x3 x5 : Option D} {S : Store} : ∃ z, ∀ a : Addr, wSuite y a [x0, x1, x2, x3, some (.exn a), x5] S = .nx [x0, x1, x2, some (.str w), some (.exn a), z] S := by
  have h8 : sizeLine = 16777216 := rfl
  unfold wSuite
  have key : ∀ (y : Str) (w : String) (b1 b2 b3 b4 b5 : Bool) (j : Nat), isx y "NoTerm" = b1 → isx y "NoSizes" = b2 → isx y "NoWorth" = b3 → isx y "NoKind" = b4 → isx y "TooMany" = b5 → gCnt (.lst [.bl b1, .bl b2, .bl b3, .bl b4, .bl b5]) [.bl true] S = .ok (.int 1) S → gIdx (.lst [.bl b1, .bl b2, .bl b3, .bl b4, .bl b5]) [.bl true] S = .ok (.int (j : Int)) S → ([Str.ofString "term", Str.ofString "sizes", Str.ofString "worth", Str.ofString "other", Str.ofString "great"] : List Str)[j]? = some w →
      ∃ z, ∀ a : Addr, (sSeq (sSet 5 (fArg mkLst (fCons (fIsE a (isx y "NoTerm") (fVar 4)) (fCons (fIsE a (isx y "NoSizes") (fVar 4)) (fCons (fIsE a (isx y "NoWorth") (fVar 4)) fNil))))) (sSeq (sSet 5 (f2 (gAdd false) (fVar 5) (fArg mkLst (fCons (fIsE a (isx y "NoKind") (fVar 4)) (fCons (fIsE a (isx y "TooMany") (fVar 4)) fNil))))) (sSeq (sSet 3 (fC (.str "other")))
        (sIf (fB (f2 gEq (fMth gCnt (fVar 5) (fCons (fC (.bl true)) fNil)) (fC (.int 1)))) (sSet 3 (f2 gIx (fArg mkLst (fCons (fC (.str "term")) (fCons (fC (.str "sizes")) (fCons (fC (.str "worth")) (fCons (fC (.str "other")) (fCons (fC (.str "great")) fNil)))))) (fMth gIdx (fVar 5) (fCons (fC (.bl true)) fNil)))) sNil)))) [x0, x1, x2, x3, some (.exn a), x5] S = .nx [x0, x1, x2, some (.str w), some (.exn a), z] S := by
    intro y w b1 b2 b3 b4 b5 j i1 i2 i3 i4 i5 c1 c2 hj
    refine ⟨some (.lst [.bl b1, .bl b2, .bl b3, .bl b4, .bl b5]), fun a => ?_⟩
    have hx : ixR [.str "term", .str "sizes", .str "worth", .str "other", .str "great"] (j : Int) S = .ok (.str w) S := by
      rw [ixR_nat]
      match j, hj with
      | 0, hj => simp at hj; simp [hj]
      | 1, hj => simp at hj; simp [hj]
      | 2, hj => simp at hj; simp [hj]
      | 3, hj => simp at hj; simp [hj]
      | 4, hj => simp at hj; simp [hj]
      | j + 5, hj => simp at hj
    generalize (j : Int) = J at *
    simp [i1, i2, i3, i4, i5, h8, mthR_lst, c1, c2, hx]
  rcases h1 with ⟨rfl, rfl⟩ | ⟨rfl, rfl⟩ | ⟨rfl, rfl⟩ | ⟨rfl, rfl⟩
  · exact key "NoTerm" "term" true false false false false 0 (by decide +kernel) (by decide +kernel) (by decide +kernel) (by decide +kernel) (by decide +kernel) rfl rfl rfl
  · exact key "NoSizes" "sizes" false true false false false 1 (by decide +kernel) (by decide +kernel) (by decide +kernel) (by decide +kernel) (by decide +kernel) rfl rfl rfl
  · exact key "NoWorth" "worth" false false true false false 2 (by decide +kernel) (by decide +kernel) (by decide +kernel) (by decide +kernel) (by decide +kernel) rfl rfl rfl
  · exact key "TooMany" "great" false false false false true 4 (by decide +kernel) (by decide +kernel) (by decide +kernel) (by decide +kernel) (by decide +kernel) rfl rfl rfl
section
variable {n : Nat} {t x y r : D} {S : Store}
theorem word_told (e : ev n .f_done [t, x, y] S = .ok r S) : ev (n + 1) .f__law_word [t, x, y] S = .ok (.str "told") S := by
  rw [ev, word_eq]
  simp [sTryAs_ap, e]
theorem word_ex {c : Str} {w : String} (h : Wd4 c w) (e : ev n .f_done [t, x, y] S = .ex ⟨c, [], []⟩ S) : ev (n + 1) .f__law_word [t, x, y] S = .ok (.str w) S := by
  have hy : c ∈ excs := by rcases h with ⟨rfl, _⟩ | ⟨rfl, _⟩ | ⟨rfl, _⟩ | ⟨rfl, _⟩ <;> simp [excs]
  have hs : isx c "SwapError" = true := by rcases h with ⟨rfl, _⟩ | ⟨rfl, _⟩ | ⟨rfl, _⟩ | ⟨rfl, _⟩ <;> decide +kernel
  have et : sExp (fArg (ev n .f_done) (fCons (fVar 0) (fCons (fVar 1) (fCons (fVar 2) fNil)))) [some t, some x, some y, some (.str "told"), none, none] S = .ex ⟨c, [], []⟩ [some t, some x, some y, some (.str "told"), none, none] S := by
    simp [e]
  have hz := wsuite_go h (S := S) (x0 := some t) (x1 := some x) (x2 := some y) (x3 := some (.str "told")) (x5 := none)
  obtain ⟨z, hz⟩ := hz
  have ht := tryR_ex (es := excs) (sub := fun y => isx y "SwapError") (i := 4) (y := c) (ρ := [some t, some x, some y, some (.str "told"), none, none]) (S := S) (r := .nx [some t, some x, some y, some (.str w), none, z] S) (c := wSuite) hy hs (fun a => by
    show ((wSuite c a [some t, some x, some y, some (.str "told"), some (.exn a), none] S).clr 4).noX = _
    rw [hz a]; rfl)
  rw [ev, word_eq, fnB_3]
  show RS.fin (sSeq _ _ [some t, some x, some y, none, none, none] S) = _
  rw [sSeq_ap, sSet_ap, fC_ap, toS_ok, sb_nx]
  show RS.fin (sSeq _ _ [some t, some x, some y, some (.str "told"), none, none] S) = _
  rw [sSeq_ap, sTryAs_ap, et, ht, sb_nx]
  rfl
end
end Kz
namespace Kz
open PySem PySem.Spec PyProof.Rows L2 Kw
mutual
theorem sh0_S (S : Store) : ∀ (d : D) {p : PyData}, sh0 d = some p → shS S d = some p
  | .non, p, h => by simpa [sh0, shS] using h
  | .bl _, p, h => by simpa [sh0, shS] using h
  | .int _, p, h => by simpa [sh0, shS] using h
  | .str _, p, h => by simpa [sh0, shS] using h
  | .tup ds, p, h => by
    simp only [sh0, Option.map_eq_some_iff] at h
    obtain ⟨q, h1, h2⟩ := h
    simp only [shS, sh0L_S S ds h1, Option.map_some, h2]
  | .lst ds, p, h => by
    simp only [sh0, Option.map_eq_some_iff] at h
    obtain ⟨q, h1, h2⟩ := h
    simp only [shS, sh0L_S S ds h1, Option.map_some, h2]
  | .fls ds, p, h => by
    simp only [sh0, Option.map_eq_some_iff] at h
    obtain ⟨q, h1, h2⟩ := h
    simp only [shS, sh0L_S S ds h1, Option.map_some, h2]
  | .dic ks ds, p, h => by
    simp only [sh0, Option.map_eq_some_iff] at h
    obtain ⟨q, h1, h2⟩ := h
    simp only [shS, sh0L_S S ds h1, Option.map_some, h2]
  | .ins _ _ _, p, h => by simp [sh0] at h
  | .loc _, p, h => by simp [sh0] at h
  | .glo _, p, h => by simp [sh0] at h
  | .exn _, p, h => by simp [sh0] at h
  | .exo _ _ _, p, h => by simp [sh0] at h
  | .lam _ _ _, p, h => by simp [sh0] at h
theorem sh0L_S (S : Store) : ∀ (ds : List D) {ps : List PyData}, sh0L ds = some ps → shSL S ds = some ps
  | [], ps, h => by simpa [sh0L, shSL] using h
  | d :: ds, ps, h => by
    simp only [sh0L, Option.bind_eq_some_iff, Option.map_eq_some_iff] at h
    obtain ⟨a, h1, b, h2, h3⟩ := h
    simp only [shSL, sh0_S S d h1, sh0L_S S ds h2, Option.bind_some, Option.map_some, h3]
end
/-- it can be shown -/
def chk (d : D) : Bool := match sh0 d with
  | some p => p.showable && decide (p.depth ≤ 40) && decide (p.shown.length ≤ 100000)
  | none => false
def Sw (S : Store) (d : D) : Prop := ∃ p : PyData, shS S d = some p ∧ p.showable = true ∧ p.depth ≤ 40 ∧ p.shown.length ≤ 100000
theorem chk_sw {d : D} (h : chk d = true) (S : Store) : Sw S d := by
  unfold chk at h
  cases e : sh0 d with
  | none => rw [e] at h; cases h
  | some p =>
    rw [e] at h
    simp only [Bool.and_eq_true, decide_eq_true_eq] at h
    exact ⟨p, sh0_S S d e, h.1.1, h.1.2, h.2⟩
theorem sw_str {S : Store} {t x y : D} (hs : sysB S = true) (h1 : Sw S t) (h2 : Sw S x) (h3 : Sw S y) : ∃ z, gStrT [.tup [t, x, y]] S = .ok (.str z) S := by
  obtain ⟨p1, a1, a2, a3, a4⟩ := h1
  obtain ⟨p2, b1, b2, b3, b4⟩ := h2
  obtain ⟨p3, c1, c2, c3, c4⟩ := h3
  have e : shS S (.tup [t, x, y]) = some (.tuple [p1, p2, p3]) := by
    simp only [shS, shSL, a1, b1, c1, Option.bind_some, Option.map_some]
  refine ⟨(PyData.tuple [p1, p2, p3]).shown, ?_⟩
  unfold gStrT gRepr
  simp only [e]
  rw [if_pos]
  unfold okSh
  rw [hs]
  have l := tupLen (PyData.shownAll [p1, p2, p3])
  have l2 : piled (PyData.shownAll [p1, p2, p3]) ≤ 300010 := by
    simp only [PyData.shownAll, piled, List.map_cons, List.map_nil, List.sum_cons, List.sum_nil]
    omega
  simp only [Bool.and_eq_true, decide_eq_true_eq, Bool.or_true, and_true]
  refine ⟨⟨by simp [PyData.showable, PyData.showableAll, a2, b2, c2], by simp [PyData.depth, PyData.depthAll]; omega⟩, ?_⟩
  have : (PyData.tuple [p1, p2, p3]).shown = tupleText (PyData.shownAll [p1, p2, p3]) := by simp only [PyData.shown]
  rw [this]; omega
def fK (i : _root_.Fin 8) : _root_.Fin 4 → Kd
  | 0 => .base i
  | 1 => .both (.base i) .unit
  | 2 => .unit
  | 3 => .frm (.base i) (.base i)
def fGood : _root_.Fin 4 → List NestedKey
  | 0 => [.num 0, .num 1]
  | 1 => [.tup [.num 0, .tup []], .tup [.num 1, .tup []]]
  | 2 => [.tup []]
  | 3 => [.tup [.num 0, .num 0], .tup [.num 1, .num 0], .tup [.num 1, .num 1]]
def fBad : _root_.Fin 4 → List D
  | 0 => [.int 2, .int (-1), .bl true, .str "0", .non, .tup [.int 0], .lst [.int 0], .int 1000000000000000000000000000000]
  | 1 => [.tup [.int 0], .tup [.int 0, .tup [], .int 0], .lst [.int 0, .tup []], .tup [.int 2, .tup []], .tup [.int 0, .non], .tup [.int 0, .int 0], .tup []]
  | 2 => [.int 0, .non, .lst [], .tup [.int 0], .tup [.tup []], .str ""]
  | 3 => [.tup [.int 0], .tup [.int 0, .int 1, .int 0], .lst [.int 0, .int 1], .tup [.int 0, .int 2], .tup [.bl true, .int 0], .tup [.int 0, .non], .int 0, .tup []]
def fBody : _root_.Fin 3 → Tm
  | 0 => .giv 0
  | 1 => .unit
  | 2 => .both (.giv 0) .unit
def fRes (K : Kd) : _root_.Fin 3 → Kd
  | 0 => K
  | 1 => .unit
  | 2 => .both K .unit
def fNs (i : _root_.Fin 8) (s : Int) : List Int := ([1, 1, 1, 1, 999, 1, 1, 1] : List Int).set i.val s
def fZ (i : _root_.Fin 8) (s : Int) : Nat → Nat := sF (fNs i s)
def fTold (i : _root_.Fin 8) (k : _root_.Fin 4) (b : _root_.Fin 3) (w : NestedKey) : Option NestedKey :=
  (hld (fK i k) w).bind fun y => (wrk (fZ i 2) [.base i] 8 (.mk (fK i k) (fBody b)) .nil).bind fun u => (hwn (fZ i 2) [.base i] 8 u y).bind fun v => tlv (fZ i 2) [.base i] 8 (fRes (fK i k) b) v
def fStep (i : _root_.Fin 8) : Kd := .frm (.base i) (.base i)
def fGr (i : _root_.Fin 8) : _root_.Fin 4 → Tm
  | 0 => .mk (.frm (fStep i) (.base i)) (.giv 0)
  | 1 => .mk .unit (.mk (fStep i) .unit)
  | 2 => .mk (.both (.base i) (.frm (fStep i) .unit)) (.fst (.giv 0))
  | 3 => .mk (.base i) (.both (.giv 0) (.mk (fStep i) (.app (.giv 1) (.giv 0))))
def fGA (i : _root_.Fin 8) : _root_.Fin 4 → Kd
  | 0 => .frm (fStep i) (.base i)
  | 1 => .unit
  | 2 => .both (.base i) (.frm (fStep i) .unit)
  | 3 => .base i
def fGB (i : _root_.Fin 8) : _root_.Fin 4 → Kd
  | 0 => .frm (fStep i) (.base i)
  | 1 => .frm (fStep i) .unit
  | 2 => .base i
  | 3 => .both (.base i) (.frm (fStep i) (.base i))
theorem ns_ok {i : _root_.Fin 8} {s : Int} (h : s = 2 ∨ s = 7) : okSz (fNs i s) := by
  refine ⟨by simp [fNs], fun z hz => ?_⟩
  rcases List.mem_or_eq_of_mem_set hz with hz | rfl
  · simp at hz
    omega
  · omega
theorem good_ok : ∀ (i : _root_.Fin 8) (k : _root_.Fin 4) (b : _root_.Fin 3), (fGood k).all (fun w => isW (fZ i 2) (fK i k) (kD w) && ty (kD w) && sml (kD w) && chk (kD w) && (fTold i k b w).isSome) = true := by decide +kernel
theorem bad_ok : ∀ (i : _root_.Fin 8) (k : _root_.Fin 4), (fBad k).all (fun d => !isW (fZ i 2) (fK i k) d && ty d && sml d && chk d) = true := by decide +kernel
theorem tk_ok : ∀ (i : _root_.Fin 8) (k : _root_.Fin 4) (b : _root_.Fin 3), tk (fZ i 2) (fK i k) ≤ 5000 ∧ tk (fZ i 2) (fRes (fK i k) b) ≤ 5000 := by decide +kernel
theorem tk_gr : ∀ (i : _root_.Fin 8) (j : _root_.Fin 4), 5000 < tk (fZ i 7) (fGA i j) ∨ (tk (fZ i 7) (fGA i j) ≤ 5000 ∧ 5000 < tk (fZ i 7) (fGB i j)) := by decide +kernel
theorem dep_ok : ∀ (i : _root_.Fin 8) (k : _root_.Fin 4) (b : _root_.Fin 3), (fK i k).dep ≤ 5 ∧ (fRes (fK i k) b).dep ≤ 5 ∧ (fK i k).sz ≤ 100 ∧ (fRes (fK i k) b).sz ≤ 100 := by decide +kernel
theorem dep_gr : ∀ (i : _root_.Fin 8) (j : _root_.Fin 4), (fGA i j).dep ≤ 5 ∧ (fGB i j).dep ≤ 5 ∧ (fGA i j).sz ≤ 100 := by decide +kernel
theorem tk0 : ∀ (i : _root_.Fin 8) (k : _root_.Fin 4) (b : _root_.Fin 3), tkd [] (.mk (fK i k) (fBody b)) = some (.frm (fK i k) (fRes (fK i k) b)) := by decide +kernel
theorem tk1 : ∀ (i : _root_.Fin 8) (j : _root_.Fin 4), tkd [] (fGr i j) = some (.frm (fGA i j) (fGB i j)) := by decide +kernel
/-- a term of the law's: one to be told, or one that is too great -/
def fT (i : _root_.Fin 8) (k : _root_.Fin 4) : _root_.Fin 3 ⊕ _root_.Fin 4 → Tm
  | .inl b => .mk (fK i k) (fBody b)
  | .inr j => fGr i j
theorem kds_ok (i : _root_.Fin 8) (k : _root_.Fin 4) : ∀ c, kdsT 5 (fT i k c) ∧ (fT i k c).ht ≤ 5
  | .inl b => by
    have := dep_ok i k b
    refine ⟨⟨⟨this.1, by omega⟩, ?_⟩, ?_⟩
    · match b with
      | 0 => simp [fBody, kdsT]
      | 1 => simp [fBody, kdsT]
      | 2 => simp [fBody, kdsT]
    · match b with
      | 0 => simp [fT, fBody, Tm.ht]
      | 1 => simp [fT, fBody, Tm.ht]
      | 2 => simp [fT, fBody, Tm.ht]
  | .inr j => by
    match j with
    | 0 => exact ⟨by simp [fT, fGr, fStep, kdsT, Kd.dep, Kd.sz], by simp [fT, fGr, Tm.ht]⟩
    | 1 => exact ⟨by simp [fT, fGr, fStep, kdsT, Kd.dep, Kd.sz], by simp [fT, fGr, Tm.ht]⟩
    | 2 => exact ⟨by simp [fT, fGr, fStep, kdsT, Kd.dep, Kd.sz], by simp [fT, fGr, Tm.ht]⟩
    | 3 => exact ⟨by simp [fT, fGr, fStep, kdsT, Kd.dep, Kd.sz], by simp [fT, fGr, Tm.ht]⟩
end Kz
namespace Kz
open PySem PySem.Spec PyProof.Rows L2 Kw
theorem lone_sp {n : Nat} {S : Store} {w : Nat} {ds : List D} (h : 2 ≤ n) (hw : Well S w) (h0 : ds ≠ []) (hl : ds.length < 1000) : ∃ d S', ev n .f__law_one [.loc w, .lst ds] S = .ok d S' ∧ d ∈ ds ∧ WS S w S' := by
  obtain ⟨n, rfl, h'⟩ := up h
  have hp : 0 < ds.length := List.length_pos_iff.mpr h0
  obtain ⟨r, S', e, r0, r1, ws⟩ := draw_sp (m := (ds.length : Int)) h' hw (by omega) (by omega)
  have hr : r = ((r.toNat : Nat) : Int) := by omega
  have hlt : r.toNat < ds.length := by omega
  refine ⟨ds[r.toNat], S', ?_, List.getElem_mem _, ws⟩
  rw [ev, b__law_one]
  have hx := ixR_nat (ds := ds) (n := r.toNat) (S := S')
  rw [← hr, List.getElem?_eq_getElem hlt] at hx
  simp [e, hx]
theorem lone_cell {n : Nat} {S : Store} {w c : Nat} {ds : List D} (h : 2 ≤ n) (hw : Well S w) (hc : S[c]? = some (.lst ds)) (hne : c ≠ w) (h0 : ds ≠ []) (hl : ds.length < 1000) : ∃ d S', ev n .f__law_one [.loc w, .loc c] S = .ok d S' ∧ d ∈ ds ∧ WS S w S' := by
  obtain ⟨n, rfl, h'⟩ := up h
  have hp : 0 < ds.length := List.length_pos_iff.mpr h0
  obtain ⟨r, S', e, r0, r1, ws⟩ := draw_sp (m := (ds.length : Int)) h' hw (by omega) (by omega)
  have hr : r = ((r.toNat : Nat) : Int) := by omega
  have hlt : r.toNat < ds.length := by omega
  refine ⟨ds[r.toNat], S', ?_, List.getElem_mem _, ws⟩
  have hc' : S'[c]? = some (.lst ds) := by rw [ws.same c hne]; exact hc
  rw [ev, b__law_one]
  have hx := ixR_nat (ds := ds) (n := r.toNat) (S := S')
  rw [← hr, List.getElem?_eq_getElem hlt] at hx
  have hL : gLen [.loc c] S = .ok (.int (ds.length : Int)) S := by simp [gLen, seqA, cellOf_of hc]
  simp [e, hx, cellOf_of hc', hL]
theorem ten30 : (10 : Int) ^ 30 = 1000000000000000000000000000000 := by decide
theorem lfun_sp {n : Nat} {S : Store} {w : Nat} {i : _root_.Fin 8} (h : 2 ≤ n) (hw : Well S w) : ∃ (k : _root_.Fin 4) (S' : Store), ev n .f__law_function [.loc w, .int (i.val : Int)] S = .ok (.tup [(fK i k).d, .lst ((fGood k).map kD), .lst (fBad k)]) S' ∧ WS S w S' := by
  have h8 : sizeLine = 16777216 := rfl
  obtain ⟨m, rfl, h'⟩ := up h
  obtain ⟨r, S', e, r0, r1, ws⟩ := draw_sp (m := 4) h' hw (by omega) (by omega)
  have hr : r = 0 ∨ r = 1 ∨ r = 2 ∨ r = 3 := by omega
  rcases hr with rfl | rfl | rfl | rfl
  · refine ⟨0, S', ?_, ws⟩
    have eK : (fK i 0).d = .tup [.str "base", .int (i.val : Int)] := rfl
    rw [eK, ev, b__law_function]
    generalize (i.val : Int) = Z
    simp [e, h8, fGood, fBad, kD, ten30]
  · refine ⟨1, S', ?_, ws⟩
    have eK : (fK i 1).d = .tup [.str "both", .tup [.str "base", .int (i.val : Int)], .tup [.str "unit"]] := rfl
    rw [eK, ev, b__law_function]
    generalize (i.val : Int) = Z
    simp [e, h8, fGood, fBad, kD, kDs]
  · refine ⟨2, S', ?_, ws⟩
    have eK : (fK i 2).d = .tup [.str "unit"] := rfl
    rw [eK, ev, b__law_function]
    generalize (i.val : Int) = Z
    simp [e, h8, fGood, fBad, kD, kDs]
  · refine ⟨3, S', ?_, ws⟩
    have eK : (fK i 3).d = .tup [.str "from", .tup [.str "base", .int (i.val : Int)], .tup [.str "base", .int (i.val : Int)]] := rfl
    rw [eK, ev, b__law_function]
    generalize (i.val : Int) = Z
    simp [e, h8, fGood, fBad, kD, kDs]
def grL (i : _root_.Fin 8) : List D := [(fGr i 0).d, (fGr i 1).d, (fGr i 2).d, (fGr i 3).d]
theorem grL_mem {i : _root_.Fin 8} {d : D} (h : d ∈ grL i) : ∃ j, d = (fGr i j).d := by
  simp only [grL, List.mem_cons, List.not_mem_nil, or_false] at h
  rcases h with rfl | rfl | rfl | rfl
  · exact ⟨0, rfl⟩
  · exact ⟨1, rfl⟩
  · exact ⟨2, rfl⟩
  · exact ⟨3, rfl⟩
theorem lgreat_sp {n : Nat} {S : Store} {w : Nat} {i : _root_.Fin 8} (h : 2 ≤ n) (hw : Well S w) : ∃ (j : _root_.Fin 4) (S' : Store), ev n .f__law_great [.loc w, .int (i.val : Int)] S = .ok (fGr i j).d S' ∧ WS S w S' := by
  have h8 : sizeLine = 16777216 := rfl
  obtain ⟨m, rfl, h'⟩ := up h
  have hwl := lt_of_at hw.choose_spec.choose_spec.choose_spec.2.2
  let S1 : Store := S ++ [.lst [(fGr i 0).d, (fGr i 1).d]]
  let S2 : Store := S ++ [.lst (grL i)]
  have w2 : Well S2 w := well_app hw
  obtain ⟨r, S3, e, r0, r1, ws⟩ := draw_sp (n := m) (m := 4) h' w2 (by omega) (by omega)
  have c3 : S3[S.length]? = some (.lst (grL i)) := by
    rw [ws.same _ (by omega)]
    show (S ++ _)[S.length]? = _
    rw [List.getElem?_append_right (Nat.le_refl _), Nat.sub_self]; rfl
  have hr : r = ((r.toNat : Nat) : Int) := by omega
  have hlt : r.toNat < (grL i).length := by simp [grL]; omega
  have hx : gIx (.loc S.length) (.int r) S3 = .ok ((grL i)[r.toNat]) S3 := by
    have := ixR_nat (ds := grL i) (n := r.toNat) (S := S3)
    rw [← hr, List.getElem?_eq_getElem hlt] at this
    simp [cellOf_of c3, this]
  obtain ⟨j, hj⟩ := grL_mem (List.getElem_mem hlt)
  have wx : WX S w S3 := (WX.app (T := [.lst (grL i)]) (WS.refl hw).wx).trans ws.wx
  obtain ⟨S4, e4, w4⟩ := wx.cut (d := (grL i)[r.toNat]) hwl (by
    rw [hj]
    have : ∀ t : Tm, t.d.under S.length = true := by
      intro t
      induction t with
      | giv k => simp [Tm.d, D.under, underL]
      | unit => simp [Tm.d, D.under, underL]
      | mk A b ih => simp [Tm.d, D.under, underL, ih, keyOf_under _ (keyOf_kd A)]
      | app a b ia ib => simp [Tm.d, D.under, underL, ia, ib]
      | both a b ia ib => simp [Tm.d, D.under, underL, ia, ib]
      | fst a ia => simp [Tm.d, D.under, underL, ia]
      | snd a ia => simp [Tm.d, D.under, underL, ia]
    exact this _)
  refine ⟨j, S4, ?_, w4⟩
  rw [← hj, ← e4, ev, b__law_great]
  show cutR S (RS.fin _) = _
  congr 1
  have at1 : S1[S.length]? = some (.lst [(fGr i 0).d, (fGr i 1).d]) := by
    show (S ++ _)[S.length]? = _
    rw [List.getElem?_append_right (Nat.le_refl _), Nat.sub_self]; rfl
  have a1 : ∀ (x : D) (ds : List D) (T : Store), T[S.length]? = some (.lst ds) → ds.length < 100 → gAppend (.loc S.length) [x] T = .ok .non (T.set S.length (.lst (ds ++ [x]))) := fun x ds T hT hl => by
    simp [gAppend, cellM_of hT]; omega
  have b2 := a1 (fGr i 2).d _ S1 at1 (by simp)
  have at2 : (S1.set S.length (.lst ([(fGr i 0).d, (fGr i 1).d] ++ [(fGr i 2).d])))[S.length]? = some (.lst ([(fGr i 0).d, (fGr i 1).d] ++ [(fGr i 2).d])) := List.getElem?_set_self (by simp [S1])
  have b3 := a1 (fGr i 3).d _ _ at2 (by simp)
  have e2 : (S1.set S.length (.lst ([(fGr i 0).d, (fGr i 1).d] ++ [(fGr i 2).d]))).set S.length (.lst ([(fGr i 0).d, (fGr i 1).d] ++ [(fGr i 2).d] ++ [(fGr i 3).d])) = S2 := by
    simp [S1, S2, grL]
  rw [e2] at b3
  have s1 : 1 ≤ sizeLine := by omega
  have s2 : 2 ≤ sizeLine := by omega
  have s3 : 3 ≤ sizeLine := by omega
  have q1 : sSet 2 (fArg mkTup (fCons (fC (.str "base")) (fCons (fVar 1) fNil))) [some (.loc w), some (.int (i.val : Int)), none, none, none] S = .nx [some (.loc w), some (.int (i.val : Int)), some (Kd.base i).d, none, none] S := by
    have : (Kd.base i).d = .tup [.str "base", .int (i.val : Int)] := rfl
    rw [this]
    generalize (i.val : Int) = Z
    simp [s2]
  have q2 : sSet 3 (fArg mkTup (fCons (fC (.str "from")) (fCons (fVar 2) (fCons (fVar 2) fNil)))) [some (.loc w), some (.int (i.val : Int)), some (Kd.base i).d, none, none] S = .nx [some (.loc w), some (.int (i.val : Int)), some (Kd.base i).d, some (fStep i).d, none] S := by
    have : (fStep i).d = .tup [.str "from", (Kd.base i).d, (Kd.base i).d] := rfl
    rw [this]
    generalize (i.val : Int) = Z
    generalize (Kd.base i).d = XB
    simp [s3]
  have f0 : (fGr i 0).d = .tup [.str "make", .tup [.str "from", (fStep i).d, (Kd.base i).d], .tup [.str "given", .int 0]] := rfl
  have f1 : (fGr i 1).d = .tup [.str "make", .tup [.str "unit"], .tup [.str "make", (fStep i).d, .tup [.str "unit"]]] := rfl
  have f2' : (fGr i 2).d = .tup [.str "make", .tup [.str "both", (Kd.base i).d, .tup [.str "from", (fStep i).d, .tup [.str "unit"]]], .tup [.str "first", .tup [.str "given", .int 0]]] := rfl
  have f3 : (fGr i 3).d = .tup [.str "make", (Kd.base i).d, .tup [.str "both", .tup [.str "given", .int 0], .tup [.str "make", (fStep i).d, .tup [.str "do", .tup [.str "given", .int 1], .tup [.str "given", .int 0]]]]] := rfl
  have q3 : ∀ (z : Int) (XB XS : D), sSet 4 (fArg mkCel (fCons (fArg mkTup (fCons (fC (.str "make")) (fCons (fArg mkTup (fCons (fC (.str "from")) (fCons (fVar 3) (fCons (fVar 2) fNil)))) (fCons (fArg mkTup (fCons (fC (.str "given")) (fCons (fC (.int 0)) fNil))) fNil)))) (fCons (fArg mkTup (fCons (fC (.str "make")) (fCons (fArg mkTup (fCons (fC (.str "unit")) fNil)) (fCons (fArg mkTup (fCons (fC (.str "make")) (fCons (fVar 3) (fCons (fArg mkTup (fCons (fC (.str "unit")) fNil)) fNil)))) fNil)))) fNil)))
      [some (.loc w), some (.int z), some XB, some XS, none] S = .nx [some (.loc w), some (.int z), some XB, some XS, some (.loc S.length)] (S ++ [.lst [.tup [.str "make", .tup [.str "from", XS, XB], .tup [.str "given", .int 0]], .tup [.str "make", .tup [.str "unit"], .tup [.str "make", XS, .tup [.str "unit"]]]]]) := by
    intro z XB XS
    simp [s1, s2, s3]
  have q3' := q3 (i.val : Int) (Kd.base i).d (fStep i).d
  rw [← f0, ← f1] at q3'
  have mm : ∀ (T : Store) (xs : List D) (g : D → List D → Store → RE D) (a : FA) (r : FEnv), T[S.length]? = some (.lst xs) → mthR g a r (.loc S.length) T = (a r T).bnd fun ds S2 => g (.loc S.length) ds S2 := fun T xs g a r h => mthR_loc (cellOf_of h)
  have q4 : ∀ (z : Int) (XB XS : D) (T T' : Store) (xs : List D), T[S.length]? = some (.lst xs) → gAppend (.loc S.length) [.tup [.str "make", .tup [.str "both", XB, .tup [.str "from", XS, .tup [.str "unit"]]], .tup [.str "first", .tup [.str "given", .int 0]]]] T = .ok .non T' →
      sExp (fMth gAppend (fVar 4) (fCons (fArg mkTup (fCons (fC (.str "make")) (fCons (fArg mkTup (fCons (fC (.str "both")) (fCons (fVar 2) (fCons (fArg mkTup (fCons (fC (.str "from")) (fCons (fVar 3) (fCons (fArg mkTup (fCons (fC (.str "unit")) fNil)) fNil)))) fNil)))) (fCons (fArg mkTup (fCons (fC (.str "first")) (fCons (fArg mkTup (fCons (fC (.str "given")) (fCons (fC (.int 0)) fNil))) fNil))) fNil)))) fNil))
      [some (.loc w), some (.int z), some XB, some XS, some (.loc S.length)] T = .nx [some (.loc w), some (.int z), some XB, some XS, some (.loc S.length)] T' := by
    intro z XB XS T T' xs h1 h2
    simp [s1, s2, s3, mm T xs _ _ _ h1, h2]
  have q5 : ∀ (z : Int) (XB XS : D) (T T' : Store) (xs : List D), T[S.length]? = some (.lst xs) → gAppend (.loc S.length) [.tup [.str "make", XB, .tup [.str "both", .tup [.str "given", .int 0], .tup [.str "make", XS, .tup [.str "do", .tup [.str "given", .int 1], .tup [.str "given", .int 0]]]]]] T = .ok .non T' →
      sExp (fMth gAppend (fVar 4) (fCons (fArg mkTup (fCons (fC (.str "make")) (fCons (fVar 2) (fCons (fArg mkTup (fCons (fC (.str "both")) (fCons (fArg mkTup (fCons (fC (.str "given")) (fCons (fC (.int 0)) fNil))) (fCons (fArg mkTup (fCons (fC (.str "make")) (fCons (fVar 3) (fCons (fArg mkTup (fCons (fC (.str "do")) (fCons (fArg mkTup (fCons (fC (.str "given")) (fCons (fC (.int 1)) fNil))) (fCons (fArg mkTup (fCons (fC (.str "given")) (fCons (fC (.int 0)) fNil))) fNil)))) fNil)))) fNil)))) fNil)))) fNil))
      [some (.loc w), some (.int z), some XB, some XS, some (.loc S.length)] T = .nx [some (.loc w), some (.int z), some XB, some XS, some (.loc S.length)] T' := by
    intro z XB XS T T' xs h1 h2
    simp [s1, s2, s3, mm T xs _ _ _ h1, h2]
  rw [f2'] at b2
  have q4' := q4 (i.val : Int) (Kd.base i).d (fStep i).d S1 _ _ at1 b2
  rw [← f2'] at q4'
  rw [f3] at b3
  have q5' := q5 (i.val : Int) (Kd.base i).d (fStep i).d _ _ _ at2 b3
  show RS.fin (sSeq _ _ [some (.loc w), some (.int (i.val : Int)), none, none, none] S) = _
  rw [sSeq_ap, q1, sb_nx, sSeq_ap, q2, sb_nx, sSeq_ap, q3', sb_nx, sSeq_ap, q4', sb_nx, sSeq_ap, q5', sb_nx]
  generalize (Kd.base i).d = XB
  generalize (fStep i).d = XS
  generalize (i.val : Int) = Z
  simp [e, hx]
end Kz
namespace Kz
open PySem PySem.Spec PyProof.Rows L2 Kw
theorem sure_in_no {q n : Nat} {t : Tm} {S : Store} (hk : kdsT q t) (hq : q + t.ht < 200) (hn : t.ht + 6 ≤ n) (h : tkd [] t = none) : ev n .f_sure_kind_in [t.d, .lst []] S = .ex ⟨"NoTerm", [], []⟩ S := by
  obtain ⟨m, rfl, h'⟩ := up (d := t.ht + 5) hn
  have e := kind_in_ok t (Γ := []) (n := m) (S := S) (fun A hA => nomatch hA) hk hq h' (by simp; omega)
  rw [h] at e
  simp only [oK, List.map_nil] at e
  rw [ev, b_sure_kind_in]
  simp [e]
theorem sure_in_yes {q n : Nat} {t : Tm} {k : Kd} {S : Store} (hk : kdsT q t) (hq : q + t.ht < 200) (hn : t.ht + 6 ≤ n) (h : tkd [] t = some k) : ev n .f_sure_kind_in [t.d, .lst []] S = .ok k.d S := by
  have := sure_in_ok (n := n) (S := S) (Γ := []) (q := q) (fun A hA => nomatch hA) hk hq hn (by simp; omega) h
  simpa using this
def oddT (K : Kd) (T : Tm) (Tc : List D) : List D :=
  [.tup [.str "given", .int 0], .tup [.str "unit"], .non, .tup [.str "make", K.d, .tup [.str "given", .int 1]], .tup [.str "make", .non, .tup [.str "unit"]],
   .tup [.str "both", T.d, T.d], .tup [.str "do", T.d, T.d], .tup [.str "first", T.d], .lst Tc, .tup [.str "make", K.d], .tup [.str "make", .tup [.str "base", .int 9], .tup [.str "unit"]]]
theorem kd_ne (A B : Kd) : A ≠ .frm A B := by
  intro h
  have := congrArg Kd.dep h
  simp only [Kd.dep] at this
  omega
theorem jd_no {d : D} {n f q : Nat} {S : Store} (l : lay d) (hf : hD d < f) (hh : hD d ≤ 40) (hnd : nd d ≤ 8000000) (hn : 50 ≤ n) (h : jdf f [] d = none) : ev n .f_sure_kind_in [d, .lst []] S = .ex ⟨"NoTerm", [], []⟩ S := by
  have := sure_in_gen (f := f) (Γ := []) (x := .lst []) (n := n) (q := 0) (S := S) hf (fun A hA => nomatch hA) l hnd (.inl rfl) (by omega) (by omega) (by simp; omega)
  rw [h] at this
  exact this
theorem odd_no {K A B : Kd} {T : Tm} {Tc : List D} (hT : kdsT 5 T ∧ T.ht ≤ 5) (hK : K.dep ≤ 5 ∧ K.sz ≤ 100) (hk : tkd [] T = some (.frm A B)) (hc : T.d = .tup Tc) (hl : lay T.d) (hs : nd T.d ≤ 1000) {d x y : D} (hd : d ∈ oddT K T Tc) {n : Nat} (hn : 60 ≤ n) {S : Store} :
    ev n .f_done [d, x, y] S = .ex ⟨"NoTerm", [], []⟩ S := by
  simp only [oddT, List.mem_cons, List.not_mem_nil, or_false] at hd
  rcases hd with rfl | rfl | rfl | rfl | rfl | rfl | rfl | rfl | rfl | rfl | rfl
  · exact done_noterm (fun m hm => sure_in_no (t := .giv 0) (q := 5) (by simp [kdsT]) (by simp [Tm.ht]) (by simp only [Tm.ht]; omega) rfl) (by omega)
  · exact done_nofun (K := .unit) (fun _ _ h => by cases h) (fun m hm => sure_in_yes (t := .unit) (q := 5) (by simp [kdsT]) (by simp [Tm.ht]) (by simp only [Tm.ht]; omega) rfl) (by omega)
  · exact done_noterm (fun m hm => jd_no (f := 1) (q := 0) (by simp [lay, pl]) (by simp [hD]) (by simp [hD]) (by simp [nd]) (by omega) (by simp [jdf])) (by omega)
  · exact done_noterm (fun m hm => sure_in_no (t := .mk K (.giv 1)) (q := 5) ⟨⟨hK.1, by omega⟩, by simp [kdsT]⟩ (by simp [Tm.ht]) (by simp only [Tm.ht]; omega) (by simp [tkd])) (by omega)
  · exact done_noterm (fun m hm => jd_no (f := 3) (q := 0) (by simp [lay, pl, plL]) (by simp [hD, hDL]) (by simp [hD, hDL]) (by simp [nd, ndL]) (by omega) (by
      have : toK .non = none := by
        cases h : toK .non with
        | none => rfl
        | some k => have := toK_some h; cases k <;> simp [Kd.d] at this
      simp [jdf, this])) (by omega)
  · exact done_nofun (K := .both (.frm A B) (.frm A B)) (fun _ _ h => by cases h) (fun m hm => sure_in_yes (t := .both T T) (q := 5) ⟨hT.1, hT.1⟩ (by simp only [Tm.ht]; omega) (by simp only [Tm.ht]; omega) (by simp [tkd, hk])) (by omega)
  · exact done_noterm (fun m hm => sure_in_no (t := .app T T) (q := 5) ⟨hT.1, hT.1⟩ (by simp only [Tm.ht]; omega) (by simp only [Tm.ht]; omega) (by
      have := kd_ne A B
      simp [tkd, hk, this])) (by omega)
  · exact done_noterm (fun m hm => sure_in_no (t := .fst T) (q := 5) hT.1 (by simp only [Tm.ht]; omega) (by simp only [Tm.ht]; omega) (by simp [tkd, hk])) (by omega)
  · exact done_noterm (fun m hm => jd_no (f := 1) (q := 0) (by
      have := lay_tup (hc ▸ hl)
      simpa [lay, pl] using this) (by simp [hD]) (by simp [hD]) (by simp [nd]) (by omega) (by simp [jdf])) (by omega)
  · have hh := hD_kd K
    have lk := lay_kd K
    have nk := nd_kd K
    exact done_noterm (fun m hm => jd_no (f := 10) (q := 0) (by
      simp only [lay, pl, plL] at lk ⊢
      simp [lk]) (by simp [hD, hDL]; omega) (by simp [hD, hDL]; omega) (by simp [nd, ndL]; omega) (by omega) (by simp [jdf])) (by omega)
  · exact done_noterm (fun m hm => jd_no (f := 3) (q := 0) (by simp [lay, pl, plL]) (by simp [hD, hDL]) (by simp [hD, hDL]) (by simp [nd, ndL]) (by omega) (by
      have : toK (.tup [.str "base", .int 9]) = none := by
        cases h : toK (.tup [.str "base", .int 9]) with
        | none => rfl
        | some k =>
          have := toK_some h
          cases k <;> simp [Kd.d] at this
          rename_i i
          have := i.isLt
          omega
      simp [jdf, this])) (by omega)
def oddS (i : _root_.Fin 8) (s : Int) : List D :=
  [.lst (cutL ((fNs i s).map .int) (some 1) none), .lst ((fNs i s).map .int ++ [.int 1]), .lst (.int 0 :: cutL ((fNs i s).map .int) (some 1) none), .lst (cutL ((fNs i s).map .int) none (some 7) ++ [.int 1000]),
   .lst (cutL ((fNs i s).map .int) none (some 7) ++ [.bl true]), .tup ((fNs i s).map .int), .non, .str "sizes", .lst (cutL ((fNs i s).map .int) none (some 7) ++ [.str "1"]), .dic [] [], .int 8]
def szB : D → Bool
  | .lst ds => plL ds && decide (ds.length ≤ 100) && (decide (ds.length ≠ 8) || !(ds.all (inR 1 999)))
  | .loc _ => false
  | .fls _ => false
  | .glo _ => false
  | .ins _ _ _ => false
  | .exn _ => false
  | .exo _ _ _ => false
  | .lam _ _ _ => false
  | _ => true
theorem szB_no {x : D} (h : szB x = true) : NoSz x := by
  intro S
  cases x with
  | lst ds =>
    simp only [szB, Bool.and_eq_true, Bool.or_eq_true, decide_eq_true_eq, Bool.not_eq_true'] at h
    exact .inr ⟨ds, rfl, h.1.1, h.1.2, h.2⟩
  | non => left; simp
  | bl b => left; simp
  | int i => left; simp
  | str s => left; simp
  | tup ds => left; simp
  | dic ks ds => left; simp [isiR, tyD]; decide +kernel
  | _ => simp [szB] at h
theorem oddS_ok : ∀ (i : _root_.Fin 8), (oddS i 2).all (fun d => szB d && chk d) = true ∧ (oddS i 7).all (fun d => szB d && chk d) = true := by decide +kernel
def fGt (i : _root_.Fin 8) (j : _root_.Fin 4) : List D := match (fGr i j).d with
  | .tup ds => ds
  | _ => []
theorem fGt_eq : ∀ (i : _root_.Fin 8) (j : _root_.Fin 4), (fGr i j).d = .tup (fGt i j) := by
  intro i j
  revert j
  intro j
  match j with
  | 0 => rfl
  | 1 => rfl
  | 2 => rfl
  | 3 => rfl
def wt : Tm → Nat
  | .giv _ => 40
  | .unit => 40
  | .mk A b => 40 * A.sz + 60 + wt b
  | .app a b => wt a + wt b + 60
  | .both a b => wt a + wt b + 60
  | .fst a => wt a + 60
  | .snd a => wt a + 60
def gsm : Tm → Bool
  | .giv k => decide (k < 10)
  | .unit => true
  | .mk _ b => gsm b
  | .app a b => gsm a && gsm b
  | .both a b => gsm a && gsm b
  | .fst a => gsm a
  | .snd a => gsm a
theorem sh_w (x : Str) (L : Nat) (h : (PyData.str x).shown.length ≤ L) : Sh (.str x) L 30 false false := Sh.str h
theorem sh_int10 {k : Nat} (h : k < 10) : Sh (.int (k : Int)) 5 30 false false := by
  refine Sh.int ?_ ?_
  · have : k.log2 ≤ k := Nat.log2_le_self k
    simp; omega
  · match k, h with
    | 0, _ => decide +kernel
    | 1, _ => decide +kernel
    | 2, _ => decide +kernel
    | 3, _ => decide +kernel
    | 4, _ => decide +kernel
    | 5, _ => decide +kernel
    | 6, _ => decide +kernel
    | 7, _ => decide +kernel
    | 8, _ => decide +kernel
    | 9, _ => decide +kernel
    | k + 10, h => omega
theorem Sh.up {d : D} {L L' q q' : Nat} (h : Sh d L q false false) (e1 : L ≤ L') (e2 : q ≤ q') : Sh d L' q' false false := h.mono e1 e2 id id
theorem sh_tm : ∀ t : Tm, gsm t = true → kdsT 5 t → Sh t.d (wt t) (t.ht + 32) false false
  | .giv k, g, _ => by
    simp only [gsm, decide_eq_true_eq] at g
    exact (Sh.tup (.cons (sh_w "given" 10 (by decide +kernel)) (.cons (sh_int10 g) .nil))).up (by simp [wt]) (by simp [Tm.ht])
  | .unit, _, _ => (Sh.tup (.cons (sh_w "unit" 10 (by decide +kernel)) .nil)).up (by simp [wt]) (by simp [Tm.ht])
  | .mk A b, g, h => by
    have := sh_tm b g h.2
    have hd := h.1.1
    exact (Sh.tup (.cons ((sh_w "make" 10 (by decide +kernel)).up (Nat.le_refl _) (by omega)) (.cons ((sh_kd A).up (Nat.le_refl _) (by omega : A.dep + 1 ≤ b.ht + 32)) (.cons this .nil)))).up (by simp [wt]; omega) (by simp only [Tm.ht]; omega)
  | .app a b, g, h => by
    simp only [gsm, Bool.and_eq_true] at g
    have ha := sh_tm a g.1 h.1
    have hb := sh_tm b g.2 h.2
    exact (Sh.tup (.cons ((sh_w "do" 10 (by decide +kernel)).up (Nat.le_refl _) (by omega : 30 ≤ max a.ht b.ht + 32)) (.cons (ha.up (Nat.le_refl _) (by omega)) (.cons (hb.up (Nat.le_refl _) (by omega)) .nil)))).up (by simp [wt]; omega) (by simp only [Tm.ht]; omega)
  | .both a b, g, h => by
    simp only [gsm, Bool.and_eq_true] at g
    have ha := sh_tm a g.1 h.1
    have hb := sh_tm b g.2 h.2
    exact (Sh.tup (.cons ((sh_w "both" 10 (by decide +kernel)).up (Nat.le_refl _) (by omega : 30 ≤ max a.ht b.ht + 32)) (.cons (ha.up (Nat.le_refl _) (by omega)) (.cons (hb.up (Nat.le_refl _) (by omega)) .nil)))).up (by simp [wt]; omega) (by simp only [Tm.ht]; omega)
  | .fst a, g, h => by
    have ha := sh_tm a g h
    exact (Sh.tup (.cons ((sh_w "first" 10 (by decide +kernel)).up (Nat.le_refl _) (by omega : 30 ≤ a.ht + 32)) (.cons ha .nil))).up (by simp [wt]; omega) (by simp only [Tm.ht]; omega)
  | .snd a, g, h => by
    have ha := sh_tm a g h
    exact (Sh.tup (.cons ((sh_w "second" 10 (by decide +kernel)).up (Nat.le_refl _) (by omega : 30 ≤ a.ht + 32)) (.cons ha .nil))).up (by simp [wt]; omega) (by simp only [Tm.ht]; omega)
theorem Sh.sw {d : D} {L q : Nat} {hl : Bool} (h : Sh d L q false hl) (h1 : L ≤ 100000) (h2 : q ≤ 40) (S : Store) : Sw S d := by
  obtain ⟨p, a1, a2, a3, a4, a5, a6⟩ := h
  exact ⟨p, a1 S, a2, by omega, by omega⟩
theorem odd_sw {K : Kd} {T : Tm} {Tc : List D} (hK : K.dep ≤ 5 ∧ K.sz ≤ 100) (hT : kdsT 5 T ∧ T.ht ≤ 5) (hc : T.d = .tup Tc) (g : gsm T = true) (hw : wt T ≤ 10000) {d : D} (hd : d ∈ oddT K T Tc) (S : Store) : Sw S d := by
  have sT := sh_tm T g hT.1
  have sK := sh_kd K
  have s1 := sh_tm (.giv 0) rfl (by simp [kdsT])
  have s2 := sh_tm .unit rfl (by simp [kdsT])
  have s3 := sh_tm (.mk K (.giv 1)) rfl ⟨⟨hK.1, by omega⟩, by simp [kdsT]⟩
  have s4 := sh_tm (.both T T) (by simp [gsm, g]) ⟨hT.1, hT.1⟩
  have s5 := sh_tm (.app T T) (by simp [gsm, g]) ⟨hT.1, hT.1⟩
  have s6 := sh_tm (.fst T) g hT.1
  have w1 : wt (.mk K (.giv 1)) ≤ 100000 := by simp only [wt]; omega
  have w2 : wt (.both T T) ≤ 100000 := by simp only [wt]; omega
  have w3 : wt (.app T T) ≤ 100000 := by simp only [wt]; omega
  have w4 : wt (.fst T) ≤ 100000 := by simp only [wt]; omega
  have h1 : (Tm.mk K (.giv 1)).ht + 32 ≤ 40 := by simp [Tm.ht]
  have h2 : (Tm.both T T).ht + 32 ≤ 40 := by simp only [Tm.ht]; omega
  have h3 : (Tm.app T T).ht + 32 ≤ 40 := by simp only [Tm.ht]; omega
  have h4 : (Tm.fst T).ht + 32 ≤ 40 := by simp only [Tm.ht]; omega
  simp only [oddT, List.mem_cons, List.not_mem_nil, or_false] at hd
  rcases hd with rfl | rfl | rfl | rfl | rfl | rfl | rfl | rfl | rfl | rfl | rfl
  · exact s1.sw (by decide) (by decide) S
  · exact s2.sw (by decide) (by decide) S
  · exact (Sh.non (q := 0) (hd := false) (hl := false)).sw (by decide) (by decide) S
  · exact s3.sw w1 h1 S
  · exact (Sh.tup (.cons ((sh_w "make" 10 (by decide +kernel)).up (q' := 34) (Nat.le_refl _) (by decide)) (.cons (Sh.non (q := 34)) (.cons (s2.up (q' := 34) (Nat.le_refl _) (by decide)) .nil)))).sw (by decide) (by decide) S
  · exact s4.sw w2 h2 S
  · exact s5.sw w3 h3 S
  · exact s6.sw w4 h4 S
  · obtain ⟨p, a1, a2, a3, a4, _⟩ := sT
    rw [hc] at a1
    have e0 : ∀ S : Store, ∃ ps, shSL S Tc = some ps ∧ p = .tuple ps := fun S => by
      have := a1 S
      simp only [shS, Option.map_eq_some_iff] at this
      obtain ⟨ps, h1, h2⟩ := this
      exact ⟨ps, h1, h2.symm⟩
    obtain ⟨ps, e1, rfl⟩ := e0 S
    refine ⟨.list ps, by simp only [shS, e1, Option.map_some], by simpa [PyData.showable] using a2, by have := a3; simp only [PyData.depth] at this ⊢; omega, ?_⟩
    have l := lstLen (PyData.shownAll ps)
    have l2 := piled_le_tupleText (PyData.shownAll ps)
    simp only [PyData.shown] at a4 ⊢
    omega
  · exact (Sh.tup (.cons (sh_w "make" 10 (by decide +kernel)) (.cons (sK.up (q' := 30) (Nat.le_refl _) (by omega)) .nil))).sw (by omega) (by decide) S
  · exact (Sh.tup (.cons ((sh_w "make" 10 (by decide +kernel)).up (q' := 34) (Nat.le_refl _) (by decide)) (.cons (Sh.tup (.cons (Sh.str (q := 33) (L := 10) (by decide +kernel)) (.cons ((sh_int10 (k := 9) (by decide)).up (q' := 33) (Nat.le_refl _) (by decide)) .nil))) (.cons (s2.up (q' := 34) (Nat.le_refl _) (by decide)) .nil)))).sw (by decide) (by decide) S
end Kz
namespace Kz
open PySem PySem.Spec PyProof.Rows L2 Kw
noncomputable def E0 (cl : Fn → FF) : FS := (sSet 2 (fArg (cl .f__law_well) (fCons (fVar 1) fNil)))
noncomputable def E1 (cl : Fn → FF) : FS := (sSet 3 (fArg (cl .f__law_draw) (fCons (fVar 2) (fCons (fC (.int 8)) fNil))))
noncomputable def E2 (cl : Fn → FF) : FS := (sAsg (fArg (cl .f__law_function) (fCons (fVar 2) (fCons (fVar 3) fNil))) (gTu 3 (gsCons (gN 4) (gsCons (gN 5) (gsCons (gN 6) gsNil)))))
noncomputable def E3 (cl : Fn → FF) : FS := (sSet 7 (fArg mkTup (fCons (fC (.str "make")) (fCons (fVar 4) (fCons (fArg (cl .f__law_one) (fCons (fVar 2) (fCons (fArg mkLst (fCons (fArg mkTup (fCons (fC (.str "given")) (fCons (fC (.int 0)) fNil))) (fCons (fArg mkTup (fCons (fC (.str "unit")) fNil)) (fCons (fArg mkTup (fCons (fC (.str "both")) (fCons (fArg mkTup (fCons (fC (.str "given")) (fCons (fC (.int 0)) fNil))) (fCons (fArg mkTup (fCons (fC (.str "unit")) fNil)) fNil)))) fNil)))) fNil))) fNil)))))
noncomputable def E4 (cl : Fn → FF) : FS := (sSet 8 (fArg mkCel (fCons (fC (.int 1)) (fCons (fC (.int 1)) (fCons (fC (.int 1)) (fCons (fC (.int 1)) (fCons (fC (.int 999)) (fCons (fC (.int 1)) (fCons (fC (.int 1)) (fCons (fC (.int 1)) fNil))))))))))
noncomputable def E5 (cl : Fn → FF) : FS := (sAsg (fC (.int 2)) (gSb (fVar 8) (fVar 3)))
noncomputable def E6 (cl : Fn → FF) : FS := (sSet 9 (fArg (cl .f__law_one) (fCons (fVar 2) (fCons (fVar 5) fNil))))
noncomputable def E7 (cl : Fn → FF) : FS := (sSet 10 (fC (.str "told")))
noncomputable def E8 (cl : Fn → FF) : FS := (sIf (fB (f2 gEq (fArg (cl .f__law_draw) (fCons (fVar 2) (fCons (fC (.int 2)) fNil))) (fC (.int 0)))) (sSeq (sSet 9 (fArg (cl .f__law_one) (fCons (fVar 2) (fCons (fVar 6) fNil)))) (sSet 10 (fC (.str "worth")))) sNil)
noncomputable def E9 (cl : Fn → FF) : FS := (sIf (fB (f2 gEq (fArg (cl .f__law_draw) (fCons (fVar 2) (fCons (fC (.int 4)) fNil))) (fC (.int 0)))) (sSeq (sSet 7 (fArg (cl .f__law_great) (fCons (fVar 2) (fCons (fVar 3) fNil)))) (sSeq (sAsg (fC (.int 7)) (gSb (fVar 8) (fVar 3))) (sSet 10 (fC (.str "great"))))) sNil)
noncomputable def E10 (cl : Fn → FF) : FS := (sIf (fB (f2 gEq (fArg (cl .f__law_draw) (fCons (fVar 2) (fCons (fC (.int 3)) fNil))) (fC (.int 0)))) (sSeq (sSet 13 (fArg mkCel (fCons (fSl (gSl false) (fVar 8) (fSome (fC (.int 1))) fNone) (fCons (f2 (gAdd false) (fVar 8) (fArg mkLst (fCons (fC (.int 1)) fNil))) (fCons (f2 (gAdd false) (fArg mkLst (fCons (fC (.int 0)) fNil)) (fSl (gSl false) (fVar 8) (fSome (fC (.int 1))) fNone)) (fCons (f2 (gAdd false) (fSl (gSl false) (fVar 8) fNone (fSome (fC (.int 7)))) (fArg mkLst (fCons (fC (.int 1000)) fNil))) (fCons (f2 (gAdd false) (fSl (gSl false) (fVar 8) fNone (fSome (fC (.int 7)))) (fArg mkLst (fCons (fC (.bl true)) fNil))) (fCons (fArg gTuple (fCons (fVar 8) fNil)) fNil)))))))) (sSeq (sSet 8 (fArg (cl .f__law_one) (fCons (fVar 2) (fCons (f2 (gAdd false) (fVar 13) (fArg mkLst (fCons (fC .non) (fCons (fC (.str "sizes")) (fCons (f2 (gAdd false) (fSl (gSl false) (fVar 8) fNone (fSome (fC (.int 7)))) (fArg mkLst (fCons (fC (.str "1")) fNil))) (fCons (fDic [] []) (fCons (fC (.int 8)) fNil))))))) fNil)))) (sSet 10 (fC (.str "sizes"))))) sNil)
noncomputable def E11 (cl : Fn → FF) : FS := (sIf (fB (f2 gEq (fArg (cl .f__law_draw) (fCons (fVar 2) (fCons (fC (.int 4)) fNil))) (fC (.int 0)))) (sSeq (sSet 13 (fArg mkCel (fCons (fArg mkTup (fCons (fC (.str "given")) (fCons (fC (.int 0)) fNil))) (fCons (fArg mkTup (fCons (fC (.str "unit")) fNil)) (fCons (fC .non) (fCons (fArg mkTup (fCons (fC (.str "make")) (fCons (fVar 4) (fCons (fArg mkTup (fCons (fC (.str "given")) (fCons (fC (.int 1)) fNil))) fNil)))) (fCons (fArg mkTup (fCons (fC (.str "make")) (fCons (fC .non) (fCons (fArg mkTup (fCons (fC (.str "unit")) fNil)) fNil)))) fNil))))))) (sSeq (sSet 13 (f2 (gAdd true) (fVar 13) (fArg mkLst (fCons (fArg mkTup (fCons (fC (.str "both")) (fCons (fVar 7) (fCons (fVar 7) fNil)))) (fCons (fArg mkTup (fCons (fC (.str "do")) (fCons (fVar 7) (fCons (fVar 7) fNil)))) (fCons (fArg mkTup (fCons (fC (.str "first")) (fCons (fVar 7) fNil))) (fCons (fArg (gList false) (fCons (fVar 7) fNil)) (fCons (fArg mkTup (fCons (fC (.str "make")) (fCons (fVar 4) fNil))) fNil)))))))) (sSeq (sExp (fMth gAppend (fVar 13) (fCons (fArg mkTup (fCons (fC (.str "make")) (fCons (fArg mkTup (fCons (fC (.str "base")) (fCons (fC (.int 9)) fNil))) (fCons (fArg mkTup (fCons (fC (.str "unit")) fNil)) fNil)))) fNil))) (sSeq (sSet 7 (fArg (cl .f__law_one) (fCons (fVar 2) (fCons (fVar 13) fNil)))) (sSet 10 (fC (.str "term"))))))) sNil)
noncomputable def E12 (cl : Fn → FF) : FS := (sSet 11 (fArg gStrT (fCons (fArg mkTup (fCons (fVar 7) (fCons (fVar 8) (fCons (fVar 9) fNil)))) fNil)))
noncomputable def E13 (cl : Fn → FF) : FS := (sFor (fiR1 (fCons (fC (.int 2)) fNil)) (gN 12) (l_law_0 cl))
theorem E_eq (cl : Fn → FF) : l_law_1 cl = sSeq (E0 cl) (sSeq (E1 cl) (sSeq (E2 cl) (sSeq (E3 cl) (sSeq (E4 cl) (sSeq (E5 cl) (sSeq (E6 cl) (sSeq (E7 cl) (sSeq (E8 cl) (sSeq (E9 cl) (sSeq (E10 cl) (sSeq (E11 cl) (sSeq (E12 cl) (E13 cl))))))))))))) := rfl
theorem if_no {t : FT} {a : FS} {ρ : FEnv} {S S' : Store} (h : t ρ S = .ok false S') : sIf t a sNil ρ S = .nx ρ S' := by rw [sIf_ap, h]; rfl
theorem if_yes {t : FT} {a : FS} {ρ : FEnv} {S S' : Store} (h : t ρ S = .ok true S') : sIf t a sNil ρ S = a ρ S' := by rw [sIf_ap, h]; rfl
theorem seq_go {a b : FS} {ρ ρ' : FEnv} {S S' : Store} (h : a ρ S = .nx ρ' S') : sSeq a b ρ S = b ρ' S' := by rw [sSeq_ap, h]; rfl
structure Iv (S : Store) (w v : Nat) (i : _root_.Fin 8) (s : Int) : Prop where
  well : Well S w
  at_ : S[v]? = some (.lst ((fNs i s).map .int))
  ne : v ≠ w
  z : S[0]? = some .sys
  w0 : w ≠ 0
  v0 : v ≠ 0
theorem Iv.ws {S S' : Store} {w v : Nat} {i : _root_.Fin 8} {s : Int} (h : Iv S w v i s) (k : WS S w S') : Iv S' w v i s :=
  ⟨k.well, (k.same v h.ne).trans h.at_, h.ne, (k.same 0 (Ne.symm h.w0)).trans h.z, h.w0, h.v0⟩
theorem Iv.app {S : Store} {w v : Nat} {i : _root_.Fin 8} {s : Int} (h : Iv S w v i s) (T : Store) : Iv (S ++ T) w v i s :=
  ⟨well_app h.well, by rw [List.getElem?_append_left (lt_of_at h.at_)]; exact h.at_, h.ne, by rw [List.getElem?_append_left (lt_of_at h.z)]; exact h.z, h.w0, h.v0⟩
theorem Iv.sys {S : Store} {w v : Nat} {i : _root_.Fin 8} {s : Int} (h : Iv S w v i s) : sysB S = true := by
  cases S with
  | nil => have := h.z; simp at this
  | cons c r =>
    have := h.z
    simp at this
    subst this; rfl
theorem well_at {S S' : Store} {w : Nat} (h : Well S w) (e : S'[w]? = S[w]?) : Well S' w := by
  obtain ⟨a, b, c, h1, h2, at_⟩ := h
  exact ⟨a, b, c, h1, h2, by rw [e]; exact at_⟩
theorem Iv.set_o {S : Store} {w v c : Nat} {i : _root_.Fin 8} {s : Int} {x : Cell} (h : Iv S w v i s) (h1 : c ≠ w) (h2 : c ≠ v) (h3 : c ≠ 0) : Iv (S.set c x) w v i s :=
  ⟨well_at h.well (List.getElem?_set_ne h1), by rw [List.getElem?_set_ne h2]; exact h.at_, h.ne, by rw [List.getElem?_set_ne h3]; exact h.z, h.w0, h.v0⟩
theorem Iv.set_v {S : Store} {w v : Nat} {i : _root_.Fin 8} {s t : Int} (h : Iv S w v i s) : Iv (S.set v (.lst ((fNs i t).map .int))) w v i t :=
  ⟨well_at h.well (List.getElem?_set_ne h.ne), List.getElem?_set_self (lt_of_at h.at_), h.ne, by rw [List.getElem?_set_ne h.v0]; exact h.z, h.w0, h.v0⟩
theorem ns_set (i : _root_.Fin 8) (s t : Int) : ((fNs i s).map D.int).set i.val (.int t) = (fNs i t).map .int := by
  rw [← List.map_set]
  simp [fNs]
theorem ns_len (i : _root_.Fin 8) (s : Int) : ((fNs i s).map D.int).length = 8 := by simp [fNs]
theorem gSb_n {S : Store} {w v : Nat} {i : _root_.Fin 8} {s t : Int} (h : Iv S w v i s) {ρ : FEnv} (h8 : ρ[8]? = some (some (.loc v))) (h3 : ρ[3]? = some (some (.int (i.val : Int)))) : gSb (fVar 8) (fVar 3) (.int t) ρ S = some (ρ, S.set v (.lst ((fNs i t).map .int))) := by
  rw [gSb_loc h8 h3 h.at_ (by rw [ns_len]; exact i.isLt), ns_set]
theorem good_ne : ∀ k : _root_.Fin 4, (fGood k).map kD ≠ [] ∧ ((fGood k).map kD).length < 1000 ∧ fBad k ≠ [] ∧ (fBad k).length < 1000 := by
  intro k
  match k with
  | 0 => simp [fGood, fBad]
  | 1 => simp [fGood, fBad]
  | 2 => simp [fGood, fBad]
  | 3 => simp [fGood, fBad]
section
variable {m w v : Nat} {i : _root_.Fin 8} {k : _root_.Fin 4} {x0 x1 x4 x11 x12 x13 : Option D} {S : Store}
theorem e8_go (hm : 200 ≤ m) {s : Int} {T X : Option D} {y : D} (h : Iv S w v i s) (hy : ∃ g ∈ fGood k, y = kD g) :
    ∃ y' u S', E8 (ev m) [x0, x1, some (.loc w), some (.int (i.val : Int)), x4, some (.lst ((fGood k).map kD)), some (.lst (fBad k)), T, X, some y, some (.str "told"), x11, x12, x13] S = .nx [x0, x1, some (.loc w), some (.int (i.val : Int)), x4, some (.lst ((fGood k).map kD)), some (.lst (fBad k)), T, X, some y', some (.str u), x11, x12, x13] S' ∧ WS S w S' ∧
      (((∃ g ∈ fGood k, y' = kD g) ∧ u = "told") ∨ (y' ∈ fBad k ∧ u = "worth")) := by
  obtain ⟨r, S1, e1, r0, r1, w1⟩ := draw_sp (n := m) (m := 2) (by omega) h.well (by omega) (by omega)
  by_cases hr : r = 0
  · obtain ⟨d, S2, e2, hd, w2⟩ := lone_sp (n := m) (ds := fBad k) (by omega) w1.well (good_ne k).2.2.1 (good_ne k).2.2.2
    refine ⟨d, "worth", S2, ?_, w1.trans w2, .inr ⟨hd, rfl⟩⟩
    generalize (fGood k).map kD = G
    generalize fBad k = B at *
    generalize (i.val : Int) = Z
    simp [E8, e1, hr, e2]
  · refine ⟨y, "told", S1, ?_, w1, .inl ⟨hy, rfl⟩⟩
    generalize (fGood k).map kD = G
    generalize fBad k = B
    generalize (i.val : Int) = Z
    simp [E8, e1, hr]
theorem e9_go (hm : 200 ≤ m) {x5 x6 : Option D} {T : D} {y u : Option D} (h : Iv S w v i 2) :
    ∃ T' u' S', E9 (ev m) [x0, x1, some (.loc w), some (.int (i.val : Int)), x4, x5, x6, some T, some (.loc v), y, u, x11, x12, x13] S = .nx [x0, x1, some (.loc w), some (.int (i.val : Int)), x4, x5, x6, some T', some (.loc v), y, u', x11, x12, x13] S' ∧
      ((T' = T ∧ u' = u ∧ Iv S' w v i 2) ∨ (∃ j, T' = (fGr i j).d ∧ u' = some (.str "great") ∧ Iv S' w v i 7)) := by
  obtain ⟨r, S1, e1, r0, r1, w1⟩ := draw_sp (n := m) (m := 4) (by omega) h.well (by omega) (by omega)
  by_cases hr : r = 0
  · obtain ⟨j, S2, e2, w2⟩ := lgreat_sp (n := m) (i := i) (by omega) w1.well
    have h2 := (h.ws w1).ws w2
    refine ⟨(fGr i j).d, some (.str "great"), _, ?_, .inr ⟨j, rfl, rfl, h2.set_v (t := 7)⟩⟩
    have g := gSb_n h2 (t := 7) (ρ := [x0, x1, some (.loc w), some (.int (i.val : Int)), x4, x5, x6, some (fGr i j).d, some (.loc v), y, u, x11, x12, x13]) rfl rfl
    generalize (fGr i j).d = TT at *
    generalize (fNs i 7).map D.int = NS at *
    generalize (i.val : Int) = Z at *
    simp [E9, e1, hr, e2, g]
  · refine ⟨T, u, S1, ?_, .inl ⟨rfl, rfl, h.ws w1⟩⟩
    generalize (i.val : Int) = Z
    simp [E9, e1, hr]
theorem e10_go (hm : 200 ≤ m) {x5 x6 T y u : Option D} {s : Int} (h : Iv S w v i s) :
    ∃ X z u' S', E10 (ev m) [x0, x1, some (.loc w), some (.int (i.val : Int)), x4, x5, x6, T, some (.loc v), y, u, x11, x12, x13] S = .nx [x0, x1, some (.loc w), some (.int (i.val : Int)), x4, x5, x6, T, some X, y, u', x11, x12, z] S' ∧
      Iv S' w v i s ∧ ((X = .loc v ∧ u' = u) ∨ (X ∈ oddS i s ∧ u' = some (.str "sizes"))) := by
  have h8 : sizeLine = 16777216 := rfl
  obtain ⟨r, S1, e1, r0, r1, w1⟩ := draw_sp (n := m) (m := 3) (by omega) h.well (by omega) (by omega)
  by_cases hr : r = 0
  · have i1 := h.ws w1
    have len := ns_len i s
    have ho : oddS i s = [D.lst (cutL ((fNs i s).map .int) (some 1) none), .lst ((fNs i s).map .int ++ [.int 1]), .lst (.int 0 :: cutL ((fNs i s).map .int) (some 1) none), .lst (cutL ((fNs i s).map .int) none (some 7) ++ [.int 1000]),
      .lst (cutL ((fNs i s).map .int) none (some 7) ++ [.bl true]), .tup ((fNs i s).map .int)] ++ [.non, .str "sizes", .lst (cutL ((fNs i s).map .int) none (some 7) ++ [.str "1"]), .dic [] [], .int 8] := rfl
    have hcc := i1.at_
    have l1 : (cutL ((fNs i s).map D.int) (some 1) none).length ≤ 10 := by simp [cutL, fNs]; omega
    have l2 : (cutL ((fNs i s).map D.int) none (some 7)).length ≤ 10 := by simp [cutL, fNs]; omega
    generalize hNS : (fNs i s).map D.int = NS at *
    generalize hA : cutL NS (some 1) none = A at *
    generalize hB : cutL NS none (some 7) = B at *
    let L : List D := [D.lst A, .lst (NS ++ [.int 1]), .lst (.int 0 :: A), .lst (B ++ [.int 1000]), .lst (B ++ [.bl true]), .tup NS]
    let S2 : Store := S1 ++ [.lst L]
    have i2 : Iv S2 w v i s := i1.app _
    have hc2 : S2[v]? = some (.lst NS) := by rw [i2.at_, hNS]
    have hL : S2[S1.length]? = some (.lst L) := by
      show (S1 ++ _)[S1.length]? = _
      rw [List.getElem?_append_right (Nat.le_refl _), Nat.sub_self]; rfl
    obtain ⟨d, S3, e3, hd, w3⟩ := lone_sp (n := m) (S := S2) (w := w) (ds := L ++ [.non, .str "sizes", .lst (B ++ [.str "1"]), .dic [] [], .int 8]) (by omega) i2.well (by simp [L]) (by simp [L])
    have hcs := cellOf_of hcc
    have hcs2 := cellOf_of hc2
    have hcL := cellOf_of hL
    have g1 : gAdd false (.loc v) (.lst [.int 1]) S1 = .ok (.lst (NS ++ [.int 1])) S1 := by
      show catL false (seqM S1 (.loc v)) (some [.int 1]) S1 = _
      have : seqM S1 (.loc v) = some NS := cellM_of hcc
      rw [this]
      simp [catL, len, h8]
    have g2 : gAdd false (.lst [.int 0]) (.lst A) S1 = .ok (.lst (.int 0 :: A)) S1 := by
      rw [gAdd_ll (by simp; omega)]; rfl
    have g3 : ∀ (x : D) (T : Store), gAdd false (.lst B) (.lst [x]) T = .ok (.lst (B ++ [x])) T := fun x T => gAdd_ll (by simp; omega)
    have g4 : gTuple [.loc v] S1 = .ok (.tup NS) S1 := by simp [gTuple, seqA, hcs]
    have g5 : gAdd false (.loc S1.length) (.lst [.non, .str "sizes", .lst (B ++ [.str "1"]), .dic [] [], .int 8]) S2 = .ok (.lst (L ++ [.non, .str "sizes", .lst (B ++ [.str "1"]), .dic [] [], .int 8])) S2 := by
      show catL false (seqM S2 (.loc S1.length)) (some [_, _, _, _, _]) S2 = _
      have : seqM S2 (.loc S1.length) = some L := cellM_of hL
      rw [this]
      simp [catL, L, h8]
    refine ⟨d, some (.loc S1.length), some (.str "sizes"), S3, ?_, i2.ws w3, .inr ⟨?_, rfl⟩⟩
    · simp only [L, S2] at g5 e3 hcs2
      simp only [List.cons_append, List.nil_append] at g5 e3
      generalize (i.val : Int) = Z at *
      simp [E10, e1, hr, hcs, hA, hB, g1, g2, g3, g4, g5, hcs2, e3, h8]
    · rw [ho]
      exact hd
  · refine ⟨.loc v, x13, u, S1, ?_, h.ws w1, .inl ⟨rfl, rfl⟩⟩
    generalize (i.val : Int) = Z
    simp [E10, e1, hr]
theorem e11_go (hm : 200 ≤ m) {x5 x6 X y u : Option D} {K : Kd} {T : Tm} {Tc : List D} {s : Int} (h : Iv S w v i s) (hT : T.d = .tup Tc) :
    ∃ T' z u' S', E11 (ev m) [x0, x1, some (.loc w), some (.int (i.val : Int)), some K.d, x5, x6, some T.d, X, y, u, x11, x12, x13] S = .nx [x0, x1, some (.loc w), some (.int (i.val : Int)), some K.d, x5, x6, some T', X, y, u', x11, x12, z] S' ∧
      Iv S' w v i s ∧ ((T' = T.d ∧ u' = u) ∨ (T' ∈ oddT K T Tc ∧ u' = some (.str "term"))) := by
  have h8 : sizeLine = 16777216 := rfl
  obtain ⟨r, S1, e1, r0, r1, w1⟩ := draw_sp (n := m) (m := 4) (by omega) h.well (by omega) (by omega)
  by_cases hr : r = 0
  · have i1 := h.ws w1
    have hlt := lt_of_at i1.at_
    have hlw := lt_of_at i1.well.choose_spec.choose_spec.choose_spec.2.2
    let L1 : List D := [.tup [.str "given", .int 0], .tup [.str "unit"], .non, .tup [.str "make", K.d, .tup [.str "given", .int 1]], .tup [.str "make", .non, .tup [.str "unit"]]]
    let L2 : List D := [.tup [.str "both", T.d, T.d], .tup [.str "do", T.d, T.d], .tup [.str "first", T.d], .lst Tc, .tup [.str "make", K.d]]
    let L3 : List D := [.tup [.str "make", .tup [.str "base", .int 9], .tup [.str "unit"]]]
    let S2 : Store := S1 ++ [.lst L1]
    let S3 : Store := S2 ++ [.lst (L1 ++ L2)]
    let S4 : Store := S3.set S2.length (.lst (L1 ++ L2 ++ L3))
    have i2 : Iv S2 w v i s := i1.app _
    have i3 : Iv S3 w v i s := i2.app _
    have hl2 : S2.length = S1.length + 1 := by simp [S2]
    have i4 : Iv S4 w v i s := i3.set_o (by omega) (by omega) (by omega)
    have c2 : S2[S1.length]? = some (.lst L1) := by
      show (S1 ++ _)[S1.length]? = _
      rw [List.getElem?_append_right (Nat.le_refl _), Nat.sub_self]; rfl
    have c3 : S3[S2.length]? = some (.lst (L1 ++ L2)) := by
      show (S2 ++ _)[S2.length]? = _
      rw [List.getElem?_append_right (Nat.le_refl _), Nat.sub_self]; rfl
    have c4 : S4[S2.length]? = some (.lst (L1 ++ L2 ++ L3)) := List.getElem?_set_self (lt_of_at c3)
    obtain ⟨d, S5, e5, hd, w5⟩ := lone_cell (n := m) (S := S4) (w := w) (by omega) i4.well c4 (by omega) (by simp [L1]) (by simp [L1, L2, L3])
    refine ⟨d, some (.loc S2.length), some (.str "term"), S5, ?_, i4.ws w5, .inr ⟨hd, rfl⟩⟩
    have g1 : gAdd true (.loc S1.length) (.lst L2) S2 = .ok (.loc S2.length) S3 := by
      show catL true (seqM S2 (.loc S1.length)) (some L2) S2 = _
      have : seqM S2 (.loc S1.length) = some L1 := cellM_of c2
      rw [this]
      simp [catL, L1, L2, h8, S3, mkCel]
    have g2 : gAppend (.loc S2.length) L3 S3 = .ok .non S4 := gAppend_loc (cellM_of c3) (by simp [L1, L2, h8])
    have mm : ∀ (g : D → List D → Store → RE D) (a : FA) (r : FEnv), mthR g a r (.loc S2.length) S3 = (a r S3).bnd fun ds S2' => g (.loc S2.length) ds S2' := fun g a r => mthR_loc (cellOf_of c3)
    have q1 : ∀ (KD TD : D) (Z : Int), TD = .tup Tc → sSet 13 (f2 (gAdd true) (fVar 13) (fArg mkLst (fCons (fArg mkTup (fCons (fC (.str "both")) (fCons (fVar 7) (fCons (fVar 7) fNil)))) (fCons (fArg mkTup (fCons (fC (.str "do")) (fCons (fVar 7) (fCons (fVar 7) fNil)))) (fCons (fArg mkTup (fCons (fC (.str "first")) (fCons (fVar 7) fNil))) (fCons (fArg (gList false) (fCons (fVar 7) fNil)) (fCons (fArg mkTup (fCons (fC (.str "make")) (fCons (fVar 4) fNil))) fNil)))))))
        [x0, x1, some (.loc w), some (.int Z), some KD, x5, x6, some TD, X, y, u, x11, x12, some (.loc S1.length)] S2 = (gAdd true (.loc S1.length) (.lst [.tup [.str "both", TD, TD], .tup [.str "do", TD, TD], .tup [.str "first", TD], .lst Tc, .tup [.str "make", KD]]) S2).toS [x0, x1, some (.loc w), some (.int Z), some KD, x5, x6, some TD, X, y, u, x11, x12, some (.loc S1.length)] fun d S' => .nx [x0, x1, some (.loc w), some (.int Z), some KD, x5, x6, some TD, X, y, u, x11, x12, some d] S' := by
      intro KD TD Z hh
      subst hh
      simp [h8]
    have q1' := q1 K.d T.d (i.val : Int) hT
    rw [show gAdd true (.loc S1.length) (.lst [.tup [.str "both", T.d, T.d], .tup [.str "do", T.d, T.d], .tup [.str "first", T.d], .lst Tc, .tup [.str "make", K.d]]) S2 = _ from g1, toS_ok] at q1'
    unfold E11
    rw [if_yes (by simp [e1, hr]; rfl)]
    have q0 : sSet 13 (fArg mkCel (fCons (fArg mkTup (fCons (fC (.str "given")) (fCons (fC (.int 0)) fNil))) (fCons (fArg mkTup (fCons (fC (.str "unit")) fNil)) (fCons (fC .non) (fCons (fArg mkTup (fCons (fC (.str "make")) (fCons (fVar 4) (fCons (fArg mkTup (fCons (fC (.str "given")) (fCons (fC (.int 1)) fNil))) fNil)))) (fCons (fArg mkTup (fCons (fC (.str "make")) (fCons (fC .non) (fCons (fArg mkTup (fCons (fC (.str "unit")) fNil)) fNil)))) fNil))))))
        [x0, x1, some (.loc w), some (.int (i.val : Int)), some K.d, x5, x6, some T.d, X, y, u, x11, x12, x13] S1 = .nx [x0, x1, some (.loc w), some (.int (i.val : Int)), some K.d, x5, x6, some T.d, X, y, u, x11, x12, some (.loc S1.length)] S2 := by
      simp only [S2, L1]
      generalize K.d = KD
      generalize T.d = TD
      generalize (i.val : Int) = Z
      simp [h8]
    have q2 : sExp (fMth gAppend (fVar 13) (fCons (fArg mkTup (fCons (fC (.str "make")) (fCons (fArg mkTup (fCons (fC (.str "base")) (fCons (fC (.int 9)) fNil))) (fCons (fArg mkTup (fCons (fC (.str "unit")) fNil)) fNil)))) fNil))
        [x0, x1, some (.loc w), some (.int (i.val : Int)), some K.d, x5, x6, some T.d, X, y, u, x11, x12, some (.loc S2.length)] S3 = .nx [x0, x1, some (.loc w), some (.int (i.val : Int)), some K.d, x5, x6, some T.d, X, y, u, x11, x12, some (.loc S2.length)] S4 := by
      simp only [L3] at g2
      generalize K.d = KD
      generalize T.d = TD
      generalize (i.val : Int) = Z
      generalize S2.length = c at *
      simp [mm, g2, h8]
    rw [seq_go q0, seq_go q1', seq_go q2]
    generalize K.d = KD
    generalize T.d = TD
    generalize (i.val : Int) = Z
    simp [e5]
  · refine ⟨T.d, x13, u, S1, ?_, h.ws w1, .inl ⟨rfl, rfl⟩⟩
    generalize K.d = KD
    generalize T.d = TD
    generalize (i.val : Int) = Z
    simp [E11, e1, hr]
end
end Kz
namespace Kz
open PySem PySem.Spec PyProof.Rows L2 Kw
theorem good_U : ∀ i : _root_.Fin 8, tk (fZ i 2) (.base i) ≤ 5000 ∧ nm (fZ i 2) (.base i) ≤ 5000 := by decide +kernel
theorem gu (i : _root_.Fin 8) : GoodU (fZ i 2) [.base i] := by
  refine ⟨by simp, fun A hA => ?_⟩
  have : A = .base i := by simpa using hA
  subst this
  exact ⟨(good_U i).1, (good_U i).2, by simp [Kd.dep], by simp [Kd.sz]⟩
theorem Iv.szr {S : Store} {w v : Nat} {i : _root_.Fin 8} {s : Int} (h : Iv S w v i s) (hs : s = 2 ∨ s = 7) : SzR (fZ i s) (.loc v) S := ⟨fNs i s, ns_ok hs, rfl, .inr ⟨v, rfl, h.at_⟩⟩
def alt (k : _root_.Fin 4) (y : D) (u : Str) : Prop := ((∃ g ∈ fGood k, y = kD g) ∧ u = "told") ∨ (y ∈ fBad k ∧ u = "worth")
theorem alt_ok {i : _root_.Fin 8} {k : _root_.Fin 4} {y : D} {u : Str} (h : alt k y u) (S : Store) : Sw S y := by
  rcases h with ⟨⟨g, hg, rfl⟩, _⟩ | ⟨hy, _⟩
  · have := good_ok i k 0
    rw [List.all_eq_true] at this
    have := this g hg
    simp only [Bool.and_eq_true] at this
    exact chk_sw this.1.2 S
  · have := bad_ok i k
    rw [List.all_eq_true] at this
    have := this y hy
    simp only [Bool.and_eq_true] at this
    exact chk_sw this.2 S
theorem word_inl {i : _root_.Fin 8} {k : _root_.Fin 4} {b : _root_.Fin 3} {y : D} {u : Str} (h : alt k y u) {S : Store} {w v : Nat} (iv : Iv S w v i 2) {n : Nat} (hn : 100 ≤ n) : ev n .f__law_word [(fT i k (.inl b)).d, .loc v, y] S = .ok (.str u) S := by
  obtain ⟨m, rfl⟩ : ∃ m, n = m + 1 := ⟨n - 1, by omega⟩
  obtain ⟨d1, d2, d3, d4⟩ := dep_ok i k b
  obtain ⟨t1, t2⟩ := tk_ok i k b
  obtain ⟨kd, kh⟩ := kds_ok i k (.inl b)
  have ek : ∀ j, m ≤ j + 1 → ev j .f_sure_kind_in [(fT i k (.inl b)).d, .lst []] S = .ok (Kd.frm (fK i k) (fRes (fK i k) b)).d S := fun j hj => sure_in_yes kd (by omega) (by omega) (tk0 i k b)
  rcases h with ⟨⟨g, hg, rfl⟩, rfl⟩ | ⟨hy, rfl⟩
  · have := good_ok i k b
    rw [List.all_eq_true] at this
    have := this g hg
    simp only [Bool.and_eq_true] at this
    obtain ⟨⟨⟨⟨a1, a2⟩, a3⟩, a4⟩, a5⟩ := this
    rw [Option.isSome_iff_exists] at a5
    obtain ⟨r, a5⟩ := a5
    unfold fTold at a5
    simp only [Option.bind_eq_some_iff] at a5
    obtain ⟨yv, h0, uv, h1, vv, h2, h3⟩ := a5
    exact word_told (done_told (gu i) ek (iv.szr (.inl rfl)) (by omega) (by omega) (by omega) t1 t2 a2 a3 a1 h0 h1 h2 h3 (by omega))
  · have := bad_ok i k
    rw [List.all_eq_true] at this
    have := this y hy
    simp only [Bool.and_eq_true, Bool.not_eq_true'] at this
    obtain ⟨⟨⟨a1, a2⟩, a3⟩, a4⟩ := this
    exact word_ex (.inr (.inr (.inl ⟨rfl, rfl⟩))) (done_worth ek (iv.szr (.inl rfl)) (by omega) (by omega) (by omega) t1 t2 a2 a3 a1 (by omega))
theorem word_inr {i : _root_.Fin 8} {j : _root_.Fin 4} {y : D} {S : Store} {w v : Nat} (iv : Iv S w v i 7) {n : Nat} (hn : 100 ≤ n) : ev n .f__law_word [(fGr i j).d, .loc v, y] S = .ok (.str "great") S := by
  obtain ⟨m, rfl⟩ : ∃ m, n = m + 1 := ⟨n - 1, by omega⟩
  obtain ⟨d1, d2, d3⟩ := dep_gr i j
  obtain ⟨kd, kh⟩ := kds_ok i 0 (.inr j)
  have ek : ∀ q, m ≤ q + 1 → ev q .f_sure_kind_in [(fGr i j).d, .lst []] S = .ok (Kd.frm (fGA i j) (fGB i j)).d S := fun q hq => sure_in_yes kd (by simp only [fT] at kh; omega) (by simp only [fT] at kh; omega) (tk1 i j)
  exact word_ex (.inr (.inr (.inr ⟨rfl, rfl⟩))) (done_great ek (iv.szr (.inr rfl)) (by omega) (by omega) (tk_gr i j) (by omega))
theorem fT_kd (i : _root_.Fin 8) (k : _root_.Fin 4) : ∀ c, ∃ A B Tc, tkd [] (fT i k c) = some (.frm A B) ∧ (fT i k c).d = .tup Tc ∧ lay (fT i k c).d ∧ nd (fT i k c).d ≤ 1000 ∧ gsm (fT i k c) = true ∧ wt (fT i k c) ≤ 10000
  | .inl b => by
    refine ⟨_, _, _, tk0 i k b, rfl, ?_, ?_, ?_, ?_⟩
    · revert i k b; decide +kernel
    · revert i k b; decide +kernel
    · revert i k b; decide +kernel
    · revert i k b; decide +kernel
  | .inr j => by
    refine ⟨_, _, _, tk1 i j, fGt_eq i j, ?_, ?_, ?_, ?_⟩
    · simp only [fT]; revert i j; decide +kernel
    · simp only [fT]; revert i j; decide +kernel
    · simp only [fT]; revert i j; decide +kernel
    · simp only [fT]; revert i j; decide +kernel
theorem word_sz {i : _root_.Fin 8} {k : _root_.Fin 4} {c : _root_.Fin 3 ⊕ _root_.Fin 4} {x y : D} {s : Int} (hx : x ∈ oddS i s) (hs : s = 2 ∨ s = 7) {S : Store} {n : Nat} (hn : 100 ≤ n) : ev n .f__law_word [(fT i k c).d, x, y] S = .ok (.str "sizes") S := by
  obtain ⟨m, rfl⟩ : ∃ m, n = m + 1 := ⟨n - 1, by omega⟩
  obtain ⟨kd, kh⟩ := kds_ok i k c
  obtain ⟨A, B, Tc, hk, _⟩ := fT_kd i k c
  have ek : ∀ q, m ≤ q + 1 → ev q .f_sure_kind_in [(fT i k c).d, .lst []] S = .ok (Kd.frm A B).d S := fun q hq => sure_in_yes kd (by omega) (by omega) hk
  have hz : szB x = true := by
    obtain ⟨o1, o2⟩ := oddS_ok i
    rcases hs with rfl | rfl
    · rw [List.all_eq_true] at o1
      have := o1 x hx
      simp only [Bool.and_eq_true] at this; exact this.1
    · rw [List.all_eq_true] at o2
      have := o2 x hx
      simp only [Bool.and_eq_true] at this; exact this.1
  exact word_ex (.inr (.inl ⟨rfl, rfl⟩)) (done_sizes ek (szB_no hz) (by omega))
theorem oddS_sw {i : _root_.Fin 8} {x : D} {s : Int} (hx : x ∈ oddS i s) (hs : s = 2 ∨ s = 7) (S : Store) : Sw S x := by
  obtain ⟨o1, o2⟩ := oddS_ok i
  rcases hs with rfl | rfl
  · rw [List.all_eq_true] at o1
    have := o1 x hx
    simp only [Bool.and_eq_true] at this; exact chk_sw this.2 S
  · rw [List.all_eq_true] at o2
    have := o2 x hx
    simp only [Bool.and_eq_true] at this; exact chk_sw this.2 S
theorem fT_sw (i : _root_.Fin 8) (k : _root_.Fin 4) (c) (S : Store) : Sw S (fT i k c).d := by
  obtain ⟨kd, kh⟩ := kds_ok i k c
  obtain ⟨A, B, Tc, _, _, _, _, g, hw⟩ := fT_kd i k c
  exact (sh_tm _ g kd).sw (by omega) (by omega) S
theorem ns_chk : ∀ i : _root_.Fin 8, chk (.lst ((fNs i 2).map .int)) = true ∧ chk (.lst ((fNs i 7).map .int)) = true := by decide +kernel
theorem Iv.sw {S : Store} {w v : Nat} {i : _root_.Fin 8} {s : Int} (h : Iv S w v i s) (hs : s = 2 ∨ s = 7) : Sw S (.loc v) := by
  have hc : chk (.lst ((fNs i s).map .int)) = true := by
    rcases hs with rfl | rfl
    · exact (ns_chk i).1
    · exact (ns_chk i).2
  unfold chk at hc
  cases e : sh0 (.lst ((fNs i s).map .int)) with
  | none => rw [e] at hc; cases hc
  | some p =>
    rw [e] at hc
    simp only [Bool.and_eq_true, decide_eq_true_eq] at hc
    refine ⟨p, ?_, hc.1.1, hc.1.2, hc.2⟩
    simp only [shS, cellOf_of h.at_, Option.bind_some]
    simpa [sh0] using e
theorem word_tm {i : _root_.Fin 8} {k : _root_.Fin 4} {c : _root_.Fin 3 ⊕ _root_.Fin 4} {Tc : List D} {t x y : D} (hc : (fT i k c).d = .tup Tc) (ht : t ∈ oddT (fK i k) (fT i k c) Tc) {S : Store} {n : Nat} (hn : 100 ≤ n) : ev n .f__law_word [t, x, y] S = .ok (.str "term") S ∧ Sw S t := by
  obtain ⟨m, rfl⟩ : ∃ m, n = m + 1 := ⟨n - 1, by omega⟩
  obtain ⟨A, B, Tc', hk, _, l, n1, g, hw⟩ := fT_kd i k c
  have d := dep_ok i k 0
  exact ⟨word_ex (.inl ⟨rfl, rfl⟩) (odd_no (kds_ok i k c) ⟨d.1, d.2.2.1⟩ hk hc l n1 ht (by omega)), odd_sw ⟨d.1, d.2.2.1⟩ (kds_ok i k c) hc g hw ht S⟩
section
variable {m : Nat} {x0 x1 x2 x3 x4 x5 x6 x7 x8 x9 x10 x11 x12 x13 : Option D} {S : Store}
theorem gNe_same {a : Str} : gNe (.str a) (.str a) S = .ok (.bl false) S := by
  have : gNe (.str a) (.str a) S = .ok (.bl (a != a)) S := by simp
  simpa using this
theorem end_go {T X Y : D} {u : Str} (hw : ev m .f__law_word [T, X, Y] S = .ok (.str u) S) (hs : ∃ z, gStrT [.tup [T, X, Y]] S = .ok (.str z) S) :
    ∃ y11 y12, (sSeq (E12 (ev m)) (E13 (ev m))) [x0, x1, x2, x3, x4, x5, x6, some T, some X, some Y, some (.str u), x11, x12, x13] S = .nx [x0, x1, x2, x3, x4, x5, x6, some T, some X, some Y, some (.str u), y11, y12, x13] S := by
  have h8 : sizeLine = 16777216 := rfl
  obtain ⟨z, hz⟩ := hs
  have n1 : gNe (.str u) (.str u) S = .ok (.bl false) S := gNe_same
  have n2 : gNe (.str z) (.str z) S = .ok (.bl false) S := gNe_same
  have e12 : E12 (ev m) [x0, x1, x2, x3, x4, x5, x6, some T, some X, some Y, some (.str u), x11, x12, x13] S = .nx [x0, x1, x2, x3, x4, x5, x6, some T, some X, some Y, some (.str u), some (.str z), x12, x13] S := by
    simp [E12, h8, hz]
  have body : ∀ o : Option D, l_law_0 (ev m) [x0, x1, x2, x3, x4, x5, x6, some T, some X, some Y, some (.str u), some (.str z), o, x13] S = .nx [x0, x1, x2, x3, x4, x5, x6, some T, some X, some Y, some (.str u), some (.str z), o, x13] S := by
    intro o
    unfold l_law_0
    refine if_no ?_
    simp only [fOr_ap, fB_ap, f2_ap, fArg_ap, fVar, List.getElem?_cons_zero, List.getElem?_cons_succ]
    simp [hw, n1, n2, hz, h8]
  refine ⟨some (.str z), some (.int (0 + 1)), ?_⟩
  rw [seq_go e12]
  unfold E13
  rw [sFor_ap]
  show forL (gN 12) (l_law_0 (ev m)) none [.int 0, .int (0 + 1)] _ S = _
  rw [forL_cons, gN_ap, tgR_some]
  show loopR _ (l_law_0 (ev m) [x0, x1, x2, x3, x4, x5, x6, some T, some X, some Y, some (.str u), some (.str z), some (.int 0), x13] S) = _
  rw [body, loopR_nx, forL_cons, gN_ap, tgR_some]
  show loopR _ (l_law_0 (ev m) [x0, x1, x2, x3, x4, x5, x6, some T, some X, some Y, some (.str u), some (.str z), some (.int (0 + 1)), x13] S) = _
  rw [body, loopR_nx]
  simp
theorem iter_go (hm : 200 ≤ m) {c : Int} (hz : S[0]? = some .sys) :
    ∃ y2 y3 y4 y5 y6 y7 y8 y9 y10 y11 y12 y13 S', l_law_1 (ev m) [x0, some (.int c), x2, x3, x4, x5, x6, x7, x8, x9, x10, x11, x12, x13] S = .nx [x0, some (.int c), y2, y3, y4, y5, y6, y7, y8, y9, y10, y11, y12, y13] S' ∧ S'[0]? = some .sys := by
  have h8 : sizeLine = 16777216 := rfl
  have hl0 := lt_of_at hz
  obtain ⟨c0, e0, w0⟩ := well_new (n := m) (S := S) (i := c) (by omega)
  have z0 : (S ++ [c0])[0]? = some .sys := by rw [List.getElem?_append_left hl0]; exact hz
  generalize hw : S.length = w at *
  generalize hS0 : S ++ [c0] = S0 at *
  obtain ⟨r, S1, e1, r0, r1, w1⟩ := draw_sp (n := m) (m := 8) (by omega) w0 (by omega) (by omega)
  obtain ⟨i, rfl⟩ : ∃ i : _root_.Fin 8, r = (i.val : Int) := ⟨⟨r.toNat, by omega⟩, by simp; omega⟩
  obtain ⟨k, S2, e2, w2⟩ := lfun_sp (n := m) (i := i) (by omega) w1.well
  obtain ⟨d, S3, e3, hd, w3⟩ := lone_sp (n := m) (S := S2) (w := w) (ds := [.tup [.str "given", .int 0], .tup [.str "unit"], .tup [.str "both", .tup [.str "given", .int 0], .tup [.str "unit"]]]) (by omega) w2.well (by simp) (by simp)
  have hb : ∃ b, d = (fBody b).d := by
    simp only [List.mem_cons, List.not_mem_nil, or_false] at hd
    rcases hd with rfl | rfl | rfl
    · exact ⟨0, rfl⟩
    · exact ⟨1, rfl⟩
    · exact ⟨2, rfl⟩
  obtain ⟨b, rfl⟩ := hb
  have w3' := (w1.trans w2).trans w3
  let S4 : Store := S3 ++ [.lst (([1, 1, 1, 1, 999, 1, 1, 1] : List Int).map .int)]
  let S5 : Store := S4.set S3.length (.lst ((fNs i 2).map .int))
  have a4 : S4[S3.length]? = some (.lst (([1, 1, 1, 1, 999, 1, 1, 1] : List Int).map .int)) := by
    show (S3 ++ _)[S3.length]? = _
    rw [List.getElem?_append_right (Nat.le_refl _), Nat.sub_self]; rfl
  have hw3 := lt_of_at w3.well.choose_spec.choose_spec.choose_spec.2.2
  have iv5 : Iv S5 w S3.length i 2 := by
    refine ⟨well_at (well_app (T := [.lst (([1, 1, 1, 1, 999, 1, 1, 1] : List Int).map .int)]) w3.well) (List.getElem?_set_ne (by omega)), List.getElem?_set_self (lt_of_at a4), by omega, ?_, by omega, by omega⟩
    show (S4.set _ _)[0]? = _
    rw [List.getElem?_set_ne (by omega)]
    show (S3 ++ _)[0]? = _
    rw [List.getElem?_append_left (by omega), w3'.same 0 (by omega)]; exact z0
  obtain ⟨d6, S6, e6, hd6, w6⟩ := lone_sp (n := m) (S := S5) (w := w) (ds := (fGood k).map kD) (by omega) iv5.well (good_ne k).1 (good_ne k).2.1
  have hy6 : ∃ g ∈ fGood k, d6 = kD g := by
    obtain ⟨g, hg, rfl⟩ := List.mem_map.mp hd6
    exact ⟨g, hg, rfl⟩
  have iv6 := iv5.ws w6
  generalize hv : S3.length = v at *
  obtain ⟨y, u8, S8, e8, w8, alt8⟩ := e8_go (x0 := x0) (x1 := some (.int c)) (x4 := some (fK i k).d) (x11 := x11) (x12 := x12) (x13 := x13) hm (T := some (fT i k (.inl b)).d) (X := some (.loc v)) iv6 hy6
  have iv8 := iv6.ws w8
  obtain ⟨T9, u9, S9, e9, c9⟩ := e9_go (x0 := x0) (x1 := some (.int c)) (x4 := some (fK i k).d) (x11 := x11) (x12 := x12) (x13 := x13) hm (x5 := some (.lst ((fGood k).map kD))) (x6 := some (.lst (fBad k))) (T := (fT i k (.inl b)).d) (y := some y) (u := some (.str u8)) iv8
  have c9' : ∃ (c' : _root_.Fin 3 ⊕ _root_.Fin 4) (s : Int) (u : Str), T9 = (fT i k c').d ∧ u9 = some (.str u) ∧ (s = 2 ∨ s = 7) ∧ Iv S9 w v i s ∧ (∀ S, Iv S w v i s → ev m .f__law_word [(fT i k c').d, .loc v, y] S = .ok (.str u) S) := by
    rcases c9 with ⟨rfl, rfl, iv⟩ | ⟨j, rfl, rfl, iv⟩
    · exact ⟨.inl b, 2, u8, rfl, rfl, .inl rfl, iv, fun S h => word_inl alt8 h (by omega)⟩
    · exact ⟨.inr j, 7, "great", rfl, rfl, .inr rfl, iv, fun S h => word_inr h (by omega)⟩
  obtain ⟨c', s, u9', rfl, rfl, hs, iv9, wd9⟩ := c9'
  obtain ⟨X, z10, u10, S10, e10, iv10, c10⟩ := e10_go (x0 := x0) (x1 := some (.int c)) (x4 := some (fK i k).d) (x11 := x11) (x12 := x12) (x13 := x13) hm (x5 := some (.lst ((fGood k).map kD))) (x6 := some (.lst (fBad k))) (T := some (fT i k c').d) (y := some y) (u := some (.str u9')) iv9
  have c10' : ∃ u : Str, u10 = some (.str u) ∧ (∀ S, Iv S w v i s → ev m .f__law_word [(fT i k c').d, X, y] S = .ok (.str u) S) ∧ (∀ S, Iv S w v i s → Sw S X) := by
    rcases c10 with ⟨rfl, rfl⟩ | ⟨hX, rfl⟩
    · exact ⟨u9', rfl, wd9, fun S h => h.sw hs⟩
    · exact ⟨"sizes", rfl, fun S h => word_sz hX hs (by omega), fun S h => oddS_sw hX hs S⟩
  obtain ⟨u10', rfl, wd10, sw10⟩ := c10'
  obtain ⟨A, B, Tc, _, hc, _⟩ := fT_kd i k c'
  obtain ⟨T11, z11, u11, S11, e11, iv11, c11⟩ := e11_go (x0 := x0) (x1 := some (.int c)) (K := fK i k) (x11 := x11) (x12 := x12) (x13 := z10) hm (x5 := some (.lst ((fGood k).map kD))) (x6 := some (.lst (fBad k))) (T := fT i k c') (X := some X) (y := some y) (u := some (.str u10')) iv10 hc
  have c11' : ∃ u : Str, u11 = some (.str u) ∧ ev m .f__law_word [T11, X, y] S11 = .ok (.str u) S11 ∧ Sw S11 T11 := by
    rcases c11 with ⟨rfl, rfl⟩ | ⟨hT, rfl⟩
    · exact ⟨u10', rfl, wd10 _ iv11, fT_sw i k c' S11⟩
    · obtain ⟨h1, h2⟩ := word_tm (x := X) (y := y) hc hT (S := S11) (n := m) (by omega)
      exact ⟨"term", rfl, h1, h2⟩
  obtain ⟨u11', rfl, wd11, swT⟩ := c11'
  obtain ⟨y11, y12, e12⟩ := end_go (x0 := x0) (x1 := some (.int c)) (x2 := some (.loc w)) (x3 := some (.int (i.val : Int))) (x4 := some (fK i k).d) (x5 := some (.lst ((fGood k).map kD))) (x6 := some (.lst (fBad k))) (x11 := x11) (x12 := x12) (x13 := z11) wd11 (sw_str iv11.sys swT (sw10 _ iv11) (alt_ok (i := i) alt8 S11))
  refine ⟨some (.loc w), some (.int (i.val : Int)), some (fK i k).d, some (.lst ((fGood k).map kD)), some (.lst (fBad k)), some T11, some X, some y, some (.str u11'), y11, y12, z11, S11, ?_, iv11.z⟩
  rw [E_eq]
  have q0 : E0 (ev m) [x0, some (.int c), x2, x3, x4, x5, x6, x7, x8, x9, x10, x11, x12, x13] S = .nx [x0, some (.int c), some (.loc w), x3, x4, x5, x6, x7, x8, x9, x10, x11, x12, x13] S0 := by simp [E0, e0]
  have q1 : E1 (ev m) [x0, some (.int c), some (.loc w), x3, x4, x5, x6, x7, x8, x9, x10, x11, x12, x13] S0 = .nx [x0, some (.int c), some (.loc w), some (.int (i.val : Int)), x4, x5, x6, x7, x8, x9, x10, x11, x12, x13] S1 := by
    generalize (i.val : Int) = Z at *
    simp [E1, e1]
  have q2 : E2 (ev m) [x0, some (.int c), some (.loc w), some (.int (i.val : Int)), x4, x5, x6, x7, x8, x9, x10, x11, x12, x13] S1 = .nx [x0, some (.int c), some (.loc w), some (.int (i.val : Int)), some (fK i k).d, some (.lst ((fGood k).map kD)), some (.lst (fBad k)), x7, x8, x9, x10, x11, x12, x13] S2 := by
    clear e6 e8 e9 e10 e11 e12 q1 q0
    generalize (fGood k).map kD = G at *
    generalize fBad k = Bd at *
    generalize (fK i k).d = KD at *
    generalize (i.val : Int) = Z at *
    simp [E2, e2]
  have q3 : E3 (ev m) [x0, some (.int c), some (.loc w), some (.int (i.val : Int)), some (fK i k).d, some (.lst ((fGood k).map kD)), some (.lst (fBad k)), x7, x8, x9, x10, x11, x12, x13] S2 = .nx [x0, some (.int c), some (.loc w), some (.int (i.val : Int)), some (fK i k).d, some (.lst ((fGood k).map kD)), some (.lst (fBad k)), some (fT i k (.inl b)).d, x8, x9, x10, x11, x12, x13] S3 := by
    have : (fT i k (.inl b)).d = .tup [.str "make", (fK i k).d, (fBody b).d] := rfl
    rw [this]
    clear e6 e8 e9 e10 e11 e12 q1 q0 q2
    generalize (fGood k).map kD = G at *
    generalize fBad k = Bd at *
    generalize (fK i k).d = KD at *
    generalize (fBody b).d = BD at *
    generalize (i.val : Int) = Z at *
    simp [E3, e3, h8]
  have q4 : E4 (ev m) [x0, some (.int c), some (.loc w), some (.int (i.val : Int)), some (fK i k).d, some (.lst ((fGood k).map kD)), some (.lst (fBad k)), some (fT i k (.inl b)).d, x8, x9, x10, x11, x12, x13] S3 = .nx [x0, some (.int c), some (.loc w), some (.int (i.val : Int)), some (fK i k).d, some (.lst ((fGood k).map kD)), some (.lst (fBad k)), some (fT i k (.inl b)).d, some (.loc v), x9, x10, x11, x12, x13] S4 := by
    rw [← hv]
    simp only [S4, List.map_cons, List.map_nil]
    generalize (fGood k).map kD = G
    generalize fBad k = Bd
    generalize (fK i k).d = KD
    generalize (fT i k (.inl b)).d = BD
    generalize (i.val : Int) = Z
    simp [E4, h8]
  have q5 : E5 (ev m) [x0, some (.int c), some (.loc w), some (.int (i.val : Int)), some (fK i k).d, some (.lst ((fGood k).map kD)), some (.lst (fBad k)), some (fT i k (.inl b)).d, some (.loc v), x9, x10, x11, x12, x13] S4 = .nx [x0, some (.int c), some (.loc w), some (.int (i.val : Int)), some (fK i k).d, some (.lst ((fGood k).map kD)), some (.lst (fBad k)), some (fT i k (.inl b)).d, some (.loc v), x9, x10, x11, x12, x13] S5 := by
    have g := gSb_loc (i := 8) (j := 3) (v := v) (p := i.val) (ρ := [x0, some (.int c), some (.loc w), some (.int (i.val : Int)), some (fK i k).d, some (.lst ((fGood k).map kD)), some (.lst (fBad k)), some (fT i k (.inl b)).d, some (.loc v), x9, x10, x11, x12, x13]) (d := .int 2) rfl rfl a4 (by simpa using i.isLt)
    have e5 : ((([1, 1, 1, 1, 999, 1, 1, 1] : List Int).map D.int).set i.val (.int 2)) = (fNs i 2).map .int := by
      rw [← List.map_set]; rfl
    rw [e5] at g
    simp only [S5]
    generalize (fNs i 2).map D.int = NS at *
    clear_value S4
    generalize (fGood k).map kD = G at *
    generalize fBad k = Bd at *
    generalize (fK i k).d = KD at *
    generalize (fT i k (.inl b)).d = BD at *
    generalize (i.val : Int) = Z at *
    simp [E5, g, hv]
  have q6 : E6 (ev m) [x0, some (.int c), some (.loc w), some (.int (i.val : Int)), some (fK i k).d, some (.lst ((fGood k).map kD)), some (.lst (fBad k)), some (fT i k (.inl b)).d, some (.loc v), x9, x10, x11, x12, x13] S5 = .nx [x0, some (.int c), some (.loc w), some (.int (i.val : Int)), some (fK i k).d, some (.lst ((fGood k).map kD)), some (.lst (fBad k)), some (fT i k (.inl b)).d, some (.loc v), some d6, x10, x11, x12, x13] S6 := by
    clear_value S5 S4
    clear e8 e9 e10 e11 e12 q1 q0 q2 q3 q4 q5
    generalize (fGood k).map kD = G at *
    generalize fBad k = Bd at *
    generalize (fK i k).d = KD at *
    generalize (fT i k (.inl b)).d = BD at *
    generalize (i.val : Int) = Z at *
    simp [E6, e6]
  have q7 : E7 (ev m) [x0, some (.int c), some (.loc w), some (.int (i.val : Int)), some (fK i k).d, some (.lst ((fGood k).map kD)), some (.lst (fBad k)), some (fT i k (.inl b)).d, some (.loc v), some d6, x10, x11, x12, x13] S6 = .nx [x0, some (.int c), some (.loc w), some (.int (i.val : Int)), some (fK i k).d, some (.lst ((fGood k).map kD)), some (.lst (fBad k)), some (fT i k (.inl b)).d, some (.loc v), some d6, some (.str "told"), x11, x12, x13] S6 := by
    generalize (fGood k).map kD = G
    generalize fBad k = Bd
    generalize (fK i k).d = KD
    generalize (fT i k (.inl b)).d = BD
    generalize (i.val : Int) = Z
    simp [E7]
  rw [seq_go q0, seq_go q1, seq_go q2, seq_go q3, seq_go q4, seq_go q5, seq_go q6, seq_go q7, seq_go e8, seq_go e9, seq_go e10, seq_go e11]
  exact e12
end
theorem law_loop {m : Nat} (h : 200 ≤ m) {x0 : Option D} : ∀ (ns : List Int) {S : Store} {x1 x2 x3 x4 x5 x6 x7 x8 x9 x10 x11 x12 x13 : Option D}, S[0]? = some .sys → ∃ y1 y2 y3 y4 y5 y6 y7 y8 y9 y10 y11 y12 y13 S', forL (gN 1) (l_law_1 (ev m)) none (ns.map D.int) [x0, x1, x2, x3, x4, x5, x6, x7, x8, x9, x10, x11, x12, x13] S = .nx [x0, y1, y2, y3, y4, y5, y6, y7, y8, y9, y10, y11, y12, y13] S'
  | [], S, x1, x2, x3, x4, x5, x6, x7, x8, x9, x10, x11, x12, x13, _ => ⟨x1, x2, x3, x4, x5, x6, x7, x8, x9, x10, x11, x12, x13, S, by simp⟩
  | i :: ns, S, x1, x2, x3, x4, x5, x6, x7, x8, x9, x10, x11, x12, x13, hz => by
    obtain ⟨z2, z3, z4, z5, z6, z7, z8, z9, z10, z11, z12, z13, S1, e1, hz1⟩ := iter_go (m := m) h (S := S) (c := i) hz (x0 := x0) (x2 := x2) (x3 := x3) (x4 := x4) (x5 := x5) (x6 := x6) (x7 := x7) (x8 := x8) (x9 := x9) (x10 := x10) (x11 := x11) (x12 := x12) (x13 := x13)
    obtain ⟨y1, y2, y3, y4, y5, y6, y7, y8, y9, y10, y11, y12, y13, S', e2⟩ := law_loop h (x0 := x0) ns (S := S1) (x1 := some (.int i)) (x2 := z2) (x3 := z3) (x4 := z4) (x5 := z5) (x6 := z6) (x7 := z7) (x8 := z8) (x9 := z9) (x10 := z10) (x11 := z11) (x12 := z12) (x13 := z13) hz1
    refine ⟨y1, y2, y3, y4, y5, y6, y7, y8, y9, y10, y11, y12, y13, S', ?_⟩
    rw [← e2, List.map_cons, forL_cons, gN_ap, tgR_some]
    show loopR _ (l_law_1 (ev m) [x0, some (.int i), x2, x3, x4, x5, x6, x7, x8, x9, x10, x11, x12, x13] S) = _
    rw [e1, loopR_nx]
theorem cutL_map {α β : Type} (f : α → β) (xs : List α) (lo hi : Option Int) : cutL (xs.map f) lo hi = (cutL xs lo hi).map f := by
  simp [cutL]
theorem law_src {ns : List Int} (hl : ns.length ≤ 63) {S : Store} {r : FEnv} : fiL (f2 (gAdd false) (fArg mkLst (fCons (fC (.int 0)) (fCons (fC (.int 3)) fNil))) (fSl (gSl false) (fVar 0) fNone (fSome (fC (.int 8))))) (some (.fls (ns.map .int)) :: r) S = .ok ((0 :: 3 :: cutL ns none (some 8)).map D.int, none) S := by
  have h8 : sizeLine = 16777216 := rfl
  have hc : (cutL ns none (some 8)).length ≤ ns.length := by simp [cutL]; omega
  have h9 : (cutL ns none (some 8)).length + 1 + 1 ≤ sizeLine := by omega
  simp [cutL_map, h9]
theorem law_true (ns : List Int) (hl : ns.length ≤ 63) : ∃ S', Kw.fnB 1 14 (b_law (ev 230)) [.fls (ns.map .int)] (topS0 []) = .ok (.bl true) S' := by
  have hs : (topS0 [])[0]? = some Cell.sys := rfl
  generalize topS0 [] = S at *
  obtain ⟨y1, y2, y3, y4, y5, y6, y7, y8, y9, y10, y11, y12, y13, S', e2⟩ := law_loop (m := 230) (by omega) (x0 := some (.fls (ns.map .int))) (0 :: 3 :: cutL ns none (some 8)) (S := S) (x1 := none) (x2 := none) (x3 := none) (x4 := none) (x5 := none) (x6 := none) (x7 := none) (x8 := none) (x9 := none) (x10 := none) (x11 := none) (x12 := none) (x13 := none) hs
  refine ⟨S', ?_⟩
  rw [b_law, fnB_1]
  show RS.fin (sSeq _ _ [some (.fls (ns.map .int)), none, none, none, none, none, none, none, none, none, none, none, none, none] S) = _
  rw [sSeq_ap, sFor_ap, law_src hl, toS_ok, e2, sb_nx]
  rfl
end Kz
open PySem PySem.W PyProof.Rows
local macro_rules | `(tactic| o_head $t:term) => do
  let (hw, hc) := (Lean.mkIdent `hw, Lean.mkIdent `hc)
  `(tactic| (refine PySem.W.holds_open (r := Kz.Hd.R) (q := Kz.Hd.qv) (loose := Kz.Hd.nm) (Xt := fun s => xlAt Kz.Hd.qv [] s && recOk (RowW.records (OpenRow.toRowW Kz.Hd.R)) s) (XP := XL Kz.Hd.qv []) (Yf := Hook.obs $t) (Ya := Hook.val $t) (YP := Hook.says $t) (N := 6600) ?hlx (Hook.of $t) (Hook.keeps $t) (fun s e => xl_of s (Bool.and_eq_true_iff.mp e).1) XL.keeps (by rfl) (by rfl) (by rfl) (fun s e => recFacts_of (Bool.and_eq_true_iff.mp e).2) (by rfl) (by first | assumption | decide +kernel) (by decide +kernel) ⟨rfl, rfl, rfl, rfl, rfl, by decide +kernel⟩ ?$hw ?$hc; (case hlx => (refine Kz.Hd.left_k (M := 6000) (by kernel_rfl) (by rfl) (fun s => by kernel_rfl) (by rfl) ?hf ?ht; (case hf => exact Kz.Hd.runF); (case ht => exact Kz.Hd.runT)))))
set_option maxRecDepth 100000 in
set_option maxHeartbeats 0 in
theorem PySem.Challenge.cw_kindswap_k54_doing_refused_holds : PySem.Challenge.rw_kindswap_k54_doing_refused.Holds := by
  w_on; o_law; k_head; (case hw => w_witness2)
  as_aux_lemma =>
    k_fill
    refine Kw.walk_t (l := PySem.Challenge.rw_kindswap_k54_doing_refused) (k := 230 + 1) (x := "_law_script") rfl rfl ⟨⟨by decide, by decide, by decide⟩, rfl⟩ (by decide +kernel) (fun w h Y => PySem.W.kIn_of Y) ?F (fun w H s e s' h => Kw.cx_no h)
    case F =>
      intro w mg mb mean fa h TT KX G hmg
      letI : Kw.Wo := ⟨w⟩
      have t_Reckoner___init__ : Kw.TM (L2.KOf KX) mg "Reckoner" "__init__" "Reckoner.__init__" Kz.s_Reckoner___init__ ["self", "sizes"] := by
        unfold L2.KOf
        refine' Kw.tm_mk KX G ?a ?m ?l ?c ?k ?f ?c1 ?c2 ?c3 ?c4 ?b
        (case a => k_is); (case m => k_is); (case l => k_is); (case c => k_is); (case k => k_is); (case f => k_is); (case c1 => k_is); (case c2 => k_is); (case c3 => k_is); (case c4 => k_is)
        (case b => exact fun _ _ _ _ _ _ us hl => match us, hl with | [_, _], _ => rfl)
      have t_Reckoner_all_of : Kw.TM (L2.KOf KX) mg "Reckoner" "all_of" "Reckoner.all_of" Kz.s_Reckoner_all_of ["self", "kind"] := by
        unfold L2.KOf
        refine' Kw.tm_mk KX G ?a ?m ?l ?c ?k ?f ?c1 ?c2 ?c3 ?c4 ?b
        (case a => k_is); (case m => k_is); (case l => k_is); (case c => k_is); (case k => k_is); (case f => k_is); (case c1 => k_is); (case c2 => k_is); (case c3 => k_is); (case c4 => k_is)
        (case b => exact fun _ _ _ _ _ _ us hl => match us, hl with | [_, _], _ => rfl)
      have t_Reckoner_held : Kw.TM (L2.KOf KX) mg "Reckoner" "held" "Reckoner.held" Kz.s_Reckoner_held ["self", "kind", "worth"] := by
        unfold L2.KOf
        refine' Kw.tm_mk KX G ?a ?m ?l ?c ?k ?f ?c1 ?c2 ?c3 ?c4 ?b
        (case a => k_is); (case m => k_is); (case l => k_is); (case c => k_is); (case k => k_is); (case f => k_is); (case c1 => k_is); (case c2 => k_is); (case c3 => k_is); (case c4 => k_is)
        (case b => exact fun _ _ _ _ _ _ us hl => match us, hl with | [_, _, _], _ => rfl)
      have t_Reckoner_told : Kw.TM (L2.KOf KX) mg "Reckoner" "told" "Reckoner.told" Kz.s_Reckoner_told ["self", "kind", "thing"] := by
        unfold L2.KOf
        refine' Kw.tm_mk KX G ?a ?m ?l ?c ?k ?f ?c1 ?c2 ?c3 ?c4 ?b
        (case a => k_is); (case m => k_is); (case l => k_is); (case c => k_is); (case k => k_is); (case f => k_is); (case c1 => k_is); (case c2 => k_is); (case c3 => k_is); (case c4 => k_is)
        (case b => exact fun _ _ _ _ _ _ us hl => match us, hl with | [_, _, _], _ => rfl)
      have t_Reckoner_worked : Kw.TM (L2.KOf KX) mg "Reckoner" "worked" "Reckoner.worked" Kz.s_Reckoner_worked ["self", "term", "things"] := by
        unfold L2.KOf
        refine' Kw.tm_mk KX G ?a ?m ?l ?c ?k ?f ?c1 ?c2 ?c3 ?c4 ?b
        (case a => k_is); (case m => k_is); (case l => k_is); (case c => k_is); (case k => k_is); (case f => k_is); (case c1 => k_is); (case c2 => k_is); (case c3 => k_is); (case c4 => k_is)
        (case b => exact fun _ _ _ _ _ _ us hl => match us, hl with | [_, _, _], _ => rfl)
      have t_Told___init__ : Kw.TM (L2.KOf KX) mg "Told" "__init__" "Told.__init__" Kz.s_Told___init__ ["self", "reckoner", "kind", "worth"] := by
        unfold L2.KOf
        refine' Kw.tm_mk KX G ?a ?m ?l ?c ?k ?f ?c1 ?c2 ?c3 ?c4 ?b
        (case a => k_is); (case m => k_is); (case l => k_is); (case c => k_is); (case k => k_is); (case f => k_is); (case c1 => k_is); (case c2 => k_is); (case c3 => k_is); (case c4 => k_is)
        (case b => exact fun _ _ _ _ _ _ us hl => match us, hl with | [_, _, _, _], _ => rfl)
      have t_Told_handed : Kw.TM (L2.KOf KX) mg "Told" "handed" "Told.handed" Kz.s_Told_handed ["self", "thing"] := by
        unfold L2.KOf
        refine' Kw.tm_mk KX G ?a ?m ?l ?c ?k ?f ?c1 ?c2 ?c3 ?c4 ?b
        (case a => k_is); (case m => k_is); (case l => k_is); (case c => k_is); (case k => k_is); (case f => k_is); (case c1 => k_is); (case c2 => k_is); (case c3 => k_is); (case c4 => k_is)
        (case b => exact fun _ _ _ _ _ _ us hl => match us, hl with | [_, _], _ => rfl)
      have t_Made___init__ : Kw.TM (L2.KOf KX) mg "Made" "__init__" "Made.__init__" Kz.s_Made___init__ ["self", "reckoner", "body", "things"] := by
        unfold L2.KOf
        refine' Kw.tm_mk KX G ?a ?m ?l ?c ?k ?f ?c1 ?c2 ?c3 ?c4 ?b
        (case a => k_is); (case m => k_is); (case l => k_is); (case c => k_is); (case k => k_is); (case f => k_is); (case c1 => k_is); (case c2 => k_is); (case c3 => k_is); (case c4 => k_is)
        (case b => exact fun _ _ _ _ _ _ us hl => match us, hl with | [_, _, _, _], _ => rfl)
      have t_Made_handed : Kw.TM (L2.KOf KX) mg "Made" "handed" "Made.handed" Kz.s_Made_handed ["self", "thing"] := by
        unfold L2.KOf
        refine' Kw.tm_mk KX G ?a ?m ?l ?c ?k ?f ?c1 ?c2 ?c3 ?c4 ?b
        (case a => k_is); (case m => k_is); (case l => k_is); (case c => k_is); (case k => k_is); (case f => k_is); (case c1 => k_is); (case c2 => k_is); (case c3 => k_is); (case c4 => k_is)
        (case b => exact fun _ _ _ _ _ _ us hl => match us, hl with | [_, _], _ => rfl)
      have t_is_from : Kw.TF (L2.KOf KX) mg "is_from" Kz.s_is_from ["thing", "low", "high"] := by
        unfold L2.KOf
        refine' Kw.tf_mk KX G ?a ?l ?c ?k ?b
        (case a => k_is); (case l => k_is); (case c => k_is); (case k => k_is)
        (case b => exact fun _ _ _ _ _ _ us hl => match us, hl with | [_, _, _], _ => rfl)
      have t_inner_of : Kw.TF (L2.KOf KX) mg "inner_of" Kz.s_inner_of ["thing"] := by
        unfold L2.KOf
        refine' Kw.tf_mk KX G ?a ?l ?c ?k ?b
        (case a => k_is); (case l => k_is); (case c => k_is); (case k => k_is)
        (case b => exact fun _ _ _ _ _ _ us hl => match us, hl with | [_], _ => rfl)
      have t_is_kind : Kw.TF (L2.KOf KX) mg "is_kind" Kz.s_is_kind ["thing"] := by
        unfold L2.KOf
        refine' Kw.tf_mk KX G ?a ?l ?c ?k ?b
        (case a => k_is); (case l => k_is); (case c => k_is); (case k => k_is)
        (case b => exact fun _ _ _ _ _ _ us hl => match us, hl with | [_], _ => rfl)
      have t_sure_kind : Kw.TF (L2.KOf KX) mg "sure_kind" Kz.s_sure_kind ["thing"] := by
        unfold L2.KOf
        refine' Kw.tf_mk KX G ?a ?l ?c ?k ?b
        (case a => k_is); (case l => k_is); (case c => k_is); (case k => k_is)
        (case b => exact fun _ _ _ _ _ _ us hl => match us, hl with | [_], _ => rfl)
      have t_sure_sizes : Kw.TF (L2.KOf KX) mg "sure_sizes" Kz.s_sure_sizes ["thing"] := by
        unfold L2.KOf
        refine' Kw.tf_mk KX G ?a ?l ?c ?k ?b
        (case a => k_is); (case l => k_is); (case c => k_is); (case k => k_is)
        (case b => exact fun _ _ _ _ _ _ us hl => match us, hl with | [_], _ => rfl)
      have t_power_up_to : Kw.TF (L2.KOf KX) mg "power_up_to" Kz.s_power_up_to ["base", "times"] := by
        unfold L2.KOf
        refine' Kw.tf_mk KX G ?a ?l ?c ?k ?b
        (case a => k_is); (case l => k_is); (case c => k_is); (case k => k_is)
        (case b => exact fun _ _ _ _ _ _ us hl => match us, hl with | [_, _], _ => rfl)
      have t_number_up_to : Kw.TF (L2.KOf KX) mg "number_up_to" Kz.s_number_up_to ["kind", "sizes"] := by
        unfold L2.KOf
        refine' Kw.tf_mk KX G ?a ?l ?c ?k ?b
        (case a => k_is); (case l => k_is); (case c => k_is); (case k => k_is)
        (case b => exact fun _ _ _ _ _ _ us hl => match us, hl with | [_, _], _ => rfl)
      have t_sure_taken : Kw.TF (L2.KOf KX) mg "sure_taken" Kz.s_sure_taken ["kind", "sizes"] := by
        unfold L2.KOf
        refine' Kw.tf_mk KX G ?a ?l ?c ?k ?b
        (case a => k_is); (case l => k_is); (case c => k_is); (case k => k_is)
        (case b => exact fun _ _ _ _ _ _ us hl => match us, hl with | [_, _], _ => rfl)
      have t_lists_of : Kw.TF (L2.KOf KX) mg "lists_of" Kz.s_lists_of ["things", "many"] := by
        unfold L2.KOf
        refine' Kw.tf_mk KX G ?a ?l ?c ?k ?b
        (case a => k_is); (case l => k_is); (case c => k_is); (case k => k_is)
        (case b => exact fun _ _ _ _ _ _ us hl => match us, hl with | [_, _], _ => rfl)
      have t_all_worths : Kw.TF (L2.KOf KX) mg "all_worths" Kz.s_all_worths ["kind", "sizes"] := by
        unfold L2.KOf
        refine' Kw.tf_mk KX G ?a ?l ?c ?k ?b
        (case a => k_is); (case l => k_is); (case c => k_is); (case k => k_is)
        (case b => exact fun _ _ _ _ _ _ us hl => match us, hl with | [_, _], _ => rfl)
      have t_worths : Kw.TF (L2.KOf KX) mg "worths" Kz.s_worths ["kind", "sizes"] := by
        unfold L2.KOf
        refine' Kw.tf_mk KX G ?a ?l ?c ?k ?b
        (case a => k_is); (case l => k_is); (case c => k_is); (case k => k_is)
        (case b => exact fun _ _ _ _ _ _ us hl => match us, hl with | [_, _], _ => rfl)
      have t_is_plain_worth : Kw.TF (L2.KOf KX) mg "is_plain_worth" Kz.s_is_plain_worth ["kind", "sizes", "thing"] := by
        unfold L2.KOf
        refine' Kw.tf_mk KX G ?a ?l ?c ?k ?b
        (case a => k_is); (case l => k_is); (case c => k_is); (case k => k_is)
        (case b => exact fun _ _ _ _ _ _ us hl => match us, hl with | [_, _, _], _ => rfl)
      have t_is_worth : Kw.TF (L2.KOf KX) mg "is_worth" Kz.s_is_worth ["kind", "sizes", "thing"] := by
        unfold L2.KOf
        refine' Kw.tf_mk KX G ?a ?l ?c ?k ?b
        (case a => k_is); (case l => k_is); (case c => k_is); (case k => k_is)
        (case b => exact fun _ _ _ _ _ _ us hl => match us, hl with | [_, _, _], _ => rfl)
      have t_is_shape : Kw.TF (L2.KOf KX) mg "is_shape" Kz.s_is_shape ["thing"] := by
        unfold L2.KOf
        refine' Kw.tf_mk KX G ?a ?l ?c ?k ?b
        (case a => k_is); (case l => k_is); (case c => k_is); (case k => k_is)
        (case b => exact fun _ _ _ _ _ _ us hl => match us, hl with | [_], _ => rfl)
      have t_kind_of_given : Kw.TF (L2.KOf KX) mg "kind_of_given" Kz.s_kind_of_given ["k", "given"] := by
        unfold L2.KOf
        refine' Kw.tf_mk KX G ?a ?l ?c ?k ?b
        (case a => k_is); (case l => k_is); (case c => k_is); (case k => k_is)
        (case b => exact fun _ _ _ _ _ _ us hl => match us, hl with | [_, _], _ => rfl)
      have t_kind_of_two : Kw.TF (L2.KOf KX) mg "kind_of_two" Kz.s_kind_of_two ["word", "one", "other"] := by
        unfold L2.KOf
        refine' Kw.tf_mk KX G ?a ?l ?c ?k ?b
        (case a => k_is); (case l => k_is); (case c => k_is); (case k => k_is)
        (case b => exact fun _ _ _ _ _ _ us hl => match us, hl with | [_, _, _], _ => rfl)
      have t_kind_in : Kw.TF (L2.KOf KX) mg "kind_in" Kz.s_kind_in ["term", "given"] := by
        unfold L2.KOf
        refine' Kw.tf_mk KX G ?a ?l ?c ?k ?b
        (case a => k_is); (case l => k_is); (case c => k_is); (case k => k_is)
        (case b => exact fun _ _ _ _ _ _ us hl => match us, hl with | [_, _], _ => rfl)
      have t_sure_kind_in : Kw.TF (L2.KOf KX) mg "sure_kind_in" Kz.s_sure_kind_in ["term", "given"] := by
        unfold L2.KOf
        refine' Kw.tf_mk KX G ?a ?l ?c ?k ?b
        (case a => k_is); (case l => k_is); (case c => k_is); (case k => k_is)
        (case b => exact fun _ _ _ _ _ _ us hl => match us, hl with | [_, _], _ => rfl)
      have t_done : Kw.TF (L2.KOf KX) mg "done" Kz.s_done ["term", "sizes", "worth"] := by
        unfold L2.KOf
        refine' Kw.tf_mk KX G ?a ?l ?c ?k ?b
        (case a => k_is); (case l => k_is); (case c => k_is); (case k => k_is)
        (case b => exact fun _ _ _ _ _ _ us hl => match us, hl with | [_, _, _], _ => rfl)
      have t__law_well : Kw.TF (L2.KOf KX) mg "_law_well" Kz.s__law_well ["_law_cell"] := by
        unfold L2.KOf
        refine' Kw.tf_mk KX G ?a ?l ?c ?k ?b
        (case a => k_is); (case l => k_is); (case c => k_is); (case k => k_is)
        (case b => exact fun _ _ _ _ _ _ us hl => match us, hl with | [_], _ => rfl)
      have t__law_draw : Kw.TF (L2.KOf KX) mg "_law_draw" Kz.s__law_draw ["_law_well_here", "_law_width"] := by
        unfold L2.KOf
        refine' Kw.tf_mk KX G ?a ?l ?c ?k ?b
        (case a => k_is); (case l => k_is); (case c => k_is); (case k => k_is)
        (case b => exact fun _ _ _ _ _ _ us hl => match us, hl with | [_, _], _ => rfl)
      have t__law_word : Kw.TF (L2.KOf KX) mg "_law_word" Kz.s__law_word ["_law_term", "_law_sizes", "_law_worth"] := by
        unfold L2.KOf
        refine' Kw.tf_mk KX G ?a ?l ?c ?k ?b
        (case a => k_is); (case l => k_is); (case c => k_is); (case k => k_is)
        (case b => exact fun _ _ _ _ _ _ us hl => match us, hl with | [_, _, _], _ => rfl)
      have t__law_one : Kw.TF (L2.KOf KX) mg "_law_one" Kz.s__law_one ["_law_well_here", "_law_some"] := by
        unfold L2.KOf
        refine' Kw.tf_mk KX G ?a ?l ?c ?k ?b
        (case a => k_is); (case l => k_is); (case c => k_is); (case k => k_is)
        (case b => exact fun _ _ _ _ _ _ us hl => match us, hl with | [_, _], _ => rfl)
      have t__law_function : Kw.TF (L2.KOf KX) mg "_law_function" Kz.s__law_function ["_law_well_here", "_law_n"] := by
        unfold L2.KOf
        refine' Kw.tf_mk KX G ?a ?l ?c ?k ?b
        (case a => k_is); (case l => k_is); (case c => k_is); (case k => k_is)
        (case b => exact fun _ _ _ _ _ _ us hl => match us, hl with | [_, _], _ => rfl)
      have t__law_great : Kw.TF (L2.KOf KX) mg "_law_great" Kz.s__law_great ["_law_well_here", "_law_n"] := by
        unfold L2.KOf
        refine' Kw.tf_mk KX G ?a ?l ?c ?k ?b
        (case a => k_is); (case l => k_is); (case c => k_is); (case k => k_is)
        (case b => exact fun _ _ _ _ _ _ us hl => match us, hl with | [_, _], _ => rfl)
      have m_all : mg "all" = none := by
        refine' Kw.bl_mk KX G ?a
        (case a => k_is)
      have m_bool : mg "bool" = none := by
        refine' Kw.bl_mk KX G ?a
        (case a => k_is)
      have m_enumerate : mg "enumerate" = none := by
        refine' Kw.bl_mk KX G ?a
        (case a => k_is)
      have m_int : mg "int" = none := by
        refine' Kw.bl_mk KX G ?a
        (case a => k_is)
      have m_isinstance : mg "isinstance" = none := by
        refine' Kw.bl_mk KX G ?a
        (case a => k_is)
      have m_len : mg "len" = none := by
        refine' Kw.bl_mk KX G ?a
        (case a => k_is)
      have m_list : mg "list" = none := by
        refine' Kw.bl_mk KX G ?a
        (case a => k_is)
      have m_min : mg "min" = none := by
        refine' Kw.bl_mk KX G ?a
        (case a => k_is)
      have m_range : mg "range" = none := by
        refine' Kw.bl_mk KX G ?a
        (case a => k_is)
      have m_str : mg "str" = none := by
        refine' Kw.bl_mk KX G ?a
        (case a => k_is)
      have m_tuple : mg "tuple" = none := by
        refine' Kw.bl_mk KX G ?a
        (case a => k_is)
      have c_BASES : Kw.GC mg "BASES" (.int 8) := by
        refine' Kw.gc_int KX G ?a
        (case a => k_is)
      have c_LETTERS : Kw.GC mg "LETTERS" (.str "abcdefgh") := by
        refine' Kw.gc_str KX G ?a
        (case a => k_is)
      have c_MARKS : Kw.GD (L2.KOf KX) w.params mg "MARKS" Kz.kv_MARKS := by
        unfold L2.KOf
        refine' Kw.gd_mk KX G ?a ?l ?k ?s ?e
        (case a => k_is); (case l => k_is); (case k => exact ⟨⟨_, _, rfl, rfl⟩, ⟨_, _, rfl, rfl⟩, trivial⟩); (case s => rfl); (case e => exact (Kw.Ents.cons (v := .str "*") ⟨_, rfl⟩ rfl (Kw.Ents.cons (v := .str ">") ⟨_, rfl⟩ rfl Kw.Ents.nil)))
      have c_MOST_SIZE : Kw.GC mg "MOST_SIZE" (.int 999) := by
        refine' Kw.gc_int KX G ?a
        (case a => k_is)
      have c_MOST_WORTHS : Kw.GC mg "MOST_WORTHS" (.int 5000) := by
        refine' Kw.gc_int KX G ?a
        (case a => k_is)
      have c_PARTS : Kw.GD (L2.KOf KX) w.params mg "PARTS" Kz.kv_PARTS := by
        unfold L2.KOf
        refine' Kw.gd_mk KX G ?a ?l ?k ?s ?e
        (case a => k_is); (case l => k_is); (case k => exact ⟨⟨_, _, rfl, rfl⟩, ⟨_, _, rfl, rfl⟩, ⟨_, _, rfl, rfl⟩, ⟨_, _, rfl, rfl⟩, ⟨_, _, rfl, rfl⟩, ⟨_, _, rfl, rfl⟩, ⟨_, _, rfl, rfl⟩, trivial⟩); (case s => rfl); (case e => exact (Kw.Ents.cons (v := .int 2) ⟨_, rfl⟩ rfl (Kw.Ents.cons (v := .int 3) ⟨_, rfl⟩ rfl (Kw.Ents.cons (v := .int 3) ⟨_, rfl⟩ rfl (Kw.Ents.cons (v := .int 3) ⟨_, rfl⟩ rfl (Kw.Ents.cons (v := .int 2) ⟨_, rfl⟩ rfl (Kw.Ents.cons (v := .int 2) ⟨_, rfl⟩ rfl (Kw.Ents.cons (v := .int 1) ⟨_, rfl⟩ rfl Kw.Ents.nil))))))))
      have k_Made : Kw.MkC (L2.KOf KX) mg "Made" := by
        unfold L2.KOf
        refine' Kw.mkc_mk KX G ?a ?b ?c ?d ?e
        (case a => k_is); (case b => k_is); (case c => k_is); (case d => k_is); (case e => k_is)
      have k_Reckoner : Kw.MkC (L2.KOf KX) mg "Reckoner" := by
        unfold L2.KOf
        refine' Kw.mkc_mk KX G ?a ?b ?c ?d ?e
        (case a => k_is); (case b => k_is); (case c => k_is); (case d => k_is); (case e => k_is)
      have k_Told : Kw.MkC (L2.KOf KX) mg "Told" := by
        unfold L2.KOf
        refine' Kw.mkc_mk KX G ?a ?b ?c ?d ?e
        (case a => k_is); (case b => k_is); (case c => k_is); (case d => k_is); (case e => k_is)
      have g_Made_body : Kw.FldC (L2.KOf KX) mg "Made" "body" := by
        unfold L2.KOf
        refine' Kw.fld_mk KX G ?a ?n ?c1 ?c2 ?c3 ?c4
        (case a => k_is); (case n => k_is); (case c1 => k_is); (case c2 => k_is); (case c3 => k_is); (case c4 => k_is)
      have g_body : ∀ c ∈ (["Made"] : List Str), Kw.FldC (L2.KOf KX) mg c "body" := (List.forall_mem_cons.mpr ⟨g_Made_body, (by simp)⟩)
      have g_Told_kind : Kw.FldC (L2.KOf KX) mg "Told" "kind" := by
        unfold L2.KOf
        refine' Kw.fld_mk KX G ?a ?n ?c1 ?c2 ?c3 ?c4
        (case a => k_is); (case n => k_is); (case c1 => k_is); (case c2 => k_is); (case c3 => k_is); (case c4 => k_is)
      have g_kind : ∀ c ∈ (["Told"] : List Str), Kw.FldC (L2.KOf KX) mg c "kind" := (List.forall_mem_cons.mpr ⟨g_Told_kind, (by simp)⟩)
      have g_Reckoner_lists : Kw.FldC (L2.KOf KX) mg "Reckoner" "lists" := by
        unfold L2.KOf
        refine' Kw.fld_mk KX G ?a ?n ?c1 ?c2 ?c3 ?c4
        (case a => k_is); (case n => k_is); (case c1 => k_is); (case c2 => k_is); (case c3 => k_is); (case c4 => k_is)
      have g_lists : ∀ c ∈ (["Reckoner"] : List Str), Kw.FldC (L2.KOf KX) mg c "lists" := (List.forall_mem_cons.mpr ⟨g_Reckoner_lists, (by simp)⟩)
      have g_Told_reckoner : Kw.FldC (L2.KOf KX) mg "Told" "reckoner" := by
        unfold L2.KOf
        refine' Kw.fld_mk KX G ?a ?n ?c1 ?c2 ?c3 ?c4
        (case a => k_is); (case n => k_is); (case c1 => k_is); (case c2 => k_is); (case c3 => k_is); (case c4 => k_is)
      have g_Made_reckoner : Kw.FldC (L2.KOf KX) mg "Made" "reckoner" := by
        unfold L2.KOf
        refine' Kw.fld_mk KX G ?a ?n ?c1 ?c2 ?c3 ?c4
        (case a => k_is); (case n => k_is); (case c1 => k_is); (case c2 => k_is); (case c3 => k_is); (case c4 => k_is)
      have g_reckoner : ∀ c ∈ (["Told", "Made"] : List Str), Kw.FldC (L2.KOf KX) mg c "reckoner" := (List.forall_mem_cons.mpr ⟨g_Told_reckoner, (List.forall_mem_cons.mpr ⟨g_Made_reckoner, (by simp)⟩)⟩)
      have g_Reckoner_sizes : Kw.FldC (L2.KOf KX) mg "Reckoner" "sizes" := by
        unfold L2.KOf
        refine' Kw.fld_mk KX G ?a ?n ?c1 ?c2 ?c3 ?c4
        (case a => k_is); (case n => k_is); (case c1 => k_is); (case c2 => k_is); (case c3 => k_is); (case c4 => k_is)
      have g_sizes : ∀ c ∈ (["Reckoner"] : List Str), Kw.FldC (L2.KOf KX) mg c "sizes" := (List.forall_mem_cons.mpr ⟨g_Reckoner_sizes, (by simp)⟩)
      have g_Reckoner_spots : Kw.FldC (L2.KOf KX) mg "Reckoner" "spots" := by
        unfold L2.KOf
        refine' Kw.fld_mk KX G ?a ?n ?c1 ?c2 ?c3 ?c4
        (case a => k_is); (case n => k_is); (case c1 => k_is); (case c2 => k_is); (case c3 => k_is); (case c4 => k_is)
      have g_spots : ∀ c ∈ (["Reckoner"] : List Str), Kw.FldC (L2.KOf KX) mg c "spots" := (List.forall_mem_cons.mpr ⟨g_Reckoner_spots, (by simp)⟩)
      have g_Made_things : Kw.FldC (L2.KOf KX) mg "Made" "things" := by
        unfold L2.KOf
        refine' Kw.fld_mk KX G ?a ?n ?c1 ?c2 ?c3 ?c4
        (case a => k_is); (case n => k_is); (case c1 => k_is); (case c2 => k_is); (case c3 => k_is); (case c4 => k_is)
      have g_things : ∀ c ∈ (["Made"] : List Str), Kw.FldC (L2.KOf KX) mg c "things" := (List.forall_mem_cons.mpr ⟨g_Made_things, (by simp)⟩)
      have g_Told_worth : Kw.FldC (L2.KOf KX) mg "Told" "worth" := by
        unfold L2.KOf
        refine' Kw.fld_mk KX G ?a ?n ?c1 ?c2 ?c3 ?c4
        (case a => k_is); (case n => k_is); (case c1 => k_is); (case c2 => k_is); (case c3 => k_is); (case c4 => k_is)
      have g_worth : ∀ c ∈ (["Told"] : List Str), Kw.FldC (L2.KOf KX) mg c "worth" := (List.forall_mem_cons.mpr ⟨g_Told_worth, (by simp)⟩)
      have x_NoKind : Kw.ExcF (L2.KOf KX) mg "NoKind" := by
        unfold L2.KOf
        refine' Kw.exc_mk KX G ?a ?b ?c ?d ?e
        (case a => k_is); (case b => k_exc); (case c => k_is); (case d => k_is); (case e => k_is)
      have x_NoSizes : Kw.ExcF (L2.KOf KX) mg "NoSizes" := by
        unfold L2.KOf
        refine' Kw.exc_mk KX G ?a ?b ?c ?d ?e
        (case a => k_is); (case b => k_exc); (case c => k_is); (case d => k_is); (case e => k_is)
      have x_NoTerm : Kw.ExcF (L2.KOf KX) mg "NoTerm" := by
        unfold L2.KOf
        refine' Kw.exc_mk KX G ?a ?b ?c ?d ?e
        (case a => k_is); (case b => k_exc); (case c => k_is); (case d => k_is); (case e => k_is)
      have x_NoWorth : Kw.ExcF (L2.KOf KX) mg "NoWorth" := by
        unfold L2.KOf
        refine' Kw.exc_mk KX G ?a ?b ?c ?d ?e
        (case a => k_is); (case b => k_exc); (case c => k_is); (case d => k_is); (case e => k_is)
      have x_TooMany : Kw.ExcF (L2.KOf KX) mg "TooMany" := by
        unfold L2.KOf
        refine' Kw.exc_mk KX G ?a ?b ?c ?d ?e
        (case a => k_is); (case b => k_exc); (case c => k_is); (case d => k_is); (case e => k_is)
      have xk_NoKind : Kw.ExcK (L2.KOf KX) mg "NoKind" := by
        unfold L2.KOf
        refine' Kw.exck_mk KX G ?kz20 ⟨?kz21, ?kz22, ?kz23, ?kz24, ?kz25, ?kz26, ?kz27, ?kz28⟩
        (case kz20 => k_is)
        (case kz21 => k_is)
        (case kz22 => k_is)
        (case kz23 => k_is)
        (case kz24 => k_is)
        (case kz25 => k_is)
        (case kz26 => k_is)
        (case kz27 => k_is)
        (case kz28 => k_is)

      have xk_NoSizes : Kw.ExcK (L2.KOf KX) mg "NoSizes" := by
        unfold L2.KOf
        refine' Kw.exck_mk KX G ?kz40 ⟨?kz41, ?kz42, ?kz43, ?kz44, ?kz45, ?kz46, ?kz47, ?kz48⟩
        (case kz40 => k_is)
        (case kz41 => k_is)
        (case kz42 => k_is)
        (case kz43 => k_is)
        (case kz44 => k_is)
        (case kz45 => k_is)
        (case kz46 => k_is)
        (case kz47 => k_is)
        (case kz48 => k_is)

      have xk_NoTerm : Kw.ExcK (L2.KOf KX) mg "NoTerm" := by
        unfold L2.KOf
        refine' Kw.exck_mk KX G ?kz60 ⟨?kz61, ?kz62, ?kz63, ?kz64, ?kz65, ?kz66, ?kz67, ?kz68⟩
        (case kz60 => k_is)
        (case kz61 => k_is)
        (case kz62 => k_is)
        (case kz63 => k_is)
        (case kz64 => k_is)
        (case kz65 => k_is)
        (case kz66 => k_is)
        (case kz67 => k_is)
        (case kz68 => k_is)

      have xk_NoWorth : Kw.ExcK (L2.KOf KX) mg "NoWorth" := by
        unfold L2.KOf
        refine' Kw.exck_mk KX G ?kz80 ⟨?kz81, ?kz82, ?kz83, ?kz84, ?kz85, ?kz86, ?kz87, ?kz88⟩
        (case kz80 => k_is)
        (case kz81 => k_is)
        (case kz82 => k_is)
        (case kz83 => k_is)
        (case kz84 => k_is)
        (case kz85 => k_is)
        (case kz86 => k_is)
        (case kz87 => k_is)
        (case kz88 => k_is)

      have xk_TooMany : Kw.ExcK (L2.KOf KX) mg "TooMany" := by
        unfold L2.KOf
        refine' Kw.exck_mk KX G ?kz100 ⟨?kz101, ?kz102, ?kz103, ?kz104, ?kz105, ?kz106, ?kz107, ?kz108⟩
        (case kz100 => k_is)
        (case kz101 => k_is)
        (case kz102 => k_is)
        (case kz103 => k_is)
        (case kz104 => k_is)
        (case kz105 => k_is)
        (case kz106 => k_is)
        (case kz107 => k_is)
        (case kz108 => k_is)

      have xk : ∀ y ∈ Kz.excs, Kw.ExcK (L2.KOf KX) mg y := (List.forall_mem_cons.mpr ⟨xk_NoKind, (List.forall_mem_cons.mpr ⟨xk_NoSizes, (List.forall_mem_cons.mpr ⟨xk_NoTerm, (List.forall_mem_cons.mpr ⟨xk_NoWorth, (List.forall_mem_cons.mpr ⟨xk_TooMany, (by simp)⟩)⟩)⟩)⟩)⟩)
      have c_SwapError : Kw.CatF (L2.KOf KX) mg Kz.excs "SwapError" (fun y => Kz.isx y "SwapError") := by
        unfold L2.KOf
        refine' Kw.cat_mk KX G ?kz120 ?kz121
        (case kz120 => k_is)

        refine' List.forall_mem_cons.mpr ⟨Kw.caty_mk KX G ?kz140 ?kz141 ?kz142 ?kz143 ?kz144 ?kz145, ?kz146⟩
        (case kz140 => k_is)
        (case kz141 => exact (show Kz.isx "NoKind" "SwapError" = true by decide +kernel))
        (case kz142 => k_is)
        (case kz143 => k_is)
        (case kz144 => k_is)
        (case kz145 => k_is)
        refine' List.forall_mem_cons.mpr ⟨Kw.caty_mk KX G ?kz160 ?kz161 ?kz162 ?kz163 ?kz164 ?kz165, ?kz166⟩
        (case kz160 => k_is)
        (case kz161 => exact (show Kz.isx "NoSizes" "SwapError" = true by decide +kernel))
        (case kz162 => k_is)
        (case kz163 => k_is)
        (case kz164 => k_is)
        (case kz165 => k_is)
        refine' List.forall_mem_cons.mpr ⟨Kw.caty_mk KX G ?kz180 ?kz181 ?kz182 ?kz183 ?kz184 ?kz185, ?kz186⟩
        (case kz180 => k_is)
        (case kz181 => exact (show Kz.isx "NoTerm" "SwapError" = true by decide +kernel))
        (case kz182 => k_is)
        (case kz183 => k_is)
        (case kz184 => k_is)
        (case kz185 => k_is)
        refine' List.forall_mem_cons.mpr ⟨Kw.caty_mk KX G ?kz200 ?kz201 ?kz202 ?kz203 ?kz204 ?kz205, ?kz206⟩
        (case kz200 => k_is)
        (case kz201 => exact (show Kz.isx "NoWorth" "SwapError" = true by decide +kernel))
        (case kz202 => k_is)
        (case kz203 => k_is)
        (case kz204 => k_is)
        (case kz205 => k_is)
        refine' List.forall_mem_cons.mpr ⟨Kw.caty_mk KX G ?kz220 ?kz221 ?kz222 ?kz223 ?kz224 ?kz225, ?kz226⟩
        (case kz220 => k_is)
        (case kz221 => exact (show Kz.isx "TooMany" "SwapError" = true by decide +kernel))
        (case kz222 => k_is)
        (case kz223 => k_is)
        (case kz224 => k_is)
        (case kz225 => k_is)
        simp
      have i_NoKind_NoKind : Kw.IsxO (L2.KOf KX) mg "NoKind" "NoKind" (Kz.isx "NoKind" "NoKind") := by
        unfold L2.KOf
        refine' Kw.isxo_mk (b' := true) KX G ?kz240 ?kz241 ?kz242 ?kz243 ?kz244 ?kz245 ?kz246
        (case kz240 => k_is)
        (case kz241 => k_is)
        (case kz242 => exact (show Kz.isx "NoKind" "NoKind" = true by decide +kernel))
        (case kz243 => k_is)
        (case kz244 => k_is)
        (case kz245 => k_is)
        (case kz246 => decide)

      have i_NoKind_NoSizes : Kw.IsxO (L2.KOf KX) mg "NoSizes" "NoKind" (Kz.isx "NoSizes" "NoKind") := by
        unfold L2.KOf
        refine' Kw.isxo_mk (b' := false) KX G ?kz260 ?kz261 ?kz262 ?kz263 ?kz264 ?kz265 ?kz266
        (case kz260 => k_is)
        (case kz261 => k_is)
        (case kz262 => exact (show Kz.isx "NoSizes" "NoKind" = false by decide +kernel))
        (case kz263 => k_is)
        (case kz264 => k_is)
        (case kz265 => k_is)
        (case kz266 => decide)

      have i_NoKind_NoTerm : Kw.IsxO (L2.KOf KX) mg "NoTerm" "NoKind" (Kz.isx "NoTerm" "NoKind") := by
        unfold L2.KOf
        refine' Kw.isxo_mk (b' := false) KX G ?kz280 ?kz281 ?kz282 ?kz283 ?kz284 ?kz285 ?kz286
        (case kz280 => k_is)
        (case kz281 => k_is)
        (case kz282 => exact (show Kz.isx "NoTerm" "NoKind" = false by decide +kernel))
        (case kz283 => k_is)
        (case kz284 => k_is)
        (case kz285 => k_is)
        (case kz286 => decide)

      have i_NoKind_NoWorth : Kw.IsxO (L2.KOf KX) mg "NoWorth" "NoKind" (Kz.isx "NoWorth" "NoKind") := by
        unfold L2.KOf
        refine' Kw.isxo_mk (b' := false) KX G ?kz300 ?kz301 ?kz302 ?kz303 ?kz304 ?kz305 ?kz306
        (case kz300 => k_is)
        (case kz301 => k_is)
        (case kz302 => exact (show Kz.isx "NoWorth" "NoKind" = false by decide +kernel))
        (case kz303 => k_is)
        (case kz304 => k_is)
        (case kz305 => k_is)
        (case kz306 => decide)

      have i_NoKind_TooMany : Kw.IsxO (L2.KOf KX) mg "TooMany" "NoKind" (Kz.isx "TooMany" "NoKind") := by
        unfold L2.KOf
        refine' Kw.isxo_mk (b' := false) KX G ?kz320 ?kz321 ?kz322 ?kz323 ?kz324 ?kz325 ?kz326
        (case kz320 => k_is)
        (case kz321 => k_is)
        (case kz322 => exact (show Kz.isx "TooMany" "NoKind" = false by decide +kernel))
        (case kz323 => k_is)
        (case kz324 => k_is)
        (case kz325 => k_is)
        (case kz326 => decide)

      have i_NoKind : ∀ y ∈ Kz.excs, Kw.IsxO (L2.KOf KX) mg y "NoKind" (Kz.isx y "NoKind") := (List.forall_mem_cons.mpr ⟨i_NoKind_NoKind, (List.forall_mem_cons.mpr ⟨i_NoKind_NoSizes, (List.forall_mem_cons.mpr ⟨i_NoKind_NoTerm, (List.forall_mem_cons.mpr ⟨i_NoKind_NoWorth, (List.forall_mem_cons.mpr ⟨i_NoKind_TooMany, (by simp)⟩)⟩)⟩)⟩)⟩)
      have i_NoSizes_NoKind : Kw.IsxO (L2.KOf KX) mg "NoKind" "NoSizes" (Kz.isx "NoKind" "NoSizes") := by
        unfold L2.KOf
        refine' Kw.isxo_mk (b' := false) KX G ?kz340 ?kz341 ?kz342 ?kz343 ?kz344 ?kz345 ?kz346
        (case kz340 => k_is)
        (case kz341 => k_is)
        (case kz342 => exact (show Kz.isx "NoKind" "NoSizes" = false by decide +kernel))
        (case kz343 => k_is)
        (case kz344 => k_is)
        (case kz345 => k_is)
        (case kz346 => decide)

      have i_NoSizes_NoSizes : Kw.IsxO (L2.KOf KX) mg "NoSizes" "NoSizes" (Kz.isx "NoSizes" "NoSizes") := by
        unfold L2.KOf
        refine' Kw.isxo_mk (b' := true) KX G ?kz360 ?kz361 ?kz362 ?kz363 ?kz364 ?kz365 ?kz366
        (case kz360 => k_is)
        (case kz361 => k_is)
        (case kz362 => exact (show Kz.isx "NoSizes" "NoSizes" = true by decide +kernel))
        (case kz363 => k_is)
        (case kz364 => k_is)
        (case kz365 => k_is)
        (case kz366 => decide)

      have i_NoSizes_NoTerm : Kw.IsxO (L2.KOf KX) mg "NoTerm" "NoSizes" (Kz.isx "NoTerm" "NoSizes") := by
        unfold L2.KOf
        refine' Kw.isxo_mk (b' := false) KX G ?kz380 ?kz381 ?kz382 ?kz383 ?kz384 ?kz385 ?kz386
        (case kz380 => k_is)
        (case kz381 => k_is)
        (case kz382 => exact (show Kz.isx "NoTerm" "NoSizes" = false by decide +kernel))
        (case kz383 => k_is)
        (case kz384 => k_is)
        (case kz385 => k_is)
        (case kz386 => decide)

      have i_NoSizes_NoWorth : Kw.IsxO (L2.KOf KX) mg "NoWorth" "NoSizes" (Kz.isx "NoWorth" "NoSizes") := by
        unfold L2.KOf
        refine' Kw.isxo_mk (b' := false) KX G ?kz400 ?kz401 ?kz402 ?kz403 ?kz404 ?kz405 ?kz406
        (case kz400 => k_is)
        (case kz401 => k_is)
        (case kz402 => exact (show Kz.isx "NoWorth" "NoSizes" = false by decide +kernel))
        (case kz403 => k_is)
        (case kz404 => k_is)
        (case kz405 => k_is)
        (case kz406 => decide)

      have i_NoSizes_TooMany : Kw.IsxO (L2.KOf KX) mg "TooMany" "NoSizes" (Kz.isx "TooMany" "NoSizes") := by
        unfold L2.KOf
        refine' Kw.isxo_mk (b' := false) KX G ?kz420 ?kz421 ?kz422 ?kz423 ?kz424 ?kz425 ?kz426
        (case kz420 => k_is)
        (case kz421 => k_is)
        (case kz422 => exact (show Kz.isx "TooMany" "NoSizes" = false by decide +kernel))
        (case kz423 => k_is)
        (case kz424 => k_is)
        (case kz425 => k_is)
        (case kz426 => decide)

      have i_NoSizes : ∀ y ∈ Kz.excs, Kw.IsxO (L2.KOf KX) mg y "NoSizes" (Kz.isx y "NoSizes") := (List.forall_mem_cons.mpr ⟨i_NoSizes_NoKind, (List.forall_mem_cons.mpr ⟨i_NoSizes_NoSizes, (List.forall_mem_cons.mpr ⟨i_NoSizes_NoTerm, (List.forall_mem_cons.mpr ⟨i_NoSizes_NoWorth, (List.forall_mem_cons.mpr ⟨i_NoSizes_TooMany, (by simp)⟩)⟩)⟩)⟩)⟩)
      have i_NoTerm_NoKind : Kw.IsxO (L2.KOf KX) mg "NoKind" "NoTerm" (Kz.isx "NoKind" "NoTerm") := by
        unfold L2.KOf
        refine' Kw.isxo_mk (b' := false) KX G ?kz440 ?kz441 ?kz442 ?kz443 ?kz444 ?kz445 ?kz446
        (case kz440 => k_is)
        (case kz441 => k_is)
        (case kz442 => exact (show Kz.isx "NoKind" "NoTerm" = false by decide +kernel))
        (case kz443 => k_is)
        (case kz444 => k_is)
        (case kz445 => k_is)
        (case kz446 => decide)

      have i_NoTerm_NoSizes : Kw.IsxO (L2.KOf KX) mg "NoSizes" "NoTerm" (Kz.isx "NoSizes" "NoTerm") := by
        unfold L2.KOf
        refine' Kw.isxo_mk (b' := false) KX G ?kz460 ?kz461 ?kz462 ?kz463 ?kz464 ?kz465 ?kz466
        (case kz460 => k_is)
        (case kz461 => k_is)
        (case kz462 => exact (show Kz.isx "NoSizes" "NoTerm" = false by decide +kernel))
        (case kz463 => k_is)
        (case kz464 => k_is)
        (case kz465 => k_is)
        (case kz466 => decide)

      have i_NoTerm_NoTerm : Kw.IsxO (L2.KOf KX) mg "NoTerm" "NoTerm" (Kz.isx "NoTerm" "NoTerm") := by
        unfold L2.KOf
        refine' Kw.isxo_mk (b' := true) KX G ?kz480 ?kz481 ?kz482 ?kz483 ?kz484 ?kz485 ?kz486
        (case kz480 => k_is)
        (case kz481 => k_is)
        (case kz482 => exact (show Kz.isx "NoTerm" "NoTerm" = true by decide +kernel))
        (case kz483 => k_is)
        (case kz484 => k_is)
        (case kz485 => k_is)
        (case kz486 => decide)

      have i_NoTerm_NoWorth : Kw.IsxO (L2.KOf KX) mg "NoWorth" "NoTerm" (Kz.isx "NoWorth" "NoTerm") := by
        unfold L2.KOf
        refine' Kw.isxo_mk (b' := false) KX G ?kz500 ?kz501 ?kz502 ?kz503 ?kz504 ?kz505 ?kz506
        (case kz500 => k_is)
        (case kz501 => k_is)
        (case kz502 => exact (show Kz.isx "NoWorth" "NoTerm" = false by decide +kernel))
        (case kz503 => k_is)
        (case kz504 => k_is)
        (case kz505 => k_is)
        (case kz506 => decide)

      have i_NoTerm_TooMany : Kw.IsxO (L2.KOf KX) mg "TooMany" "NoTerm" (Kz.isx "TooMany" "NoTerm") := by
        unfold L2.KOf
        refine' Kw.isxo_mk (b' := false) KX G ?kz520 ?kz521 ?kz522 ?kz523 ?kz524 ?kz525 ?kz526
        (case kz520 => k_is)
        (case kz521 => k_is)
        (case kz522 => exact (show Kz.isx "TooMany" "NoTerm" = false by decide +kernel))
        (case kz523 => k_is)
        (case kz524 => k_is)
        (case kz525 => k_is)
        (case kz526 => decide)

      have i_NoTerm : ∀ y ∈ Kz.excs, Kw.IsxO (L2.KOf KX) mg y "NoTerm" (Kz.isx y "NoTerm") := (List.forall_mem_cons.mpr ⟨i_NoTerm_NoKind, (List.forall_mem_cons.mpr ⟨i_NoTerm_NoSizes, (List.forall_mem_cons.mpr ⟨i_NoTerm_NoTerm, (List.forall_mem_cons.mpr ⟨i_NoTerm_NoWorth, (List.forall_mem_cons.mpr ⟨i_NoTerm_TooMany, (by simp)⟩)⟩)⟩)⟩)⟩)
      have i_NoWorth_NoKind : Kw.IsxO (L2.KOf KX) mg "NoKind" "NoWorth" (Kz.isx "NoKind" "NoWorth") := by
        unfold L2.KOf
        refine' Kw.isxo_mk (b' := false) KX G ?kz540 ?kz541 ?kz542 ?kz543 ?kz544 ?kz545 ?kz546
        (case kz540 => k_is)
        (case kz541 => k_is)
        (case kz542 => exact (show Kz.isx "NoKind" "NoWorth" = false by decide +kernel))
        (case kz543 => k_is)
        (case kz544 => k_is)
        (case kz545 => k_is)
        (case kz546 => decide)

      have i_NoWorth_NoSizes : Kw.IsxO (L2.KOf KX) mg "NoSizes" "NoWorth" (Kz.isx "NoSizes" "NoWorth") := by
        unfold L2.KOf
        refine' Kw.isxo_mk (b' := false) KX G ?kz560 ?kz561 ?kz562 ?kz563 ?kz564 ?kz565 ?kz566
        (case kz560 => k_is)
        (case kz561 => k_is)
        (case kz562 => exact (show Kz.isx "NoSizes" "NoWorth" = false by decide +kernel))
        (case kz563 => k_is)
        (case kz564 => k_is)
        (case kz565 => k_is)
        (case kz566 => decide)

      have i_NoWorth_NoTerm : Kw.IsxO (L2.KOf KX) mg "NoTerm" "NoWorth" (Kz.isx "NoTerm" "NoWorth") := by
        unfold L2.KOf
        refine' Kw.isxo_mk (b' := false) KX G ?kz580 ?kz581 ?kz582 ?kz583 ?kz584 ?kz585 ?kz586
        (case kz580 => k_is)
        (case kz581 => k_is)
        (case kz582 => exact (show Kz.isx "NoTerm" "NoWorth" = false by decide +kernel))
        (case kz583 => k_is)
        (case kz584 => k_is)
        (case kz585 => k_is)
        (case kz586 => decide)

      have i_NoWorth_NoWorth : Kw.IsxO (L2.KOf KX) mg "NoWorth" "NoWorth" (Kz.isx "NoWorth" "NoWorth") := by
        unfold L2.KOf
        refine' Kw.isxo_mk (b' := true) KX G ?kz600 ?kz601 ?kz602 ?kz603 ?kz604 ?kz605 ?kz606
        (case kz600 => k_is)
        (case kz601 => k_is)
        (case kz602 => exact (show Kz.isx "NoWorth" "NoWorth" = true by decide +kernel))
        (case kz603 => k_is)
        (case kz604 => k_is)
        (case kz605 => k_is)
        (case kz606 => decide)

      have i_NoWorth_TooMany : Kw.IsxO (L2.KOf KX) mg "TooMany" "NoWorth" (Kz.isx "TooMany" "NoWorth") := by
        unfold L2.KOf
        refine' Kw.isxo_mk (b' := false) KX G ?kz620 ?kz621 ?kz622 ?kz623 ?kz624 ?kz625 ?kz626
        (case kz620 => k_is)
        (case kz621 => k_is)
        (case kz622 => exact (show Kz.isx "TooMany" "NoWorth" = false by decide +kernel))
        (case kz623 => k_is)
        (case kz624 => k_is)
        (case kz625 => k_is)
        (case kz626 => decide)

      have i_NoWorth : ∀ y ∈ Kz.excs, Kw.IsxO (L2.KOf KX) mg y "NoWorth" (Kz.isx y "NoWorth") := (List.forall_mem_cons.mpr ⟨i_NoWorth_NoKind, (List.forall_mem_cons.mpr ⟨i_NoWorth_NoSizes, (List.forall_mem_cons.mpr ⟨i_NoWorth_NoTerm, (List.forall_mem_cons.mpr ⟨i_NoWorth_NoWorth, (List.forall_mem_cons.mpr ⟨i_NoWorth_TooMany, (by simp)⟩)⟩)⟩)⟩)⟩)
      have i_TooMany_NoKind : Kw.IsxO (L2.KOf KX) mg "NoKind" "TooMany" (Kz.isx "NoKind" "TooMany") := by
        unfold L2.KOf
        refine' Kw.isxo_mk (b' := false) KX G ?kz640 ?kz641 ?kz642 ?kz643 ?kz644 ?kz645 ?kz646
        (case kz640 => k_is)
        (case kz641 => k_is)
        (case kz642 => exact (show Kz.isx "NoKind" "TooMany" = false by decide +kernel))
        (case kz643 => k_is)
        (case kz644 => k_is)
        (case kz645 => k_is)
        (case kz646 => decide)

      have i_TooMany_NoSizes : Kw.IsxO (L2.KOf KX) mg "NoSizes" "TooMany" (Kz.isx "NoSizes" "TooMany") := by
        unfold L2.KOf
        refine' Kw.isxo_mk (b' := false) KX G ?kz660 ?kz661 ?kz662 ?kz663 ?kz664 ?kz665 ?kz666
        (case kz660 => k_is)
        (case kz661 => k_is)
        (case kz662 => exact (show Kz.isx "NoSizes" "TooMany" = false by decide +kernel))
        (case kz663 => k_is)
        (case kz664 => k_is)
        (case kz665 => k_is)
        (case kz666 => decide)

      have i_TooMany_NoTerm : Kw.IsxO (L2.KOf KX) mg "NoTerm" "TooMany" (Kz.isx "NoTerm" "TooMany") := by
        unfold L2.KOf
        refine' Kw.isxo_mk (b' := false) KX G ?kz680 ?kz681 ?kz682 ?kz683 ?kz684 ?kz685 ?kz686
        (case kz680 => k_is)
        (case kz681 => k_is)
        (case kz682 => exact (show Kz.isx "NoTerm" "TooMany" = false by decide +kernel))
        (case kz683 => k_is)
        (case kz684 => k_is)
        (case kz685 => k_is)
        (case kz686 => decide)

      have i_TooMany_NoWorth : Kw.IsxO (L2.KOf KX) mg "NoWorth" "TooMany" (Kz.isx "NoWorth" "TooMany") := by
        unfold L2.KOf
        refine' Kw.isxo_mk (b' := false) KX G ?kz700 ?kz701 ?kz702 ?kz703 ?kz704 ?kz705 ?kz706
        (case kz700 => k_is)
        (case kz701 => k_is)
        (case kz702 => exact (show Kz.isx "NoWorth" "TooMany" = false by decide +kernel))
        (case kz703 => k_is)
        (case kz704 => k_is)
        (case kz705 => k_is)
        (case kz706 => decide)

      have i_TooMany_TooMany : Kw.IsxO (L2.KOf KX) mg "TooMany" "TooMany" (Kz.isx "TooMany" "TooMany") := by
        unfold L2.KOf
        refine' Kw.isxo_mk (b' := true) KX G ?kz720 ?kz721 ?kz722 ?kz723 ?kz724 ?kz725 ?kz726
        (case kz720 => k_is)
        (case kz721 => k_is)
        (case kz722 => exact (show Kz.isx "TooMany" "TooMany" = true by decide +kernel))
        (case kz723 => k_is)
        (case kz724 => k_is)
        (case kz725 => k_is)
        (case kz726 => decide)

      have i_TooMany : ∀ y ∈ Kz.excs, Kw.IsxO (L2.KOf KX) mg y "TooMany" (Kz.isx y "TooMany") := (List.forall_mem_cons.mpr ⟨i_TooMany_NoKind, (List.forall_mem_cons.mpr ⟨i_TooMany_NoSizes, (List.forall_mem_cons.mpr ⟨i_TooMany_NoTerm, (List.forall_mem_cons.mpr ⟨i_TooMany_NoWorth, (List.forall_mem_cons.mpr ⟨i_TooMany_TooMany, (by simp)⟩)⟩)⟩)⟩)⟩)
      have T : Kz.Txt (L2.KOf KX) w.params mg := ⟨t_Reckoner___init__, t_Reckoner_all_of, t_Reckoner_held, t_Reckoner_told, t_Reckoner_worked, t_Told___init__, t_Told_handed, t_Made___init__, t_Made_handed, t_is_from, t_inner_of, t_is_kind, t_sure_kind, t_sure_sizes, t_power_up_to, t_number_up_to, t_sure_taken, t_lists_of, t_all_worths, t_worths, t_is_plain_worth, t_is_worth, t_is_shape, t_kind_of_given, t_kind_of_two, t_kind_in, t_sure_kind_in, t_done, t__law_well, t__law_draw, t__law_word, t__law_one, t__law_function, t__law_great, m_all, m_bool, m_enumerate, m_int, m_isinstance, m_len, m_list, m_min, m_range, m_str, m_tuple, c_BASES, c_LETTERS, c_MARKS, c_MOST_SIZE, c_MOST_WORTHS, c_PARTS, k_Made, k_Reckoner, k_Told, g_body, g_kind, g_lists, g_reckoner, g_sizes, g_spots, g_things, g_worth, x_NoKind, x_NoSizes, x_NoTerm, x_NoWorth, x_TooMany, xk, c_SwapError, i_NoKind, i_NoSizes, i_NoTerm, i_NoWorth, i_TooMany⟩
      have tsys : (L2.KOf KX).lookup sysModules = none := by
        first | rfl | (unfold L2.KOf; rfl) | (unfold L2.KOf; decide +kernel)
      refine' Kw.law_mkT (st := Kz.s_law) (cs := []) (k := 230) KX G hmg ?t ?a ?l ?c ?k (fun _ _ _ _ _ _ us hl => match us, hl with | [_], _ => rfl) Kz.sc_law (fun base Kb Gb Tb => Kz.ok_law T rfl (Kz.all_ok T rfl 230)) (fun ns h hb => Kz.law_true ns h)
      (case t => exact Kw.TopOk.none tsys)
      (case a => k_is); (case l => k_is); (case c => k_is); (case k => k_is)
