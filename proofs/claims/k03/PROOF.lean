import PyProof.Rows.All
import PySem.Challenge.RW_kindswap_k03_texts_of_no_kind
import HandS.Head0
import HandS.Head1
import HandS.Head2
import Wide.All
import OpenK.AllK
import Wide.FinOn
import HandS.ForMost
import HandS.ForExc
import HandS.Flow
import HandS.IsInst
import HandS.Wide
import HandS.Lambda
import KE.KDictKeyed
import HandS.Style
import HandS.TupAny
import HandS.Deep
import HandS.Zip
import HandS.StrMore
import HandS.ExcOwn
import HandS.More
import HandS.EndBits
import HandS.ExcIs
import HandS.TryMany
import PyProof.ReprRoads
import HandS.Conv
import KE.SortData
import HandS.SortKw
import HandS.ExcValue
import KE.SortKeyHeap
import HandS.NoneIn
import KE.DataCmp
import HandS.Strs
import PyProof.SetRoads
import PyProof.Rows.SetFrom
import KE.DataFind
import HandS.Dict
import KE.KTryMore
import HandS.ExcInit
import HandS.ExcField
import HandS.ClsMeth
import HandS.Exc
import HandS.DictComp
import PyProof.DictCompW
import PyProof.DictStraight
set_option Elab.async false
set_option linter.all false
set_option maxRecDepth 100000
set_option maxHeartbeats 4000000
open PySem PySem.W PyProof.Rows
namespace Kz.Hd
open PySem PySem.W PySem.Calls PyProof.Rows
def nm0 : List PySem.Str := ["SwapError", "NoText", "NoKind", "NoForm", "LETTERS", "UNIT", "SIGNS", "MARKS", "is_from", "inner_of", "is_kind", "sure_kind", "plain_text", "kind_text", "closed", "read_kind", "_law_cell_at", "_law_well", "_law_draw", "_law_one", "_law_kind", "_law_kind_in", "_law_spoilt", "_law_read"]
def nm1 : List PySem.Str := ["_law_right"]
def nm : List PySem.Str := nm0 ++ nm1
abbrev R : OpenRow := OpenLaw.row PySem.Challenge.rw_kindswap_k03_texts_of_no_kind
abbrev qv : Program := view R.prog [28]
/-- the run's equation at a world -/
def RunK (p q : Program) (loose : List PySem.Str) (Xt : Shared → Bool) (K : Params → PySem.W.Frag) (as ts : List Addr) (M : Nat) (w : World) : Prop :=
  ∀ os : OsState, (HandSHeadRun.endF (HandSHeadRun.stepQ (HandSHeadRun.denQ HandSHeadRun.tabQ) p w) M p w os).map (fun s => (HandSHeadRun.looksF p (boot_heap w.params) s.abs, HandSHeadRun.seenQ q loose (importedModules p.main.body) Xt s.abs, (as.map (HandSHeadRun.getT s), ts.map (HandSHeadRun.getT s)))) = some (true, openGood q loose, ((K w.params).map fun x => some x.2, ts.map fun _ => some (tabObj #[])))
/-- LeftO of that run, for kmHook; the run is shown for each answer of special-get-raises -/
theorem left_km {p q : Program} {loose : List PySem.Str} {Xt : Shared → Bool} {K : Params → PySem.W.Frag} {as ts : List Addr} {ek : ∀ P, as = (K P).map (·.1)} {N M : Nat}
    (e : opening p = plainProg p.main.scope.names) (hN : Nat.ble 600 N = true) (f : ∀ s, fenceModules? p s = some s) (le : Nat.ble M N = true)
    (hf : ∀ w : World, RunK p q loose Xt K as ts M (w.withFollow "special-get-raises" false)) (ht : ∀ w : World, RunK p q loose Xt K as ts M (w.withFollow "special-get-raises" true)) :
    LeftO p q loose Xt (Hook.obs (kmHook K as ek ts)) (Hook.val (kmHook K as ek ts)) N true :=
  HandSHeadRun.left_one (M := M) e hN f le fun w os => by
    have z := byRow2 "special-get-raises" (P := fun w => RunK p q loose Xt K as ts M w) hf ht w os
    have eo : (fun s : SharedT => (HandSHeadRun.looksF p (boot_heap w.params) s.abs, HandSHeadRun.seenQ q loose (importedModules p.main.body) Xt s.abs, (as.map (HandSHeadRun.getT s), ts.map (HandSHeadRun.getT s)))) = fun s => (HandSHeadRun.looksF p (boot_heap w.params) s.abs, HandSHeadRun.seenQ q loose (importedModules p.main.body) Xt s.abs, Hook.obs (kmHook K as ek ts) s.abs) := by
      funext s
      have q1 : as.map (HandSHeadRun.getT s) = as.map s.abs.heap.get? := List.map_congr_left fun a _ => HandSHeadRun.getT_eq s a
      have q2 : ts.map (HandSHeadRun.getT s) = ts.map s.abs.heap.get? := List.map_congr_left fun a _ => HandSHeadRun.getT_eq s a
      rw [q1, q2]
      rfl
    rw [eo] at z
    simp only [HandSHeadRun.endQ_eq, HandSHeadRun.seenQ_eq]
    exact z
/-- the same for kHook -/
theorem left_k {p q : Program} {loose : List PySem.Str} {Xt : Shared → Bool} {K : Params → PySem.W.Frag} {as : List Addr} {ek : ∀ P, as = (K P).map (·.1)} {N M : Nat}
    (e : opening p = plainProg p.main.scope.names) (hN : Nat.ble 600 N = true) (f : ∀ s, fenceModules? p s = some s) (le : Nat.ble M N = true)
    (hf : ∀ w : World, RunK p q loose Xt K as [] M (w.withFollow "special-get-raises" false)) (ht : ∀ w : World, RunK p q loose Xt K as [] M (w.withFollow "special-get-raises" true)) :
    LeftO p q loose Xt (Hook.obs (kHook K as ek)) (Hook.val (kHook K as ek)) N true := fun w => by
  have z := left_km (ek := ek) (ts := []) e hN f le hf ht w
  cases hx : openEnds treeTable p w N with
  | none => rw [hx] at z; cases z
  | some s =>
    rw [hx] at z
    simp only [Option.map_some, Option.some.injEq, Prod.mk.injEq] at z ⊢
    exact ⟨z.1, (Prod.mk.inj z.2).1⟩
end Kz.Hd
local macro_rules | `(tactic| o_head $t:term) => do
  let hl := Lean.mkIdent `hl
  let (hw, hc) := (Lean.mkIdent `hw, Lean.mkIdent `hc)
  `(tactic| (refine PySem.W.holds_open (r := Kz.Hd.R) (q := Kz.Hd.qv) (loose := Kz.Hd.nm) (Xt := fun s => xlAt Kz.Hd.qv [] s && recOk (RowW.records (OpenRow.toRowW Kz.Hd.R)) s) (XP := XL Kz.Hd.qv []) (Yf := Hook.obs $t) (Ya := Hook.val $t) (YP := Hook.says $t) (N := 9600) ?hlx (Hook.of $t) (Hook.keeps $t) (fun s e => xl_of s (Bool.and_eq_true_iff.mp e).1) XL.keeps (by rfl) (by rfl) (by rfl) (fun s e => recFacts_of (Bool.and_eq_true_iff.mp e).2) (by rfl) (by first | assumption | decide +kernel) (by decide +kernel) ⟨rfl, rfl, rfl, rfl, rfl, by decide +kernel⟩ ?$hw ?$hc; (case hlx => exact $hl _)))
set_option maxRecDepth 100000 in
set_option maxHeartbeats 0 in
open PySem PySem.W PySem.Calls PyProof.Rows in
theorem Kz.Hd.t1 (hl : ∀ H : Hook, LeftO Kz.Hd.R.prog Kz.Hd.qv Kz.Hd.nm (fun s => xlAt Kz.Hd.qv [] s && recOk (RowW.records (OpenRow.toRowW Kz.Hd.R)) s) (Hook.obs H) (Hook.val H) 9600 true) (hc : ∀ (d : DefRec) (kwd : List (PySem.Str × PySem.Expr)) (YP : World → Heap → Prop), WalkO Kz.Hd.qv Kz.Hd.nm (XL Kz.Hd.qv []) YP (OpenRow.toRowW Kz.Hd.R) d kwd fun f vs => PySem.call f vs) : PySem.Challenge.rw_kindswap_k03_texts_of_no_kind.Holds := by
  w_on; o_law; k_head; (case hw => w_witness2)
  exact hc _ _ _
namespace Kz.Hd
open PySem PySem.W PySem.Calls PyProof.Rows
set_option maxHeartbeats 0 in
theorem runF (w : World) : RunK R.prog qv nm (fun s => xlAt qv [] s && recOk (RowW.records (OpenRow.toRowW R)) s) t1.heap_39 ((t1.heap_39 w.params).map (·.1)) [] 9000 (w.withFollow "special-get-raises" false) := by
  intro os; kernel_rfl
set_option maxHeartbeats 0 in
theorem runT (w : World) : RunK R.prog qv nm (fun s => xlAt qv [] s && recOk (RowW.records (OpenRow.toRowW R)) s) t1.heap_39 ((t1.heap_39 w.params).map (·.1)) [] 9000 (w.withFollow "special-get-raises" true) := by
  intro os; kernel_rfl
end Kz.Hd
namespace Kw
open PySem PySem.Spec PyProof.Rows L2
/-- a value as a tree; a list that is changed is a cell of the store -/
inductive D where
  | non | bl (b : Bool) | int (i : Int) | str (x : Str)
  | tup (ds : List D) | lst (ds : List D) | dic (ks : List Key) (ds : List D)
  | ins (c : Str) (fs : List Str) (ds : List D)
  | loc (n : Nat) | glo (x : Str) | fls (ds : List D) | exn (a : Addr)
  | exo (c : Str) (ns : List Str) (ds : List D)
  | lam (i : Nat) (q : Str) (ob : Addr → Value → Value → Obj)
inductive Cell where
  | lst (ds : List D) | frz (ds : List D) | dead
  | tab (x : Str) | sys
  | gst (ρ : List (Option D)) (σ : L2.St)
  | ob (c : Str) (fs : List Str) (ds : List D)
  | dct (ks : List NestedKey) (ds : List D)
abbrev Store := List Cell
/-- what is raised: the class's name, its own fields -/
structure Ex where
  cls : Str
  ns : List Str := []
  ds : List D := []
inductive RE (α : Type) where
  | ok (a : α) (S : Store) | ex (x : Ex) (S : Store) | no
def RE.bnd {α β : Type} (m : RE α) (f : α → Store → RE β) : RE β := match m with
  | .ok a S => f a S
  | .ex x S => .ex x S
  | .no => .no
abbrev FEnv := List (Option D)
abbrev FE := FEnv → Store → RE D
abbrev FT := FEnv → Store → RE Bool
abbrev FA := FEnv → Store → RE (List D)
/-- the addresses of the store's cells (none: dead); hd: objects that no value leads to -/
structure Wd where
  φ : List (Option Addr)
  hd : List Addr
/-- a is no cell, and not hidden -/
def Wd.Off (w : Wd) (a : Addr) : Prop := (¬ some a ∈ w.φ) ∧ ¬ a ∈ w.hd
/-- the world of the run (a text's hash is its word) -/
class Wo where
  ww : World
mutual
/-- the key that a tree is -/
def keyOf : D → Option NestedKey
  | .non => some .none
  | .int i => some (.num i)
  | .str x => some (.text x)
  | .tup ds => (keysOf ds).map .tup
  | _ => none
def keysOf : List D → Option (List NestedKey)
  | [] => some []
  | d :: ds => match keyOf d, keysOf ds with
    | some k, some r => some (k :: r)
    | _, _ => none
end
/-- a dict's entries: key, the key's value, what it leads to -/
abbrev DEnt := List (NestedKey × V × V)
def entV (ww : World) (x : NestedKey × Value × Value) : DictEntry := ⟨x.1.hash ww, x.2.1, x.2.2⟩
/-- the one object at a: a dict of these entries -/
def DctP (ww : World) (a : Addr) (es : DEnt) (h : Heap) : Prop := (a == sysModules) = false ∧ ∃ vs : List (NestedKey × Value × Value), Paired (fun (p : NestedKey × V × V) (q : NestedKey × Value × Value) => p.1 = q.1 ∧ RelV p.2.1 q.2.1 ∧ RelV p.2.2 q.2.2) es vs ∧
  ∃ o en ep, h.get? a = some o ∧ o.ExactDict ∧ o.data = .dict en ep ∧ en.toList = vs.map (entV ww)
def DctO (ww : World) (a : Addr) (es : DEnt) : HO := .ext (DctP ww a es)
section
variable (K : PySem.W.Frag) (mg : Str → Option Value)
/-- a list that is not changed any more, by the model's own word -/
def Fp (w : Wd) (H : Hp) (a : Addr) (xs : List V) : Prop :=
  (∃ o, H a = some (.frz o (.lst xs)) ∧ w.Off a) ∨
    ∃ (o : Obj) (its : Array Value) (n : Nat), K.lookup a = some o ∧ o.cls = .type "list" ∧ o.dict = none ∧ o.data = .seq its n ∧ its.size ≤ sizeLine ∧ Vals xs its.toList
/-- a tuple that stands -/
def Tp (w : Wd) (H : Hp) (a : Addr) (xs : List V) : Prop :=
  (H a = some (.tup xs) ∧ w.Off a) ∨
    ∃ (o : Obj) (its : Array Value) (n : Nat), K.lookup a = some o ∧ o.cls = .type "tuple" ∧ o.data = .seq its n ∧ its.size ≤ sizeLine ∧ Vals xs its.toList
/-- the one object at f -/
def LamO (f : Addr) (o : Obj) : HO := .ext fun h => h.get? f = some o
/-- an exception object that nobody raised: its class, its dict -/
def ExOd (cls : Value) (od : Option Addr) (a : Addr) : HO := .ext fun h => ∃ (oe : Obj) (vs : Array Value), h.get? a = some oe ∧ Zc cls od oe ∧ oe.data = .fields vs ∧ vs[1]? = some .none ∧ vs[2]? = some .none ∧ 4 < vs.size
mutual
/-- the tree d lies at v -/
def Rp (w : Wd) (H : Hp) : D → V → Prop
  | .non, v => v = .non
  | .bl b, v => v = .bl b
  | .int i, v => v = .int i
  | .str x, v => v = .str x
  | .tup ds, v => ∃ a xs, v = .ref a ∧ Tp K w H a xs ∧ RpL w H ds xs
  | .lst ds, v => ∃ a xs, v = .ref a ∧ H a = some (.lst xs) ∧ w.Off a ∧ RpL w H ds xs
  | .dic ks ds, v => ∃ a vs, v = .ref a ∧ H a = some (.dK (ks.zip vs)) ∧ w.Off a ∧ ks.length = vs.length ∧ RpL w H ds vs
  | .ins c fs ds, v => ∃ a C dx vs, v = .ref a ∧ mg c = some (.ref C) ∧ H a = some (.ins C dx (fs.zip vs)) ∧ w.Off a ∧ fs.length = vs.length ∧ RpL w H ds vs
  | .loc n, v => n < w.φ.length ∧ ∀ a, w.φ[n]? = some (some a) → v = .ref a
  | .glo x, v => ∃ a, v = .ref a ∧ mg x = some (.ref a)
  | .exn a, v => v = .ref a
  | .fls ds, v => ∃ a xs, v = .ref a ∧ Fp K w H a xs ∧ RpL w H ds xs
  | .lam _ q ob, v => ∃ f c' pm ctv, v = .ref f ∧ H f = some (LamO f (ob c' pm ctv)) ∧ w.Off f ∧ H c' = some (LamX.CodeO c' q) ∧ w.Off c'
  | .exo c ns ds, v => ∃ a C od vs, v = .ref a ∧ mg c = some (.ref C) ∧ H a = some (ExOd (.ref C) od a) ∧ w.Off a ∧ (od = none ↔ ns = []) ∧ (∀ d, od = some d → H d = some (.xd (ns.zip vs)) ∧ w.Off d) ∧ ns.length = vs.length ∧ RpL w H ds vs
def RpL (w : Wd) (H : Hp) : List D → List V → Prop
  | [], vs => vs = []
  | d :: ds, vs => ∃ v r, vs = v :: r ∧ Rp w H d v ∧ RpL w H ds r
end
/-- the world goes on -/
structure Ext (w : Wd) (H : Hp) (w' : Wd) (H' : Hp) : Prop where
  fr : ∀ a o, H a = some o → some a ∉ w.φ → H' a = some o
  ln : w.φ.length ≤ w'.φ.length
  ph : ∀ (n : Nat) a, w'.φ[n]? = some (some a) → n < w.φ.length → w.φ[n]? = some (some a)
  nw : ∀ a, some a ∈ w'.φ → some a ∈ w.φ ∨ H a = none
  hd : w'.hd = w.hd
/-- what is known of the modules' table: a dict -/
def SysQ (φ : Heap → Prop) : Prop := ∀ h, φ h → ∃ o es n, h.get? sysModules = some o ∧ o.data = .dict es n
/-- a table of code objects lies at P, all of the name q -/
def TabW (w : Wd) (H : Hp) (P : Addr) (q : Str) : Prop := ∃ ps : Array Value, H P = some (.tbl ps) ∧ TriplesOk ps.toList ∧ ∀ (pos : Pos) (cv : Value), codeAmong pos ps.toList = some cv → ∃ c, cv = .ref c ∧ H c = some (LamX.CodeO c q) ∧ w.Off c
/-- the name that the lambdas of the def x bear -/
def tabQ (x : Str) : Str := x ++ ".<locals>." ++ "<lambda>"
/-- the slots -/
structure EnvR (w : Wd) (H : Hp) (ρ : FEnv) (σ : L2.St) : Prop where
  len : ρ.length = σ.length
  at_ : ∀ (i : Nat) d, ρ[i]? = some (some d) → ∃ v, σ[i]? = some (some v) ∧ Rp K mg w H d v
def CellR [Wo] (w : Wd) (H : Hp) (c : Cell) (n : Nat) : Prop := match c with
  | .lst ds => ∃ a xs, w.φ[n]? = some (some a) ∧ H a = some (.lst xs) ∧ RpL K mg w H ds xs
  | .frz ds => ∃ a xs o, w.φ[n]? = some (some a) ∧ H a = some (.frz o (.lst xs)) ∧ RpL K mg w H ds xs
  | .dead => w.φ[n]? = some none
  | .tab x => ∃ c P, PySem.W.tabIn K x = some (c, P) ∧ w.φ[n]? = some (some P) ∧ TabW w H P (tabQ x)
  | .sys => w.φ[n]? = some none ∧ sysModules ∈ w.hd ∧ some sysModules ∉ w.φ ∧ (∃ φ, H sysModules = some (.ext φ) ∧ SysQ φ) ∧ K.lookup sysModules = none
  | .gst ρ σ => w.φ[n]? = some none ∧ EnvR K mg w H ρ σ
  | .ob c fs ds => ∃ a C dx vs, w.φ[n]? = some (some a) ∧ mg c = some (.ref C) ∧ H a = some (.ins C dx (fs.zip vs)) ∧ fs.length = vs.length ∧ RpL K mg w H ds vs
  | .dct ks ds => ∃ a es, w.φ[n]? = some (some a) ∧ H a = some (DctO Wo.ww a es) ∧ es.map (·.1) = ks ∧ ks.Nodup ∧ (∀ x ∈ es, x.1.depth ≤ 8 ∧ ∃ d, keyOf d = some x.1 ∧ Rp K mg w H d x.2.1) ∧ RpL K mg w H ds (es.map (·.2.2))
/-- the store lies in the heap -/
structure Sto [Wo] (w : Wd) (S : Store) (H : Hp) : Prop where
  len : w.φ.length = S.length
  nd : ∀ (m n : Nat) a, w.φ[m]? = some (some a) → w.φ[n]? = some (some a) → m = n
  ap : ∀ a, a ∈ w.hd → H a ≠ none ∧ some a ∉ w.φ
  cell : ∀ (n : Nat) c, S[n]? = some c → CellR K mg w H c n
/-- the exception -/
def ExR (w : Wd) (H : Hp) (x : Ex) (c : Value) (od : Option Addr) : Prop :=
  mg x.cls = some c ∧ ((x.ns = [] ∧ x.ds = [] ∧ od = none) ∨ ∃ d vs, x.ns ≠ [] ∧ od = some d ∧ H d = some (.xd (x.ns.zip vs)) ∧ w.Off d ∧ x.ns.length = vs.length ∧ RpL K mg w H x.ds vs)
/-- what a result gives -/
def End [Wo] {α β : Type} (R : Wd → Hp → α → β → Prop) (w : Wd) (H : Hp) (r : RE α) (Q : β → Hp → Prop) (E : Value → Option Addr → Hp → Prop) : Prop :=
  match r with
  | .ok a S' => ∀ w' H' b, Ext w H w' H' → Sto K mg w' S' H' → R w' H' a b → Q b H'
  | .ex x S' => ∀ w' H' c od, Ext w H w' H' → Sto K mg w' S' H' → ExR K mg w' H' x c od → E c od H'
  | .no => False
end
/-- readings by functions over trees -/
def tF [Wo] (X : Cx) (W : WX) (f : FE) : TE := fun σ H Q => ∃ w ρ S, Sto X.K X.mg w S H ∧ EnvR X.K X.mg w H ρ σ ∧ End X.K X.mg (fun w H => Rp X.K X.mg w H) w H (f ρ S) Q (fun c od H' => W c od σ H')
def tT [Wo] (X : Cx) (W : WX) (f : FT) : TT := fun σ H Q => ∃ w ρ S, Sto X.K X.mg w S H ∧ EnvR X.K X.mg w H ρ σ ∧ End X.K X.mg (fun _ _ (a b : Bool) => b = a) w H (f ρ S) Q (fun c od H' => W c od σ H')
def tA [Wo] (X : Cx) (W : WX) (f : FA) : TA := fun σ H Q => ∃ w ρ S, Sto X.K X.mg w S H ∧ EnvR X.K X.mg w H ρ σ ∧ End X.K X.mg (fun w H => RpL X.K X.mg w H) w H (f ρ S) Q (fun c od H' => W c od σ H')
section
variable {K : PySem.W.Frag} {mg : Str → Option Value} {w w' w'' : Wd} {H H' H'' : Hp} {S : Store}
theorem Ext.refl : Ext w H w H := ⟨fun _ _ h _ => h, Nat.le_refl _, fun _ _ h _ => h, fun _ h => .inl h, rfl⟩
theorem Ext.trans (a : Ext w H w' H') (b : Ext w' H' w'' H'') : Ext w H w'' H'' where
  fr := fun c o h n => b.fr c o (a.fr c o h n) fun z => by
    rcases a.nw c z with z | z
    · exact n z
    · rw [h] at z; cases z
  ln := Nat.le_trans a.ln b.ln
  ph := fun n c h l => a.ph n c (b.ph n c h (Nat.lt_of_lt_of_le l a.ln)) l
  nw := fun c h => by
    rcases b.nw c h with z | z
    · exact a.nw c z
    · by_cases q : some c ∈ w.φ
      · exact .inl q
      · cases e : H c with
        | none => exact .inr rfl
        | some o => rw [a.fr c o e q] at z; cases z
  hd := b.hd.trans a.hd
theorem Ext.out {a : Addr} {o : HO} (e : Ext w H w' H') (h : H a = some o) (n : w.Off a) : w'.Off a := by
  refine ⟨fun z => ?_, by rw [e.hd]; exact n.2⟩
  rcases e.nw _ z with z | z
  · exact n.1 z
  · rw [h] at z; cases z
theorem Tp.ext {a : Addr} {xs : List V} (e : Ext w H w' H') (h : Tp K w H a xs) : Tp K w' H' a xs := by
  rcases h with ⟨h, n⟩ | h
  · exact .inl ⟨e.fr _ _ h n.1, e.out h n⟩
  · exact .inr h
theorem Fp.ext {a : Addr} {xs : List V} (e : Ext w H w' H') (h : Fp K w H a xs) : Fp K w' H' a xs := by
  rcases h with ⟨o, h, n⟩ | h
  · exact .inl ⟨o, e.fr _ _ h n.1, e.out h n⟩
  · exact .inr h
mutual
theorem Rp.ext (e : Ext w H w' H') : ∀ (d : D) (v : V), Rp K mg w H d v → Rp K mg w' H' d v
  | .non, _, h => by unfold Rp at h ⊢; exact h
  | .bl _, _, h => by unfold Rp at h ⊢; exact h
  | .int _, _, h => by unfold Rp at h ⊢; exact h
  | .str _, _, h => by unfold Rp at h ⊢; exact h
  | .tup ds, v, h => by
    unfold Rp at h ⊢
    obtain ⟨a, xs, e1, t, r⟩ := h
    exact ⟨a, xs, e1, t.ext e, RpL.ext e ds xs r⟩
  | .lst ds, v, h => by
    unfold Rp at h ⊢
    obtain ⟨a, xs, e1, t, n, r⟩ := h
    exact ⟨a, xs, e1, e.fr _ _ t n.1, e.out t n, RpL.ext e ds xs r⟩
  | .dic ks ds, v, h => by
    unfold Rp at h ⊢
    obtain ⟨a, vs, e1, t, n, l, r⟩ := h
    exact ⟨a, vs, e1, e.fr _ _ t n.1, e.out t n, l, RpL.ext e ds vs r⟩
  | .ins c fs ds, v, h => by
    unfold Rp at h ⊢
    obtain ⟨a, C, dx, vs, e1, m, t, n, l, r⟩ := h
    exact ⟨a, C, dx, vs, e1, m, e.fr _ _ t n.1, e.out t n, l, RpL.ext e ds vs r⟩
  | .loc n, v, h => by
    unfold Rp at h ⊢
    exact ⟨Nat.lt_of_lt_of_le h.1 e.ln, fun a q => h.2 a (e.ph n a q h.1)⟩
  | .glo _, _, h => by unfold Rp at h ⊢; exact h
  | .exn _, _, h => by unfold Rp at h ⊢; exact h
  | .fls ds, v, h => by
    unfold Rp at h ⊢
    obtain ⟨a, xs, e1, t, r⟩ := h
    exact ⟨a, xs, e1, t.ext e, RpL.ext e ds xs r⟩
  | .lam i q ob, v, h => by
    unfold Rp at h ⊢
    obtain ⟨f, c', pm, ctv, e1, t, n, t2, n2⟩ := h
    exact ⟨f, c', pm, ctv, e1, e.fr _ _ t n.1, e.out t n, e.fr _ _ t2 n2.1, e.out t2 n2⟩
  | .exo c ns ds, v, h => by
    unfold Rp at h ⊢
    obtain ⟨a, C, od, vs, e1, m, t, n, z, q, l, r⟩ := h
    exact ⟨a, C, od, vs, e1, m, e.fr _ _ t n.1, e.out t n, z, fun d hd => ⟨e.fr _ _ (q d hd).1 (q d hd).2.1, e.out (q d hd).1 (q d hd).2⟩, l, RpL.ext e ds vs r⟩
theorem RpL.ext (e : Ext w H w' H') : ∀ (ds : List D) (vs : List V), RpL K mg w H ds vs → RpL K mg w' H' ds vs
  | [], _, h => by unfold RpL at h ⊢; exact h
  | d :: ds, vs, h => by
    unfold RpL at h ⊢
    obtain ⟨v, r, e1, h1, h2⟩ := h
    exact ⟨v, r, e1, Rp.ext e d v h1, RpL.ext e ds r h2⟩
end
theorem RpL.length : ∀ {ds : List D} {vs : List V}, RpL K mg w H ds vs → ds.length = vs.length
  | [], _, h => by unfold RpL at h; subst h; rfl
  | d :: ds, vs, h => by
    unfold RpL at h
    obtain ⟨v, r, e1, _, h2⟩ := h
    rw [e1, List.length_cons, List.length_cons, RpL.length h2]
theorem RpL.append : ∀ {ds es : List D} {vs us : List V}, RpL K mg w H ds vs → RpL K mg w H es us → RpL K mg w H (ds ++ es) (vs ++ us)
  | [], _, _, _, h, k => by unfold RpL at h; rw [h]; exact k
  | d :: ds, es, vs, us, h, k => by
    unfold RpL at h
    obtain ⟨v, r, e1, h1, h2⟩ := h
    rw [List.cons_append]; unfold RpL
    exact ⟨v, r ++ us, by rw [e1, List.cons_append], h1, RpL.append h2 k⟩
theorem RpL.get : ∀ {ds : List D} {vs : List V} {i : Nat} {d : D}, RpL K mg w H ds vs → ds[i]? = some d → ∃ v, vs[i]? = some v ∧ Rp K mg w H d v
  | [], _, _, _, _, e => by simp at e
  | d :: ds, vs, 0, _, h, e => by
    unfold RpL at h
    obtain ⟨v, r, e1, h1, _⟩ := h
    simp at e
    exact ⟨v, by rw [e1]; rfl, e ▸ h1⟩
  | d :: ds, vs, i + 1, _, h, e => by
    unfold RpL at h
    obtain ⟨v, r, e1, _, h2⟩ := h
    obtain ⟨u, h3, h4⟩ := RpL.get (i := i) h2 (by simpa using e)
    exact ⟨u, by rw [e1]; simpa using h3, h4⟩
theorem RpL.drop : ∀ {ds : List D} {vs : List V} (n : Nat), RpL K mg w H ds vs → RpL K mg w H (ds.drop n) (vs.drop n)
  | _, _, 0, h => h
  | [], vs, n + 1, h => by unfold RpL at h; rw [h]; simp; unfold RpL; rfl
  | d :: ds, vs, n + 1, h => by
    unfold RpL at h
    obtain ⟨v, r, e1, _, h2⟩ := h
    rw [e1]; exact RpL.drop n h2
theorem RpL.take : ∀ {ds : List D} {vs : List V} (n : Nat), RpL K mg w H ds vs → RpL K mg w H (ds.take n) (vs.take n)
  | _, _, 0, h => by simp; unfold RpL; rfl
  | [], vs, n + 1, h => by unfold RpL at h; rw [h]; simp; unfold RpL; rfl
  | d :: ds, vs, n + 1, h => by
    unfold RpL at h
    obtain ⟨v, r, e1, h1, h2⟩ := h
    rw [e1, List.take_succ_cons, List.take_succ_cons]; unfold RpL
    exact ⟨v, _, rfl, h1, RpL.take n h2⟩
theorem RpL.set : ∀ {ds : List D} {vs : List V} {d : D} {v : V} (i : Nat), RpL K mg w H ds vs → Rp K mg w H d v → RpL K mg w H (ds.set i d) (vs.set i v)
  | [], vs, _, _, _, h, _ => by unfold RpL at h; rw [h]; simp; unfold RpL; rfl
  | d :: ds, vs, e, u, 0, h, k => by
    unfold RpL at h
    obtain ⟨v, r, e1, h1, h2⟩ := h
    rw [e1, List.set_cons_zero, List.set_cons_zero]; unfold RpL
    exact ⟨u, r, rfl, k, h2⟩
  | d :: ds, vs, e, u, i + 1, h, k => by
    unfold RpL at h
    obtain ⟨v, r, e1, h1, h2⟩ := h
    rw [e1, List.set_cons_succ, List.set_cons_succ]; unfold RpL
    exact ⟨v, _, rfl, h1, RpL.set i h2 k⟩
theorem RpL.one {d : D} {v : V} (h : Rp K mg w H d v) : RpL K mg w H [d] [v] := by unfold RpL; exact ⟨v, [], rfl, h, by unfold RpL; rfl⟩
theorem RpL.nil : RpL K mg w H [] [] := by unfold RpL; rfl
theorem RpL.cons {d : D} {v : V} {ds : List D} {vs : List V} (h : Rp K mg w H d v) (t : RpL K mg w H ds vs) : RpL K mg w H (d :: ds) (v :: vs) := by unfold RpL; exact ⟨v, vs, rfl, h, t⟩
theorem RpL.nil_iff {ds : List D} {vs : List V} (h : RpL K mg w H ds vs) : ds = [] ↔ vs = [] := by
  have e := h.length
  constructor
  · rintro rfl; exact List.eq_nil_of_length_eq_zero e.symm
  · rintro rfl; exact List.eq_nil_of_length_eq_zero e
theorem RpL.one_inv {d : D} {vs : List V} (h : RpL K mg w H [d] vs) : ∃ v, vs = [v] ∧ Rp K mg w H d v := by
  unfold RpL at h
  obtain ⟨v, r, e1, h1, h2⟩ := h
  unfold RpL at h2
  exact ⟨v, by rw [e1, h2], h1⟩
theorem EnvR.ext {ρ : FEnv} {σ : L2.St} (e : Ext w H w' H') (h : EnvR K mg w H ρ σ) : EnvR K mg w' H' ρ σ := ⟨h.len, fun i d q => by
  obtain ⟨v, h1, h2⟩ := h.at_ i d q
  exact ⟨v, h1, Rp.ext e _ _ h2⟩⟩
theorem Sto.tracked [Wo] (s : Sto K mg w S H) {a : Addr} (h : some a ∈ w.φ) : H a ≠ none := by
  obtain ⟨n, hn, e⟩ := List.mem_iff_getElem.mp h
  have h1 : w.φ[n]? = some (some a) := by rw [List.getElem?_eq_getElem hn, e]
  have hs : n < S.length := s.len ▸ hn
  have c := s.cell n S[n] (List.getElem?_eq_getElem hs)
  unfold CellR at c
  split at c
  · obtain ⟨b, xs, h2, h3, _⟩ := c
    rw [h1] at h2; cases h2; rw [h3]; exact fun z => nomatch z
  · obtain ⟨b, xs, o, h2, h3, _⟩ := c
    rw [h1] at h2; cases h2; rw [h3]; exact fun z => nomatch z
  · rw [h1] at c; cases c
  · obtain ⟨_, _, _, h2, ps, h3, _⟩ := c
    rw [h1] at h2; cases h2; rw [h3]; exact fun z => nomatch z
  · rw [h1] at c; cases c.1
  · rw [h1] at c; cases c.1
  · obtain ⟨b, C, dx, vs, h2, _, h3, _⟩ := c
    rw [h1] at h2; cases h2; rw [h3]; exact fun z => nomatch z
  · obtain ⟨b, es, h2, h3, _⟩ := c
    rw [h1] at h2; cases h2; rw [h3]; exact fun z => nomatch z
theorem Sto.new [Wo] (s : Sto K mg w S H) {p : Addr} (h : H p = none) : w.Off p := ⟨fun z => s.tracked z h, fun z => (s.ap p z).1 h⟩
theorem Ext.new {p : Addr} {o : HO} (h : H p = none) : Ext w H w (upd H p o) := ⟨fun a u e _ => by rw [upd_ne (ne_of_none e h)]; exact e, Nat.le_refl _, fun _ _ h _ => h, fun _ h => .inl h, rfl⟩
theorem CellR.ext [Wo] {c : Cell} {n : Nat} (e : Ext w H w' H') (hw : ∀ a, w.φ[n]? = some (some a) → w'.φ[n]? = some (some a) ∧ H' a = H a) (hd : w.φ[n]? = some none → w'.φ[n]? = some none) (h : CellR K mg w H c n) : CellR K mg w' H' c n := by
  unfold CellR at h ⊢
  split at h
  · obtain ⟨b, xs, h2, h3, h4⟩ := h
    exact ⟨b, xs, (hw b h2).1, by rw [(hw b h2).2]; exact h3, RpL.ext e _ _ h4⟩
  · obtain ⟨b, xs, o, h2, h3, h4⟩ := h
    exact ⟨b, xs, o, (hw b h2).1, by rw [(hw b h2).2]; exact h3, RpL.ext e _ _ h4⟩
  · exact hd h
  · obtain ⟨c0, P, ht, h2, ps, h3, h4, h5⟩ := h
    refine ⟨c0, P, ht, (hw _ h2).1, ps, by rw [(hw _ h2).2]; exact h3, h4, fun pos cv hc => ?_⟩
    obtain ⟨c, e1, e2, e3⟩ := h5 pos cv hc
    exact ⟨c, e1, e.fr _ _ e2 e3.1, e.out e2 e3⟩
  · obtain ⟨h1, h2, h3, ⟨φ, h4, h6⟩, h5⟩ := h
    refine ⟨hd h1, by rw [e.hd]; exact h2, fun z => ?_, ⟨φ, e.fr _ _ h4 h3, h6⟩, h5⟩
    rcases e.nw _ z with z | z
    · exact h3 z
    · rw [h4] at z; cases z
  · exact ⟨hd h.1, EnvR.ext e h.2⟩
  · obtain ⟨b, C, dx, vs, h2, h3, h4, h5, h6⟩ := h
    exact ⟨b, C, dx, vs, (hw b h2).1, h3, by rw [(hw b h2).2]; exact h4, h5, RpL.ext e _ _ h6⟩
  · obtain ⟨b, es, h2, h3, h4, h5, h6, h7⟩ := h
    exact ⟨b, es, (hw b h2).1, by rw [(hw b h2).2]; exact h3, h4, h5, fun x hx => ⟨(h6 x hx).1, let ⟨d, q1, q2⟩ := (h6 x hx).2; ⟨d, q1, Rp.ext e _ _ q2⟩⟩, RpL.ext e _ _ h7⟩
theorem upd_some {p a : Addr} {o : HO} (h : H a ≠ none) : upd H p o a ≠ none := by
  by_cases e : a = p
  · subst e; rw [upd_same]; exact fun z => nomatch z
  · rw [upd_ne e]; exact h
/-- a new object beside -/
theorem Sto.beside [Wo] {p : Addr} {o : HO} (s : Sto K mg w S H) (h : H p = none) : Sto K mg w S (upd H p o) := ⟨s.len, s.nd, fun a ha => ⟨upd_some (s.ap a ha).1, (s.ap a ha).2⟩, fun n c q => CellR.ext (Ext.new h) (fun a ha => ⟨ha, by
  have : a ≠ p := fun z => by subst z; exact (s.new h).1 (List.mem_of_getElem? ha)
  rw [upd_ne this]⟩) id (s.cell n c q)⟩
end
section
variable {K : PySem.W.Frag} {mg : Str → Option Value} {α β γ δ : Type} {R : Wd → Hp → α → β → Prop} {R' : Wd → Hp → γ → δ → Prop} {w w1 : Wd} {H H1 : Hp} {r : RE α} {E : Value → Option Addr → Hp → Prop}
theorem End.imp [Wo] {Q Q' : β → Hp → Prop} {E' : Value → Option Addr → Hp → Prop} (h : End K mg R w H r Q E) (hq : ∀ b H', Q b H' → Q' b H') (he : ∀ c od H', E c od H' → E' c od H') : End K mg R w H r Q' E' := by
  unfold End at h ⊢
  split
  · exact fun w' H' b e s k => hq _ _ (h w' H' b e s k)
  · exact fun w' H' b od e s k => he _ _ _ (h w' H' b od e s k)
  · exact h
theorem End.on [Wo] {Q : β → Hp → Prop} (x : Ext w H w1 H1) (h : End K mg R w H r Q E) : End K mg R w1 H1 r Q E := by
  unfold End at h ⊢
  split
  · exact fun w' H' b e s k => h w' H' b (x.trans e) s k
  · exact fun w' H' b od e s k => h w' H' b od (x.trans e) s k
  · exact h
/-- one after the other -/
theorem End.bind [Wo] {k : α → Store → RE γ} {Q : δ → Hp → Prop} (h : End K mg R' w H (r.bnd k) Q E) :
    End K mg R w H r (fun b H1 => ∃ w1 S1 a, Ext w H w1 H1 ∧ Sto K mg w1 S1 H1 ∧ R w1 H1 a b ∧ End K mg R' w1 H1 (k a S1) Q E) E := by
  cases r with
  | ok a S1 =>
    have h' : End K mg R' w H (k a S1) Q E := h
    exact fun w' H' b e s kk => ⟨w', S1, a, e, s, kk, h'.on e⟩
  | ex x S1 => exact h
  | no => exact h
theorem End.ret [Wo] {Q : β → Hp → Prop} {a : α} {b : β} {S : Store} (h : End K mg R w H (.ok a S) Q E) (s : Sto K mg w S H) (k : R w H a b) : Q b H := h w H b Ext.refl s k
end
section
variable {X : Cx} {W : WX}
theorem PE.wk {e : Expr} {t t' : TE} (h : PE X e t) (m : ∀ σ H Q, t' σ H Q → t σ H Q) : PE X e t' := ⟨fun pins s σ H Q I k => h.run pins s σ H Q I (m σ H Q k)⟩
theorem PT.wk {e : Expr} {t t' : TT} (h : PT X e t) (m : ∀ σ H Q, t' σ H Q → t σ H Q) : PT X e t' := ⟨fun pins s σ H Q I k => h.run pins s σ H Q I (m σ H Q k)⟩
theorem PW.wk {e : Expr} {t t' : TT} (h : PW X e t) (m : ∀ σ H Q, t' σ H Q → t σ H Q) : PW X e t' := ⟨fun wh pins s σ H Q I k => h.run wh pins s σ H Q I (m σ H Q k)⟩
theorem PA.wk {e : List Expr} {t t' : TA} (h : PA X e t) (m : ∀ σ H Q, t' σ H Q → t σ H Q) : PA X e t' := ⟨fun pos pins s σ H Q I k => h.run pos pins s σ H Q I (m σ H Q k)⟩
theorem PS.wk {e : Stmt} {t t' : TS} (h : PS X e t) (m : ∀ D σ H, t' D σ H → t D σ H) : PS X e t' := ⟨fun pins s σ H D I k => h.run pins s σ H D I (m D σ H k)⟩
theorem PSs.wk {e : List Stmt} {t t' : TS} (h : PSs X e t) (m : ∀ D σ H, t' D σ H → t D σ H) : PSs X e t' := ⟨fun pins s σ H D I k => h.run pins s σ H D I (m D σ H k)⟩
end
end Kw
namespace Kw
open PySem PySem.Spec PyProof.Rows L2
def cellOf (S : Store) (n : Nat) : Option (List D) := match S[n]? with
  | some (.lst ds) => some ds
  | some (.frz ds) => some ds
  | _ => none
def cellM (S : Store) (n : Nat) : Option (List D) := match S[n]? with
  | some (.lst ds) => some ds
  | _ => none
/-- a list that is read -/
def seqL (S : Store) : D → Option (List D)
  | .lst ds => some ds
  | .fls ds => some ds
  | .loc n => cellOf S n
  | _ => none
/-- a list that is no locked one -/
def seqM (S : Store) : D → Option (List D)
  | .lst ds => some ds
  | .loc n => cellM S n
  | _ => none
/-- a list or a tuple -/
def seqA (S : Store) : D → Option (List D)
  | .lst ds => some ds
  | .fls ds => some ds
  | .loc n => cellOf S n
  | .tup ds => some ds
  | _ => none
mutual
def py0 : D → Option PyData
  | .non => some .none
  | .bl b => some (.bool b)
  | .int i => some (.int i)
  | .str x => some (.str x)
  | .tup ds => (py0L ds).map .tuple
  | .lst ds => (py0L ds).map .list
  | .fls ds => (py0L ds).map .list
  | _ => none
def py0L : List D → Option (List PyData)
  | [] => some []
  | d :: ds => (py0 d).bind fun a => (py0L ds).map (a :: ·)
end
mutual
/-- a value as plain data -/
def pyS (S : Store) : D → Option PyData
  | .non => some .none
  | .bl b => some (.bool b)
  | .int i => some (.int i)
  | .str x => some (.str x)
  | .tup ds => (pySL S ds).map .tuple
  | .lst ds => (pySL S ds).map .list
  | .fls ds => (pySL S ds).map .list
  | .loc n => ((cellOf S n).bind py0L).map .list
  | _ => none
def pySL (S : Store) : List D → Option (List PyData)
  | [] => some []
  | d :: ds => (pyS S d).bind fun a => (pySL S ds).map (a :: ·)
end
section
variable {K : PySem.W.Frag} {mg : Str → Option Value} {w : Wd} {H : Hp} {S : Store}
theorem cellOf_at [Wo] (s : Sto K mg w S H) {n : Nat} {ds : List D} (h : cellOf S n = some ds) : ∃ a xs, w.φ[n]? = some (some a) ∧ Rd H a (.lst xs) ∧ RpL K mg w H ds xs := by
  unfold cellOf at h
  split at h
  · rename_i e he
    cases h
    obtain ⟨a, xs, h1, h2, h3⟩ := s.cell n _ he
    exact ⟨a, xs, h1, .inl h2, h3⟩
  · rename_i e he
    cases h
    obtain ⟨a, xs, o, h1, h2, h3⟩ := s.cell n _ he
    exact ⟨a, xs, h1, .inr ⟨o, h2⟩, h3⟩
  · cases h
theorem cellM_at [Wo] (s : Sto K mg w S H) {n : Nat} {ds : List D} (h : cellM S n = some ds) : ∃ a xs, w.φ[n]? = some (some a) ∧ H a = some (.lst xs) ∧ RpL K mg w H ds xs := by
  unfold cellM at h
  split at h
  · rename_i e he
    cases h
    obtain ⟨a, xs, h1, h2, h3⟩ := s.cell n _ he
    exact ⟨a, xs, h1, h2, h3⟩
  · cases h
theorem Fp.sq {a : Addr} {xs : List V} (h : Fp K w H a xs) : SqL K H a xs := by
  rcases h with ⟨o, h, _⟩ | h
  · exact .inl (.inr ⟨o, h⟩)
  · exact .inr h
theorem seqL_at [Wo] (s : Sto K mg w S H) {d : D} {v : V} {ds : List D} (r : Rp K mg w H d v) (h : seqL S d = some ds) : ∃ a xs, v = .ref a ∧ SqL K H a xs ∧ RpL K mg w H ds xs := by
  cases d <;> simp only [seqL] at h <;> try (cases h; done)
  · cases h
    unfold Rp at r
    obtain ⟨a, xs, e, t, _, q⟩ := r
    exact ⟨a, xs, e, .of t, q⟩
  · obtain ⟨a, xs, h1, h2, h3⟩ := cellOf_at s h
    unfold Rp at r
    exact ⟨a, xs, r.2 a h1, .inl h2, h3⟩
  · cases h
    unfold Rp at r
    obtain ⟨a, xs, e, t, q⟩ := r
    exact ⟨a, xs, e, t.sq, q⟩
theorem seqM_at [Wo] (s : Sto K mg w S H) {d : D} {v : V} {ds : List D} (r : Rp K mg w H d v) (h : seqM S d = some ds) : ∃ a xs, v = .ref a ∧ H a = some (.lst xs) ∧ RpL K mg w H ds xs := by
  cases d <;> simp only [seqM] at h <;> try (cases h; done)
  · cases h
    unfold Rp at r
    obtain ⟨a, xs, e, t, _, q⟩ := r
    exact ⟨a, xs, e, t, q⟩
  · obtain ⟨a, xs, h1, h2, h3⟩ := cellM_at s h
    unfold Rp at r
    exact ⟨a, xs, r.2 a h1, h2, h3⟩
theorem Tp.sq {a : Addr} {xs : List V} (h : Tp K w H a xs) : SqT K H a xs := by
  rcases h with ⟨h, _⟩ | h
  · exact .of h
  · exact .inr h
theorem tup_at {ds : List D} {v : V} (r : Rp K mg w H (.tup ds) v) : ∃ a xs, v = .ref a ∧ SqT K H a xs ∧ RpL K mg w H ds xs := by
  unfold Rp at r
  obtain ⟨a, xs, e, t, q⟩ := r
  exact ⟨a, xs, e, t.sq, q⟩
theorem seqA_at [Wo] (s : Sto K mg w S H) {d : D} {v : V} {ds : List D} (r : Rp K mg w H d v) (h : seqA S d = some ds) : ∃ a xs, v = .ref a ∧ (SqL K H a xs ∨ SqT K H a xs) ∧ RpL K mg w H ds xs := by
  cases d <;> simp only [seqA] at h <;> try (cases h; done)
  · cases h
    obtain ⟨a, xs, e, t, q⟩ := tup_at r
    exact ⟨a, xs, e, .inr t, q⟩
  · cases h
    unfold Rp at r
    obtain ⟨a, xs, e, t, _, q⟩ := r
    exact ⟨a, xs, e, .inl (.of t), q⟩
  · obtain ⟨a, xs, h1, h2, h3⟩ := cellOf_at s h
    unfold Rp at r
    exact ⟨a, xs, r.2 a h1, .inl (.inl h2), h3⟩
  · cases h
    unfold Rp at r
    obtain ⟨a, xs, e, t, q⟩ := r
    exact ⟨a, xs, e, .inl t.sq, q⟩
mutual
theorem py0_at : ∀ (d : D) (v : V) (p : PyData), Rp K mg w H d v → py0 d = some p → Dp K H v p
  | .non, v, p, r, h => by unfold Rp at r; simp only [py0] at h; cases h; subst r; exact .non
  | .bl _, v, p, r, h => by unfold Rp at r; simp only [py0] at h; cases h; subst r; exact .bl _
  | .int _, v, p, r, h => by unfold Rp at r; simp only [py0] at h; cases h; subst r; exact .int _
  | .str _, v, p, r, h => by unfold Rp at r; simp only [py0] at h; cases h; subst r; exact .str _
  | .tup ds, v, p, r, h => by
    obtain ⟨a, xs, e, t, q⟩ := tup_at r
    simp only [py0, Option.map_eq_some_iff] at h
    obtain ⟨ps, h1, h2⟩ := h
    subst e; subst h2
    exact .tup t (py0L_at ds xs ps q h1)
  | .lst ds, v, p, r, h => by
    unfold Rp at r
    obtain ⟨a, xs, e, t, _, q⟩ := r
    simp only [py0, Option.map_eq_some_iff] at h
    obtain ⟨ps, h1, h2⟩ := h
    subst e; subst h2
    exact .lst (.of t) (py0L_at ds xs ps q h1)
  | .dic _ _, v, p, r, h => by simp [py0] at h
  | .ins _ _ _, v, p, r, h => by simp [py0] at h
  | .loc _, v, p, r, h => by simp [py0] at h
  | .glo _, v, p, r, h => by simp [py0] at h
  | .exn _, v, p, r, h => by simp [py0] at h
  | .exo _ _ _, v, p, r, h => by simp [py0] at h
  | .lam _ _ _, v, p, r, h => by simp [py0] at h
  | .fls ds, v, p, r, h => by
    unfold Rp at r
    obtain ⟨a, xs, e, t, q⟩ := r
    simp only [py0, Option.map_eq_some_iff] at h
    obtain ⟨ps, h1, h2⟩ := h
    subst e; subst h2
    exact .lst t.sq (py0L_at ds xs ps q h1)
theorem py0L_at : ∀ (ds : List D) (vs : List V) (ps : List PyData), RpL K mg w H ds vs → py0L ds = some ps → DpAll K H vs ps
  | [], vs, ps, r, h => by unfold RpL at r; simp only [py0L] at h; cases h; subst r; exact .nil
  | d :: ds, vs, ps, r, h => by
    unfold RpL at r
    obtain ⟨v, vs', e, r1, r2⟩ := r
    simp only [py0L, Option.bind_eq_some_iff, Option.map_eq_some_iff] at h
    obtain ⟨a, h1, b, h2, h3⟩ := h
    subst e; subst h3
    exact .cons (py0_at d v a r1 h1) (py0L_at ds vs' b r2 h2)
end
mutual
theorem pyS_at [Wo] (s : Sto K mg w S H) : ∀ (d : D) (v : V) (p : PyData), Rp K mg w H d v → pyS S d = some p → Dp K H v p
  | .non, v, p, r, h => by unfold Rp at r; simp only [pyS] at h; cases h; subst r; exact .non
  | .bl _, v, p, r, h => by unfold Rp at r; simp only [pyS] at h; cases h; subst r; exact .bl _
  | .int _, v, p, r, h => by unfold Rp at r; simp only [pyS] at h; cases h; subst r; exact .int _
  | .str _, v, p, r, h => by unfold Rp at r; simp only [pyS] at h; cases h; subst r; exact .str _
  | .tup ds, v, p, r, h => by
    obtain ⟨a, xs, e, t, q⟩ := tup_at r
    simp only [pyS, Option.map_eq_some_iff] at h
    obtain ⟨ps, h1, h2⟩ := h
    subst e; subst h2
    exact .tup t (pySL_at s ds xs ps q h1)
  | .lst ds, v, p, r, h => by
    unfold Rp at r
    obtain ⟨a, xs, e, t, _, q⟩ := r
    simp only [pyS, Option.map_eq_some_iff] at h
    obtain ⟨ps, h1, h2⟩ := h
    subst e; subst h2
    exact .lst (.of t) (pySL_at s ds xs ps q h1)
  | .loc n, v, p, r, h => by
    simp only [pyS, Option.map_eq_some_iff, Option.bind_eq_some_iff] at h
    obtain ⟨ps, ⟨ds, h0, h1⟩, h2⟩ := h
    obtain ⟨a, xs, h3, h4, h5⟩ := cellOf_at s h0
    unfold Rp at r
    have e := r.2 a h3
    subst e; subst h2
    exact .lst (.inl h4) (py0L_at ds xs ps h5 h1)
  | .dic _ _, v, p, r, h => by simp [pyS] at h
  | .ins _ _ _, v, p, r, h => by simp [pyS] at h
  | .glo _, v, p, r, h => by simp [pyS] at h
  | .exn _, v, p, r, h => by simp [pyS] at h
  | .exo _ _ _, v, p, r, h => by simp [pyS] at h
  | .lam _ _ _, v, p, r, h => by simp [pyS] at h
  | .fls ds, v, p, r, h => by
    unfold Rp at r
    obtain ⟨a, xs, e, t, q⟩ := r
    simp only [pyS, Option.map_eq_some_iff] at h
    obtain ⟨ps, h1, h2⟩ := h
    subst e; subst h2
    exact .lst t.sq (pySL_at s ds xs ps q h1)
theorem pySL_at [Wo] (s : Sto K mg w S H) : ∀ (ds : List D) (vs : List V) (ps : List PyData), RpL K mg w H ds vs → pySL S ds = some ps → DpAll K H vs ps
  | [], vs, ps, r, h => by unfold RpL at r; simp only [pySL] at h; cases h; subst r; exact .nil
  | d :: ds, vs, ps, r, h => by
    unfold RpL at r
    obtain ⟨v, vs', e, r1, r2⟩ := r
    simp only [pySL, Option.bind_eq_some_iff, Option.map_eq_some_iff] at h
    obtain ⟨a, h1, b, h2, h3⟩ := h
    subst e; subst h3
    exact .cons (pyS_at s d v a r1 h1) (pySL_at s ds vs' b r2 h2)
end
end
def fVar (i : Nat) : FE := fun ρ S => match ρ[i]? with
  | some (some d) => .ok d S
  | _ => .no
def fC (d : D) : FE := fun _ S => .ok d S
def f1 (g : D → Store → RE D) (a : FE) : FE := fun ρ S => (a ρ S).bnd fun x S1 => g x S1
def f2 (g : D → D → Store → RE D) (a b : FE) : FE := fun ρ S => (a ρ S).bnd fun x S1 => (b ρ S1).bnd fun y S2 => g x y S2
def fNil : FA := fun _ S => .ok [] S
def fCons (a : FE) (r : FA) : FA := fun ρ S => (a ρ S).bnd fun x S1 => (r ρ S1).bnd fun xs S2 => .ok (x :: xs) S2
def fArg (g : List D → Store → RE D) (a : FA) : FE := fun ρ S => (a ρ S).bnd g
/-- what the operation's reading asks is given -/
def OpV [Wo] (K : PySem.W.Frag) (mg : Str → Option Value) (r : R2) (g : D → D → Store → RE D) : Prop :=
  ∀ (w : Wd) (S : Store) (H : Hp) (x y : V) (d e : D) (Q : VK) (E : Value → Option Addr → Hp → Prop), Sto K mg w S H → Rp K mg w H d x → Rp K mg w H e y → End K mg (fun w H => Rp K mg w H) w H (g d e S) Q E → r x y H Q
def CallV [Wo] (K : PySem.W.Frag) (mg : Str → Option Value) (r : List V → Hp → VK → Prop) (g : List D → Store → RE D) : Prop :=
  ∀ (w : Wd) (S : Store) (H : Hp) (xs : List V) (ds : List D) (Q : VK) (E : Value → Option Addr → Hp → Prop), Sto K mg w S H → RpL K mg w H ds xs → End K mg (fun w H => Rp K mg w H) w H (g ds S) Q E → r xs H Q
section
variable {X : Cx} {W : WX} {a b e : Expr} {es : List Expr} {fa fb : FE} {fs : FA} {pos : Pos}
theorem two [Wo] {r : R2} {g : D → D → Store → RE D} (hv : OpV X.K X.mg r g) {σ : L2.St} {H : Hp} {Q : VK} (h : tF X W (f2 g fa fb) σ H Q) : tOp r (tF X W fa) (tF X W fb) σ H Q := by
  obtain ⟨w, ρ, S, s, en, h⟩ := h
  refine ⟨w, ρ, S, s, en, (End.bind h).imp ?_ (fun _ _ _ z => z)⟩
  rintro x H1 ⟨w1, S1, d, e1, s1, r1, h1⟩
  refine ⟨w1, ρ, S1, s1, en.ext e1, (End.bind h1).imp ?_ (fun _ _ _ z => z)⟩
  rintro y H2 ⟨w2, S2, d2, e2, s2, r2, h2⟩
  exact hv w2 S2 H2 x y d d2 Q _ s2 (Rp.ext e2 _ _ r1) r2 h2
theorem q_var [Wo] (i : Nat) {x : Str} (hN : X.N[i]? = some x := by rfl) (hv : Vis X.env.scope x := by first | exact Or.inl rfl | exact Or.inr (Or.inl rfl) | exact Or.inr (Or.inr rfl)) (hd : (x == ("__debug__" : Str)) = false := by decide)
    (hcd : (x == ("__classdict__" : Str)) = false := by decide) : PE X (.Name x pos) (tF X W (fVar i)) :=
  PE.wk (pe_var hN hv hd hcd) fun σ H Q ⟨w, ρ, S, s, en, h⟩ => by
    unfold fVar at h
    split at h
    · rename_i d hd
      obtain ⟨v, h1, h2⟩ := en.at_ i d hd
      exact ⟨v, h1, h.ret s h2⟩
    · exact h.elim
theorem q_const [Wo] {d : D} {v : V} (hr : ∀ w H, Rp X.K X.mg w H d v) (h : PE X e (tC v)) : PE X e (tF X W (fC d)) := PE.wk h fun σ H Q ⟨w, ρ, S, s, en, h⟩ => h.ret s (hr w H)
theorem q_int [Wo] {i j} : PE X (.Constant (.int i) j pos) (tF X W (fC (.int i))) := q_const (fun w H => by unfold Rp; rfl) pe_int
theorem q_bl [Wo] {i j} : PE X (.Constant (.bool i) j pos) (tF X W (fC (.bl i))) := q_const (fun w H => by unfold Rp; rfl) pe_bl
theorem q_non [Wo] {j} : PE X (.Constant .none j pos) (tF X W (fC .non)) := q_const (fun w H => by unfold Rp; rfl) pe_non
theorem q_str [Wo] {i j} : PE X (.Constant (.str i) j pos) (tF X W (fC (.str i))) := q_const (fun w H => by unfold Rp; rfl) pe_str
theorem q_op [Wo] {op : Operator} {r : R2} {g : D → D → Store → RE D} (ho : OpR X (binaryOp op) r) (hv : OpV X.K X.mg r g) (ha : PE X a (tF X W fa)) (hb : PE X b (tF X W fb)) : PE X (.BinOp a op b pos) (tF X W (f2 g fa fb)) :=
  PE.wk (pe_op ho ha hb) fun σ H Q h => two hv h
theorem q_cmp [Wo] {op : CmpOp} {r : R2} {g : D → D → Store → RE D} (ho : OpR X (compareOp op) r) (hv : OpV X.K X.mg r g) (ha : PE X a (tF X W fa)) (hb : PE X b (tF X W fb)) (hm : behindInMarks op b = false) : PE X (.Compare a [op] [b] pos) (tF X W (f2 g fa fb)) :=
  PE.wk (pe_cmpR ho ha hb hm) fun σ H Q h => two hv h
/-- a value that is a truth, as a test -/
def fB (f : FE) : FT := fun ρ S => (f ρ S).bnd fun x S1 => match x with
  | .bl k => .ok k S1
  | _ => .no
theorem tF_of_fB [Wo] {f : FE} {σ : L2.St} {H : Hp} {Q : Bool → Hp → Prop} (h : tT X W (fB f) σ H Q) : tF X W f σ H (fun v H' => ∃ k, v = .bl k ∧ Q k H') := by
  obtain ⟨w, ρ, S, s, en, h⟩ := h
  refine ⟨w, ρ, S, s, en, (End.bind (R := fun w H => Rp X.K X.mg w H) h).imp ?_ (fun _ _ _ z => z)⟩
  rintro x H1 ⟨w1, S1, d, e1, s1, r1, h1⟩
  cases d <;> try exact h1.elim
  unfold Rp at r1
  exact ⟨_, r1, h1.ret s1 rfl⟩
theorem qt_cmp [Wo] {op : CmpOp} {r : R2} {g : D → D → Store → RE D} (ho : OpR X (compareOp op) r) (hv : OpV X.K X.mg r g) (ha : PE X a (tF X W fa)) (hb : PE X b (tF X W fb)) (hm : behindInMarks op b = false) : PT X (.Compare a [op] [b] pos) (tT X W (fB (f2 g fa fb))) :=
  PT.wk (pt_cmpR ho ha hb hm) fun σ H Q h => two hv (tF_of_fB h)
/-- a op1 b op2 c -/
def fChain (g g' : D → D → Store → RE D) (a b c : FE) : FE := fun ρ S => (a ρ S).bnd fun x S1 => (b ρ S1).bnd fun y S2 => (g x y S2).bnd fun k S3 => match k with
  | .bl true => (c ρ S3).bnd fun z S4 => g' y z S4
  | .bl false => .ok (.bl false) S3
  | _ => .no
theorem chain [Wo] {r r' : R2} {g g' : D → D → Store → RE D} (hv : OpV X.K X.mg r g) (hv' : OpV X.K X.mg r' g') {fc : FE} {σ : L2.St} {H : Hp} {Q : VK} (h : tF X W (fChain g g' fa fb fc) σ H Q) : tChain r r' (tF X W fa) (tF X W fb) (tF X W fc) σ H Q := by
  obtain ⟨w, ρ, S, s, en, h⟩ := h
  refine ⟨w, ρ, S, s, en, (End.bind h).imp ?_ (fun _ _ _ z => z)⟩
  rintro x H1 ⟨w1, S1, d, e1, s1, r1, h1⟩
  refine ⟨w1, ρ, S1, s1, en.ext e1, (End.bind h1).imp ?_ (fun _ _ _ z => z)⟩
  rintro y H2 ⟨w2, S2, d2, e2, s2, r2, h2⟩
  refine hv w2 S2 H2 x y d d2 _ _ s2 (Rp.ext e2 _ _ r1) r2 ((End.bind h2).imp ?_ (fun _ _ _ z => z))
  rintro z H3 ⟨w3, S3, d3, e3, s3, r3, h3⟩
  cases d3 <;> try exact h3.elim
  rename_i k
  unfold Rp at r3
  refine ⟨k, r3, ?_⟩
  cases k with
  | false => rw [if_neg (by decide)]; exact h3.ret s3 (by unfold Rp; rfl)
  | true =>
    rw [if_pos rfl]
    refine ⟨w3, ρ, S3, s3, ((en.ext e1).ext e2).ext e3, (End.bind h3).imp ?_ (fun _ _ _ z => z)⟩
    rintro u H4 ⟨w4, S4, d4, e4, s4, r4, h4⟩
    exact hv' w4 S4 H4 y u d2 d4 _ _ s4 (Rp.ext e4 _ _ (Rp.ext e3 _ _ r2)) r4 h4
theorem q_chain [Wo] {c : Expr} {fc : FE} {op op' : CmpOp} {r r' : R2} {g g' : D → D → Store → RE D} (ho : OpR X (compareOp op) r) (hv : OpV X.K X.mg r g) (ho' : OpR X (compareOp op') r') (hv' : OpV X.K X.mg r' g') (ha : PE X a (tF X W fa)) (hb : PE X b (tF X W fb)) (hc : PE X c (tF X W fc))
    (hm : lastMarks [op, op'] [b, c] = false := by with_unfolding_all rfl) : PE X (.Compare a [op, op'] [b, c] pos) (tF X W (fChain g g' fa fb fc)) :=
  PE.wk (pe_chain ho ho' ha hb hc hm) fun σ H Q h => chain hv hv' h
def fAnd (a b : FT) : FT := fun ρ S => (a ρ S).bnd fun k S1 => match k with
  | true => b ρ S1
  | false => .ok false S1
def fOr (a b : FT) : FT := fun ρ S => (a ρ S).bnd fun k S1 => match k with
  | true => .ok true S1
  | false => b ρ S1
def fNot (a : FT) : FT := fun ρ S => (a ρ S).bnd fun k S1 => .ok (!k) S1
def fIf (c : FT) (a b : FE) : FE := fun ρ S => (c ρ S).bnd fun k S1 => match k with
  | true => a ρ S1
  | false => b ρ S1
variable {ta tb : FT} {rest : List Expr}
theorem tT_bind [Wo] {β : Type} {R' : Wd → Hp → β → β → Prop} {f : FT} {σ : L2.St} {H : Hp} {t : Bool → Hp → Prop} {w : Wd} {ρ : FEnv} {S : Store} {γ δ : Type} {RR : Wd → Hp → γ → δ → Prop} {k : Bool → Store → RE γ} {Q : δ → Hp → Prop}
    (s : Sto X.K X.mg w S H) (en : EnvR X.K X.mg w H ρ σ) (h : End X.K X.mg RR w H ((f ρ S).bnd k) Q (fun c od H' => W c od σ H'))
    (hk : ∀ w1 S1 H1 b, Sto X.K X.mg w1 S1 H1 → EnvR X.K X.mg w1 H1 ρ σ → End X.K X.mg RR w1 H1 (k b S1) Q (fun c od H' => W c od σ H') → t b H1) : tT X W f σ H t := by
  refine ⟨w, ρ, S, s, en, (End.bind h).imp ?_ (fun _ _ _ z => z)⟩
  rintro v H1 ⟨w1, S1, d, e1, s1, r1, h1⟩
  cases r1
  exact hk w1 S1 H1 _ s1 (en.ext e1) h1
theorem qw_one [Wo] {op : BoolOp} (ha : PT X a (tT X W ta)) : PW X (.BoolOp op [a] pos) (tT X W ta) := by
  cases op
  · exact pw_and1 ha
  · exact pw_or1 ha
theorem qw_and [Wo] (ha : PT X a (tT X W ta)) (hb : PW X (.BoolOp .And (b :: rest) pos) (tT X W tb)) : PW X (.BoolOp .And (a :: b :: rest) pos) (tT X W (fAnd ta tb)) :=
  PW.wk (pw_and ha hb) fun σ H Q ⟨w, ρ, S, s, en, h⟩ => tT_bind (R' := fun _ _ (a b : Nat) => True) s en h fun w1 S1 H1 k s1 en1 h1 => by
    cases k with
    | true => rw [if_pos rfl]; exact ⟨w1, ρ, S1, s1, en1, h1⟩
    | false => rw [if_neg (by decide)]; exact h1.ret s1 rfl
theorem qw_or [Wo] (ha : PT X a (tT X W ta)) (hb : PW X (.BoolOp .Or (b :: rest) pos) (tT X W tb)) : PW X (.BoolOp .Or (a :: b :: rest) pos) (tT X W (fOr ta tb)) :=
  PW.wk (pw_or ha hb) fun σ H Q ⟨w, ρ, S, s, en, h⟩ => tT_bind (R' := fun _ _ (a b : Nat) => True) s en h fun w1 S1 H1 k s1 en1 h1 => by
    cases k with
    | true => rw [if_pos rfl]; exact h1.ret s1 rfl
    | false => rw [if_neg (by decide)]; exact ⟨w1, ρ, S1, s1, en1, h1⟩
theorem qt_not [Wo] (ha : PT X a (tT X W ta)) : PT X (.UnaryOp .Not a pos) (tT X W (fNot ta)) :=
  PT.wk (pt_not ha) fun σ H Q ⟨w, ρ, S, s, en, h⟩ => tT_bind (R' := fun _ _ (a b : Nat) => True) s en h fun w1 S1 H1 k s1 en1 h1 => h1.ret s1 rfl
theorem q_if [Wo] {c : Expr} {tc : FT} (hc : PT X c (tT X W tc)) (ha : PE X a (tF X W fa)) (hb : PE X b (tF X W fb)) : PE X (.IfExp c a b pos) (tF X W (fIf tc fa fb)) :=
  PE.wk (pe_ifExp hc ha hb) fun σ H Q ⟨w, ρ, S, s, en, h⟩ => tT_bind (R' := fun _ _ (a b : Nat) => True) s en h fun w1 S1 H1 k s1 en1 h1 => by
    cases k with
    | true => rw [if_pos rfl]; exact ⟨w1, ρ, S1, s1, en1, h1⟩
    | false => rw [if_neg (by decide)]; exact ⟨w1, ρ, S1, s1, en1, h1⟩
/-- and, or, not as values: all but the last one truths -/
def fAndV (a b : FE) : FE := fun ρ S => (a ρ S).bnd fun k S1 => match k with
  | .bl true => b ρ S1
  | .bl false => .ok (.bl false) S1
  | _ => .no
def fOrV (a b : FE) : FE := fun ρ S => (a ρ S).bnd fun k S1 => match k with
  | .bl true => .ok (.bl true) S1
  | .bl false => b ρ S1
  | _ => .no
theorem q_one [Wo] {op : BoolOp} (ha : PE X a (tF X W fa)) : PE X (.BoolOp op [a] pos) (tF X W fa) := pe_one ha
theorem q_and [Wo] (ha : PE X a (tF X W fa)) (hb : PE X (.BoolOp .And (b :: rest) pos) (tF X W fb)) : PE X (.BoolOp .And (a :: b :: rest) pos) (tF X W (fAndV fa fb)) :=
  PE.wk (pe_and ha hb) fun σ H Q ⟨w, ρ, S, s, en, h⟩ => by
    refine ⟨w, ρ, S, s, en, (End.bind h).imp ?_ (fun _ _ _ z => z)⟩
    rintro x H1 ⟨w1, S1, d, e1, s1, r1, h1⟩
    cases d <;> try exact h1.elim
    rename_i k
    unfold Rp at r1
    refine ⟨k, r1, ?_⟩
    cases k with
    | true => rw [if_pos rfl]; exact ⟨w1, ρ, S1, s1, en.ext e1, h1⟩
    | false => rw [if_neg (by decide)]; exact h1.ret s1 (by unfold Rp; rfl)
/-- truth -/
def truD (S : Store) : D → Option Bool
  | .non => some false
  | .bl b => some b
  | .int i => some (i != 0)
  | .str y => if y.length ≤ sizeLine then some ((y.length : Int) != 0) else none
  | .tup ds => some (!ds.isEmpty)
  | .lst ds => some (!ds.isEmpty)
  | .fls ds => some (!ds.isEmpty)
  | .loc n => (cellOf S n).map fun ds => !ds.isEmpty
  | _ => none
def fTru (f : FE) : FT := fun ρ S => (f ρ S).bnd fun x S1 => match truD S1 x with
  | some k => .ok k S1
  | none => .no
theorem RpL.emp {K : PySem.W.Frag} {mg : Str → Option Value} {w : Wd} {H : Hp} {ds : List D} {vs : List V} (h : RpL K mg w H ds vs) : (!ds.isEmpty) = !vs.isEmpty := by
  cases ds <;> unfold RpL at h
  · subst h; rfl
  · obtain ⟨v, r, e, _⟩ := h; subst e; rfl
theorem truD_at [Wo] {K : PySem.W.Frag} {mg : Str → Option Value} {w : Wd} {H : Hp} {S : Store} {d : D} {v : V} {k : Bool} (s : Sto K mg w S H) (r : Rp K mg w H d v) (h : truD S d = some k) : TruV K v H k := by
  cases d with
  | non => unfold Rp at r; subst r; simp only [truD] at h; cases h; rfl
  | bl b => unfold Rp at r; subst r; simp only [truD] at h; cases h; rfl
  | int i => unfold Rp at r; subst r; simp only [truD] at h; cases h; rfl
  | str y =>
    unfold Rp at r; subst r; simp only [truD] at h
    split at h
    · rename_i hl; cases h; exact ⟨hl, rfl⟩
    · cases h
  | tup ds =>
    obtain ⟨a, xs, e, t, q⟩ := tup_at r
    simp only [truD] at h; cases h; subst e
    exact .inr (.inl ⟨xs, t, q.emp⟩)
  | lst ds =>
    obtain ⟨a, xs, e, t, q⟩ := seqL_at (S := S) s r rfl
    simp only [truD] at h; cases h; subst e
    exact .inl ⟨xs, t, q.emp⟩
  | fls ds =>
    obtain ⟨a, xs, e, t, q⟩ := seqL_at (S := S) (d := .fls ds) s r rfl
    simp only [truD] at h; cases h; subst e
    exact .inl ⟨xs, t, q.emp⟩
  | loc n =>
    simp only [truD, Option.map_eq_some_iff] at h
    obtain ⟨ds, h1, h2⟩ := h
    obtain ⟨a, xs, e, t, q⟩ := seqL_at (S := S) (d := .loc n) s r h1
    subst e; subst h2
    exact .inl ⟨xs, t, q.emp⟩
  | _ => simp [truD] at h
theorem qt_tru [Wo] (ha : PE X a (tF X W fa)) (he : ∀ whole, isTrue a X.env whole = (do let v ← whole; standAt a.pos; holding [v] (truthy v)) := by intro _; rfl) : PT X a (tT X W (fTru fa)) :=
  PT.wk (pt_truth ha he) fun σ H Q ⟨w, ρ, S, s, en, h⟩ => by
    refine ⟨w, ρ, S, s, en, (End.bind (R := fun w H => Rp X.K X.mg w H) h).imp ?_ (fun _ _ _ z => z)⟩
    rintro x H1 ⟨w1, S1, d, e1, s1, r1, h1⟩
    split at h1
    · rename_i k hk
      exact ⟨k, truD_at s1 r1 hk, h1.ret s1 rfl⟩
    · exact h1.elim
/-- not e, as a value, by truth -/
def fNotV (f : FE) : FE := fun ρ S => (f ρ S).bnd fun x S1 => match truD S1 x with
  | some k => .ok (.bl (!k)) S1
  | none => .no
theorem q_not [Wo] (ha : PE X a (tF X W fa)) : PE X (.UnaryOp .Not a pos) (tF X W (fNotV fa)) :=
  PE.wk (pe_notT ha) fun σ H Q ⟨w, ρ, S, s, en, h⟩ => by
    refine ⟨w, ρ, S, s, en, (End.bind (R := fun w H => Rp X.K X.mg w H) h).imp ?_ (fun _ _ _ z => z)⟩
    rintro x H1 ⟨w1, S1, d, e1, s1, r1, h1⟩
    split at h1
    · rename_i k hk
      exact ⟨k, truD_at s1 r1 hk, h1.ret s1 (by unfold Rp; rfl)⟩
    · exact h1.elim
theorem q_nil [Wo] : PA X [] (tA X W fNil) := PA.wk pa_nil fun σ H Q ⟨w, ρ, S, s, en, h⟩ => h.ret s RpL.nil
theorem q_cons [Wo] (ha : PE X e (tF X W fa)) (hr : PA X es (tA X W fs)) (hs : starEach (e :: es) X.env = (false, eval e X.env) :: starEach es X.env := by rfl) : PA X (e :: es) (tA X W (fCons fa fs)) :=
  PA.wk (pa_cons ha hr hs) fun σ H Q ⟨w, ρ, S, s, en, h⟩ => by
    refine ⟨w, ρ, S, s, en, (End.bind h).imp ?_ (fun _ _ _ z => z)⟩
    rintro x H1 ⟨w1, S1, d, e1, s1, r1, h1⟩
    refine ⟨w1, ρ, S1, s1, en.ext e1, (End.bind h1).imp ?_ (fun _ _ _ z => z)⟩
    rintro xs H2 ⟨w2, S2, ds, e2, s2, r2, h2⟩
    exact h2.ret s2 (RpL.cons (Rp.ext e2 _ _ r1) r2)
/-- a new tuple, a new list -/
def mkTup (ds : List D) (S : Store) : RE D := if ds.length ≤ sizeLine then .ok (.tup ds) S else .no
def mkLst (ds : List D) (S : Store) : RE D := if ds.length ≤ sizeLine then .ok (.lst ds) S else .no
def mkCel (ds : List D) (S : Store) : RE D := if ds.length ≤ sizeLine then .ok (.loc S.length) (S ++ [.lst ds]) else .no
section
variable {K : PySem.W.Frag} {mg : Str → Option Value} {w : Wd} {H : Hp} {S : Store} {Q : VK} {E : Value → Option Addr → Hp → Prop} {ds : List D} {xs : List V} {p : Addr}
theorem mkTup_at [Wo] (s : Sto K mg w S H) (r : RpL K mg w H ds xs) (h : End K mg (fun w H => Rp K mg w H) w H (mkTup ds S) Q E) : xs.length ≤ sizeLine ∧ ∀ p, H p = none → Q (.ref p) (upd H p (.tup xs)) := by
  unfold mkTup at h
  split at h
  · rename_i hl
    refine ⟨by rw [← r.length]; exact hl, fun p np => h w _ _ (Ext.new np) (s.beside np) ?_⟩
    show Rp _ _ _ _ _ _
    unfold Rp
    exact ⟨p, xs, rfl, .inl ⟨upd_same, s.new np⟩, RpL.ext (Ext.new np) _ _ r⟩
  · exact h.elim
theorem mkLst_at [Wo] (s : Sto K mg w S H) (r : RpL K mg w H ds xs) (h : End K mg (fun w H => Rp K mg w H) w H (mkLst ds S) Q E) : xs.length ≤ sizeLine ∧ ∀ p, H p = none → Q (.ref p) (upd H p (.lst xs)) := by
  unfold mkLst at h
  split at h
  · rename_i hl
    refine ⟨by rw [← r.length]; exact hl, fun p np => h w _ _ (Ext.new np) (s.beside np) ?_⟩
    show Rp _ _ _ _ _ _
    unfold Rp
    exact ⟨p, xs, rfl, upd_same, s.new np, RpL.ext (Ext.new np) _ _ r⟩
  · exact h.elim
theorem Ext.cell {o : HO} (np : H p = none) : Ext w H ⟨w.φ ++ [some p], w.hd⟩ (upd H p o) where
  fr := fun a u e _ => by rw [upd_ne (ne_of_none e np)]; exact e
  ln := by show w.φ.length ≤ (w.φ ++ [some p]).length; rw [List.length_append]; exact Nat.le_add_right _ _
  ph := fun n a h l => by
    have h' : (w.φ ++ [some p])[n]? = some (some a) := h
    rw [List.getElem?_append_left l] at h'; exact h'
  nw := fun a h => by
    rcases List.mem_append.mp (show some a ∈ w.φ ++ [some p] from h) with h | h
    · exact .inl h
    · simp at h; subst h; exact .inr np
  hd := rfl
theorem Sto.cellNew [Wo] (s : Sto K mg w S H) (np : H p = none) (r : RpL K mg w H ds xs) : Sto K mg ⟨w.φ ++ [some p], w.hd⟩ (S ++ [.lst ds]) (upd H p (.lst xs)) := by
  have s2 := s.beside (o := .lst xs) np
  have ex : Ext w H ⟨w.φ ++ [some p], w.hd⟩ (upd H p (.lst xs)) := Ext.cell np
  refine ⟨by show (w.φ ++ [some p]).length = _; rw [List.length_append, List.length_append, s.len]; rfl, fun m n a h1 h2 => ?_, fun a ha => ⟨upd_some (s.ap a ha).1, fun z => ?_⟩, fun n c hc => ?_⟩
  · have key : ∀ k, (w.φ ++ [some p])[k]? = some (some a) → (w.φ[k]? = some (some a) ∧ k < w.φ.length) ∨ (k = w.φ.length ∧ a = p) := fun k hk => by
      by_cases hl : k < w.φ.length
      · rw [List.getElem?_append_left hl] at hk; exact .inl ⟨hk, hl⟩
      · have hl' : w.φ.length ≤ k := Nat.le_of_not_lt hl
        rw [List.getElem?_append_right hl'] at hk
        have : k - w.φ.length = 0 := by
          cases e : k - w.φ.length with
          | zero => rfl
          | succ j => rw [e] at hk; simp at hk
        rw [this] at hk; simp at hk
        exact .inr ⟨by omega, hk.symm⟩
    rcases key m h1 with ⟨a1, b1⟩ | ⟨a1, b1⟩ <;> rcases key n h2 with ⟨a2, b2⟩ | ⟨a2, b2⟩
    · exact s.nd m n a a1 a2
    · subst b2; exact absurd (List.mem_of_getElem? a1) (s.new np).1
    · subst b1; exact absurd (List.mem_of_getElem? a2) (s.new np).1
    · omega
  · rcases List.mem_append.mp (show some a ∈ w.φ ++ [some p] from z) with h | h
    · exact (s.ap a ha).2 h
    · simp at h; subst h; exact (s.ap a ha).1 np
  · by_cases hl : n < S.length
    · rw [List.getElem?_append_left hl] at hc
      refine CellR.ext ex (fun a ha => ⟨by show (w.φ ++ [some p])[n]? = _; rw [List.getElem?_append_left (s.len ▸ hl)]; exact ha, ?_⟩) (fun hd => by show (w.φ ++ [some p])[n]? = _; rw [List.getElem?_append_left (s.len ▸ hl)]; exact hd) (s.cell n c hc)
      have : a ≠ p := fun z => by subst z; exact (s.new np).1 (List.mem_of_getElem? ha)
      rw [upd_ne this]
    · have hl' : S.length ≤ n := Nat.le_of_not_lt hl
      rw [List.getElem?_append_right hl'] at hc
      have e0 : n - S.length = 0 := by
        cases e : n - S.length with
        | zero => rfl
        | succ j => rw [e] at hc; simp at hc
      rw [e0] at hc; simp at hc; subst hc
      have en : n = w.φ.length := by rw [s.len]; omega
      subst en
      exact ⟨p, xs, by show (w.φ ++ [some p])[w.φ.length]? = _; rw [List.getElem?_append_right (Nat.le_refl _), Nat.sub_self]; rfl, upd_same, RpL.ext ex _ _ r⟩
theorem mkCel_at [Wo] (s : Sto K mg w S H) (r : RpL K mg w H ds xs) (h : End K mg (fun w H => Rp K mg w H) w H (mkCel ds S) Q E) : xs.length ≤ sizeLine ∧ ∀ p, H p = none → Q (.ref p) (upd H p (.lst xs)) := by
  unfold mkCel at h
  split at h
  · rename_i hl
    refine ⟨by rw [← r.length]; exact hl, fun p np => h _ _ _ (Ext.cell np) (s.cellNew np r) ?_⟩
    show Rp _ _ _ _ _ _
    unfold Rp
    refine ⟨by show S.length < (w.φ ++ [some p]).length; rw [List.length_append, s.len]; exact Nat.lt_succ_self _, fun a ha => ?_⟩
    have ha' : (w.φ ++ [some p])[S.length]? = some (some a) := ha
    rw [← s.len, List.getElem?_append_right (Nat.le_refl _), Nat.sub_self] at ha'
    simp at ha'; rw [ha']
  · exact h.elim
end
theorem q_tup [Wo] {x1} (h : PA X es (tA X W fs)) : PE X (.Tuple es x1 pos) (tF X W (fArg mkTup fs)) :=
  PE.wk (pe_tup h) fun σ H Q ⟨w, ρ, S, s, en, h⟩ => ⟨w, ρ, S, s, en, (End.bind (R := fun w H => RpL X.K X.mg w H) h).imp (fun xs H1 ⟨w1, S1, ds, e1, s1, r1, h1⟩ => mkTup_at s1 r1 h1) (fun _ _ _ z => z)⟩
theorem q_lst [Wo] (h : PA X es (tA X W fs)) : PE X (.List es pos) (tF X W (fArg mkLst fs)) :=
  PE.wk (pe_lst h) fun σ H Q ⟨w, ρ, S, s, en, h⟩ => ⟨w, ρ, S, s, en, (End.bind (R := fun w H => RpL X.K X.mg w H) h).imp (fun xs H1 ⟨w1, S1, ds, e1, s1, r1, h1⟩ => mkLst_at s1 r1 h1) (fun _ _ _ z => z)⟩
theorem q_cel [Wo] (h : PA X es (tA X W fs)) : PE X (.List es pos) (tF X W (fArg mkCel fs)) :=
  PE.wk (pe_lst h) fun σ H Q ⟨w, ρ, S, s, en, h⟩ => ⟨w, ρ, S, s, en, (End.bind (R := fun w H => RpL X.K X.mg w H) h).imp (fun xs H1 ⟨w1, S1, ds, e1, s1, r1, h1⟩ => mkCel_at s1 r1 h1) (fun _ _ _ z => z)⟩
theorem argsTo [Wo] {r : List V → Hp → VK → Prop} {g : List D → Store → RE D} (hv : CallV X.K X.mg r g) {σ : L2.St} {H : Hp} {Q : VK} (h : tF X W (fArg g fs) σ H Q) : tA X W fs σ H (fun vs H1 => r vs H1 Q) := by
  obtain ⟨w, ρ, S, s, en, h⟩ := h
  refine ⟨w, ρ, S, s, en, (End.bind h).imp ?_ (fun _ _ _ z => z)⟩
  rintro xs H1 ⟨w1, S1, ds, e1, s1, r1, h1⟩
  exact hv w1 S1 H1 xs ds Q _ s1 r1 h1
theorem q_callB [Wo] {x : Str} {p : Pos} {id : String} {r : List V → Hp → VK → Prop} {g : List D → Store → RE D} (hc : CallR X (.builtin id) r) (hv : CallV X.K X.mg r g) (hg : Gl X x) (hm : X.mg x = none) (hb : bootBuiltins x = some (.builtin id)) (ha : PA X (e :: es) (tA X W fs)) (hn : x ≠ "__name__" := by decide) (hdb : (x == ("__debug__" : Str)) = false := by decide)
    (he : starEach (e :: es) X.env = (false, eval e X.env) :: starEach es X.env := by rfl) (hpl : (backTo pos (starEach es X.env)).any (·.1) = false := by rfl) : PE X (.Call (.Name x p) (e :: es) [] pos) (tF X W (fArg g fs)) :=
  PE.wk (pe_callB hc hg hm hb ha hn hdb he hpl) fun σ H Q h => argsTo hv h
theorem q_callTy [Wo] {x : Str} {p : Pos} {T : String} {r : List V → Hp → VK → Prop} {g : List D → Store → RE D} (hc : CallR X (.type T) r) (hv : CallV X.K X.mg r g) (hg : Gl X x) (hm : X.mg x = none) (hb : bootBuiltins x = some (.type T)) (ha : PA X (e :: es) (tA X W fs)) (hn : x ≠ "__name__" := by decide) (hdb : (x == ("__debug__" : Str)) = false := by decide)
    (he : starEach (e :: es) X.env = (false, eval e X.env) :: starEach es X.env := by rfl) (hpl : (backTo pos (starEach es X.env)).any (·.1) = false := by rfl) : PE X (.Call (.Name x p) (e :: es) [] pos) (tF X W (fArg g fs)) :=
  PE.wk (pe_callTy hc hg hm hb ha hn hdb he hpl) fun σ H Q h => argsTo hv h
end
end Kw
namespace Kw
open PySem PySem.Spec PyProof.Rows L2
section
variable {K : PySem.W.Frag} {mg : Str → Option Value} {w : Wd} {H : Hp} {S : Store}
theorem rp_int {i : Int} {v : V} (h : Rp K mg w H (.int i) v) : v = .int i := by unfold Rp at h; exact h
theorem rp_bl {i : Bool} {v : V} (h : Rp K mg w H (.bl i) v) : v = .bl i := by unfold Rp at h; exact h
theorem rp_str {i : Str} {v : V} (h : Rp K mg w H (.str i) v) : v = .str i := by unfold Rp at h; exact h
theorem rp_non {v : V} (h : Rp K mg w H .non v) : v = .non := by unfold Rp at h; exact h
theorem rp_i {i : Int} : Rp K mg w H (.int i) (.int i) := by unfold Rp; rfl
theorem rp_b {i : Bool} : Rp K mg w H (.bl i) (.bl i) := by unfold Rp; rfl
theorem rp_s {i : Str} : Rp K mg w H (.str i) (.str i) := by unfold Rp; rfl
theorem rp_n : Rp K mg w H .non .non := by unfold Rp; rfl
end
def catL (c : Bool) (x y : Option (List D)) (S : Store) : RE D := match x, y with
  | some xs, some ys => if c then mkCel (xs ++ ys) S else mkLst (xs ++ ys) S
  | _, _ => .no
/-- c: the sum of two lists is a cell -/
def gAdd (c : Bool) (x y : D) (S : Store) : RE D := match x with
  | .int i => (match y with
    | .int j => .ok (.int (i + j)) S
    | .bl k => .ok (.int (i + b2i k)) S
    | _ => .no)
  | .str a => (match y with
    | .str b => if a.length + b.length ≤ sizeLine then .ok (.str (a ++ b)) S else .no
    | _ => .no)
  | .tup xs => (match y with
    | .tup ys => mkTup (xs ++ ys) S
    | _ => .no)
  | x => catL c (seqM S x) (seqM S y) S
def gSub (x y : D) (S : Store) : RE D := match x, y with
  | .int i, .int j => .ok (.int (i - j)) S
  | _, _ => .no
instance (i j : Int) : Decidable (CMulW i j) := inferInstanceAs (Decidable (_ < _))
instance (i j : Int) : Decidable (CMul i j) := inferInstanceAs (Decidable (_ ∨ _))
/-- a text so many times -/
def repS (a : Str) (n : Int) : Str := if n < 1 then Str.empty else if (n == 1 || a.length == 0) = true then a else ⟨(List.replicate n.toNat a.cps).foldl (· ++ ·) #[]⟩
/-- c: a list that is repeated is a cell -/
def gMul (c : Bool) (x y : D) (S : Store) : RE D := match y with
  | .int j => (match x with
    | .int i => if CMul i j ∨ CMulW i j then .ok (.int (i * j)) S else .no
    | .str a => if a.length * j.toNat ≤ 16777216 ∧ a.length ≤ 1000 ∧ -(2 ^ 63) ≤ j ∧ j ≤ 100000 then .ok (.str (repS a j)) S else .no
    | x => (match seqM S x with
      | some xs => if xs.length * j.toNat ≤ sizeLine ∧ -(2 ^ 63) ≤ j ∧ j < 2 ^ 63 then (if c then mkCel (List.replicate j.toNat xs).flatten S else mkLst (List.replicate j.toNat xs).flatten S) else .no
      | none => .no))
  | _ => .no
/-- the divisor is positive -/
def gMod (x y : D) (S : Store) : RE D := match x, y with
  | .int i, .int j => if 0 < j then .ok (.int (i % j)) S else .no
  | _, _ => .no
def gDiv (x y : D) (S : Store) : RE D := match x, y with
  | .int i, .int j => if 0 < j ∧ j.natAbs.log2 < 9000 then .ok (.int (i / j)) S else .no
  | _, _ => .no
def gPow (x y : D) (S : Store) : RE D := match x, y with
  | .int i, .int j => if 0 ≤ j ∧ j ≤ 1000000 ∧ i.natAbs < 2 ^ 64 then .ok (.int (i ^ j.toNat)) S else .no
  | _, _ => .no
section
variable {K : PySem.W.Frag} {mg : Str → Option Value}
def rAddU (K : PySem.W.Frag) : R2 := fun x y H Q => (∃ i j, x = .int i ∧ y = .int j ∧ Q (.int (i + j)) H) ∨ (∃ i k, x = .int i ∧ y = .bl k ∧ Q (.int (i + b2i k)) H) ∨
  (∃ i j, x = .str i ∧ y = .str j ∧ i.length + j.length ≤ sizeLine ∧ Q (.str (i ++ j)) H) ∨ rCat x y H Q ∨ rCatA K x y H Q
theorem op_addU {X : Cx} : OpR X (binaryOp .Add) (rAddU X.K) := op_add.or (op_add_ib.or (op_add_str.or (op_cat.or op_catA)))
theorem addU_v [Wo] {c : Bool} : OpV K mg (rAddU K) (gAdd c) := by
  intro w S H x y d e Q E s r1 r2 h
  have lists : ∀ xs ys, seqM S d = some xs → seqM S e = some ys → End K mg (fun w H => Rp K mg w H) w H (if c then mkCel (xs ++ ys) S else mkLst (xs ++ ys) S) Q E → rCat x y H Q := fun xs ys h1 h2 h => by
    obtain ⟨a, vs, e1, t1, q1⟩ := seqM_at s r1 h1
    obtain ⟨b, us, e2, t2, q2⟩ := seqM_at s r2 h2
    have q := q1.append q2
    refine ⟨a, b, vs, us, e1, e2, t1, t2, ?_⟩
    have l : (vs ++ us).length = vs.length + us.length := List.length_append
    cases c
    · have z := mkLst_at s q h
      rw [l] at z; exact z
    · have z := mkCel_at s q h
      rw [l] at z; exact z
  have lists' : End K mg (fun w H => Rp K mg w H) w H (catL c (seqM S d) (seqM S e) S) Q E → rCat x y H Q := fun h => by
    unfold catL at h
    split at h
    · rename_i xs ys h1 h2; exact lists xs ys h1 h2 h
    · exact h.elim
  cases d <;> simp only [gAdd] at h
  case int i =>
    cases e <;> simp only [] at h <;> try exact h.elim
    · exact .inr (.inl ⟨i, _, rp_int r1, rp_bl r2, h.ret s rp_i⟩)
    · exact .inl ⟨i, _, rp_int r1, rp_int r2, h.ret s rp_i⟩
  case str a =>
    cases e <;> simp only [] at h <;> try exact h.elim
    split at h
    · rename_i hl; exact .inr (.inr (.inl ⟨a, _, rp_str r1, rp_str r2, hl, h.ret s rp_s⟩))
    · exact h.elim
  case tup xs =>
    cases e <;> simp only [] at h <;> try exact h.elim
    rename_i ys
    refine .inr (.inr (.inr (.inr ?_)))
    have r1' := r1
    have r2' := r2
    unfold Rp at r1' r2'
    obtain ⟨a, vs, e1, t1, q1⟩ := r1'
    obtain ⟨b, us, e2, t2, q2⟩ := r2'
    have q := q1.append q2
    have z := mkTup_at s q h
    have l : (vs ++ us).length = vs.length + us.length := List.length_append
    refine ⟨a, b, vs, us, e1, e2, t1.sq, t2.sq, by rw [← l]; exact z.1, fun ev => ?_, fun _ eu => ?_, fun _ _ => z.2⟩
    · subst ev
      have : xs = [] := q1.nil_iff.mpr rfl
      subst this
      unfold mkTup at h
      split at h
      · exact h.ret s (show Rp K mg w H _ _ by unfold Rp; exact ⟨b, us, rfl, t2, q2⟩)
      · exact h.elim
    · subst eu
      have : ys = [] := q2.nil_iff.mpr rfl
      subst this
      unfold mkTup at h
      split at h
      · exact h.ret s (show Rp K mg w H _ _ by unfold Rp; exact ⟨a, vs, rfl, t1, by rw [List.append_nil]; exact q1⟩)
      · exact h.elim
  all_goals exact .inr (.inr (.inr (.inl (lists' h))))
theorem sub_v [Wo] : OpV K mg (rI0 fun i j => .int (i - j)) gSub := by
  intro w S H x y d e Q E s r1 r2 h
  cases d <;> cases e <;> simp only [gSub] at h <;> try exact h.elim
  exact ⟨_, _, rp_int r1, rp_int r2, h.ret s rp_i⟩
theorem repS_fold : ∀ (k : Nat) (b a : Array Nat), ((List.replicate k a).foldl (· ++ ·) b).size = b.size + a.size * k
  | 0, b, a => by simp
  | k + 1, b, a => by rw [List.replicate_succ, List.foldl_cons, repS_fold k, Array.size_append, Nat.mul_succ]; omega
theorem repS_length (a : Str) (n : Int) : (repS a n).length ≤ a.length * n.toNat := by
  unfold repS
  by_cases h : n < 1
  · rw [if_pos h]; exact Nat.zero_le _
  · rw [if_neg h]
    have h1 : 1 ≤ n.toNat := by omega
    split
    · exact Nat.le_mul_of_pos_right _ h1
    · show ((List.replicate n.toNat a.cps).foldl (· ++ ·) #[]).size ≤ _
      rw [repS_fold]; show 0 + a.cps.size * _ ≤ _; rw [Nat.zero_add]; exact Nat.le_refl _
def rRepS : R2 := fun x y H Q => ∃ a j, x = .str a ∧ y = .int j ∧ a.length * j.toNat ≤ 16777216 ∧ a.length ≤ 1000 ∧ -(2 ^ 63) ≤ j ∧ j ≤ 100000 ∧ Q (.str (repS a j)) H
theorem op_repS {X : Cx} : OpR X (binaryOp .Mult) rRepS := by
  intro pins s σ H x y v u Q I rx ry h
  obtain ⟨a, j, rfl, rfl, h1, h2, h3, h4, q⟩ := h
  obtain ⟨t, rfl⟩ := rx
  obtain ⟨t2, rfl⟩ := ry
  have hz : a.length * j.toNat ≤ sizeLine := by rw [sizeLine_eq]; exact h1
  have n1 : ¬ j < -(2 ^ 63 : Int) := by omega
  have n2 : ¬ j ≥ (2 ^ 63 : Int) := by omega
  refine PySem.P.mul_str (by rw [decide_eq_false n1, decide_eq_false n2]; rfl) (fun g _ z => ?_) (fun _ _ => ?_) ?_
  · have g1 : (92233720368547 : Int) ≤ (2 ^ 63 - 1) / j := by
      rw [Int.le_ediv_iff_mul_le (by omega)]
      omega
    have : (a.length : Int) ≤ 1000 := by omega
    omega
  · unfold Builtin.Str.tooLong
    exact decide_eq_false (by omega)
  · have hl := repS_length a j
    unfold repS at q hl
    by_cases c : j < 1
    · rw [if_pos c] at q ⊢
      exact ⟨Nat.zero_le _, .str _, H, I.tok _, ⟨_, rfl⟩, q⟩
    · rw [if_neg c] at q hl ⊢
      by_cases c2 : (j == 1 || a.length == 0) = true
      · rw [if_pos c2] at q ⊢
        exact ⟨.str a, H, I, ⟨t, rfl⟩, q⟩
      · rw [if_neg c2] at q hl ⊢
        exact ⟨Nat.le_trans hl hz, .str _, H, I.tok _, ⟨_, rfl⟩, q⟩
def rMulU : R2 := fun x y H Q => rI CMul (fun i j => .int (i * j)) x y H Q ∨ rI CMulW (fun i j => .int (i * j)) x y H Q ∨ rRep x y H Q ∨ rRepS x y H Q
theorem op_mulU {X : Cx} : OpR X (binaryOp .Mult) rMulU := op_mul.or (op_mulW.or (op_rep.or op_repS))
theorem RpL.rep {w : Wd} {H : Hp} {xs : List D} {vs : List V} (h : RpL K mg w H xs vs) : ∀ n : Nat, RpL K mg w H (List.replicate n xs).flatten (List.replicate n vs).flatten
  | 0 => RpL.nil
  | n + 1 => by rw [List.replicate_succ, List.replicate_succ, List.flatten_cons, List.flatten_cons]; exact h.append (RpL.rep h n)
theorem mulU_v [Wo] {c : Bool} : OpV K mg rMulU (gMul c) := by
  intro w S H x y d e Q E s r1 r2 h
  cases e <;> simp only [gMul] at h <;> try exact h.elim
  rename_i j
  have lists : End K mg (fun w H => Rp K mg w H) w H (match seqM S d with
      | some xs => if xs.length * j.toNat ≤ sizeLine ∧ -(2 ^ 63) ≤ j ∧ j < 2 ^ 63 then (if c then mkCel (List.replicate j.toNat xs).flatten S else mkLst (List.replicate j.toNat xs).flatten S) else .no
      | none => .no) Q E → rRep x y H Q := fun h => by
    split at h
    · rename_i xs h1
      split at h
      · rename_i hl
        obtain ⟨a, vs, e1, t1, q1⟩ := seqM_at s r1 h1
        refine ⟨a, j, vs, e1, rp_int r2, t1, hl.2.1, hl.2.2, by rw [← q1.length]; exact hl.1, ?_⟩
        cases c
        · exact (mkLst_at s (q1.rep j.toNat) h).2
        · exact (mkCel_at s (q1.rep j.toNat) h).2
      · exact h.elim
    · exact h.elim
  cases d <;> simp only [] at h
  case int i =>
    split at h
    · rename_i hc
      rcases hc with hc | hc
      · exact .inl ⟨i, j, rp_int r1, rp_int r2, hc, h.ret s rp_i⟩
      · exact .inr (.inl ⟨i, j, rp_int r1, rp_int r2, hc, h.ret s rp_i⟩)
    · exact h.elim
  case str a =>
    split at h
    · rename_i hc
      exact .inr (.inr (.inr ⟨a, j, rp_str r1, rp_int r2, hc.1, hc.2.1, hc.2.2.1, hc.2.2.2, h.ret s rp_s⟩))
    · exact h.elim
  all_goals exact .inr (.inr (.inl (lists h)))
theorem mod_v [Wo] : OpV K mg (rI (fun _ j => 0 < j) fun i j => .int (i % j)) gMod := by
  intro w S H x y d e Q E s r1 r2 h
  cases d <;> cases e <;> simp only [gMod] at h <;> try exact h.elim
  split at h
  · rename_i hc; exact ⟨_, _, rp_int r1, rp_int r2, hc, h.ret s rp_i⟩
  · exact h.elim
theorem div_v [Wo] : OpV K mg (rI CDivW fun i j => .int (i / j)) gDiv := by
  intro w S H x y d e Q E s r1 r2 h
  cases d <;> cases e <;> simp only [gDiv] at h <;> try exact h.elim
  split at h
  · rename_i hc; exact ⟨_, _, rp_int r1, rp_int r2, hc, h.ret s rp_i⟩
  · exact h.elim
theorem pow_v [Wo] : OpV K mg (rI CPow fun i j => .int (i ^ j.toNat)) gPow := by
  intro w S H x y d e Q E s r1 r2 h
  cases d <;> cases e <;> simp only [gPow] at h <;> try exact h.elim
  split at h
  · rename_i hc; exact ⟨_, _, rp_int r1, rp_int r2, hc, h.ret s rp_i⟩
  · exact h.elim
end
def gCmp (p : Int → Int → Bool) (x y : D) (S : Store) : RE D := match x, y with
  | .int i, .int j => .ok (.bl (p i j)) S
  | _, _ => .no
def okPy (d e : PyData) : Bool := d.canLay0 && e.canLay0 && decide (min d.depth e.depth ≤ 200)
/-- a row of anything beside an empty one -/
def eqE (S : Store) (x y : D) : Option Bool := match y with
  | .lst [] => (seqL S x).map (·.isEmpty)
  | .tup [] => (match x with
    | .tup ds => some ds.isEmpty
    | _ => none)
  | .tup [.str b] => (match x with
    | .tup (.str a :: r) => some (a == b && r.isEmpty)
    | _ => none)
  | .str b => (match x with
    | .str a => some (a == b)
    | _ => none)
  | _ => none
def gEq (x y : D) (S : Store) : RE D := match eqE S x y with
  | some b => .ok (.bl b) S
  | none => (match pyS S x, pyS S y with
    | some d, some e => if okPy d e then .ok (.bl (PyData.eqv d e)) S else .no
    | _, _ => .no)
def gNe (x y : D) (S : Store) : RE D := match eqE S x y with
  | some b => .ok (.bl (!b)) S
  | none => (match pyS S x, pyS S y with
    | some d, some e => if okPy d e then .ok (.bl (!PyData.eqv d e)) S else .no
    | _, _ => .no)
def rEqS (K : PySem.W.Frag) (neg : Bool) : R2 := fun x y H Q => (∃ za zb : Str, x = .str za ∧ y = .str zb ∧ Q (.bl (if neg then !(za == zb) else za == zb)) H) ∨ ∃ a b xs, ∃ za zb : Str, x = .ref a ∧ y = .ref b ∧ SqT K H a (.str za :: xs) ∧ SqT K H b [.str zb] ∧ Q (.bl (if neg then !(za == zb && xs.isEmpty) else (za == zb && xs.isEmpty))) H
def rEqE (K : PySem.W.Frag) (neg : Bool) : R2 := fun x y H Q => rEqS K neg x y H Q ∨ ∃ a b xs, x = .ref a ∧ y = .ref b ∧ ((SqL K H a xs ∧ SqL K H b []) ∨ (SqT K H a xs ∧ SqT K H b [])) ∧ Q (.bl (if neg then !xs.isEmpty else xs.isEmpty)) H
def rEqP (K : PySem.W.Frag) : R2 := fun x y H Q => ∃ d e, Dp K H x d ∧ Dp K H y e ∧ okPy d e = true ∧ Q (.bl (PyData.eqv d e)) H
def rNeP (K : PySem.W.Frag) : R2 := fun x y H Q => ∃ d e, Dp K H x d ∧ Dp K H y e ∧ okPy d e = true ∧ Q (.bl (!PyData.eqv d e)) H
theorem okPy_iff {d e : PyData} (h : okPy d e = true) : d.canLay0 = true ∧ e.canLay0 = true ∧ min d.depth e.depth ≤ 200 := by
  unfold okPy at h
  simp only [Bool.and_eq_true, decide_eq_true_eq] at h
  exact ⟨h.1.1, h.1.2, h.2⟩
section
variable {X : Cx}
theorem op_eqP (hu : X.A.units + 200 < cLine) : OpR X (compareOp .Eq) (rEqP X.K) := by
  intro pins s σ H x y v u Q I rx ry h
  obtain ⟨d, e, hd, he, hk, q⟩ := h
  obtain ⟨k1, k2, k3⟩ := okPy_iff hk
  obtain ⟨as, r1⟩ := Dp.reads I d x v hd rx
  obtain ⟨bs, r2⟩ := Dp.reads I e y u he ry
  exact SeqAt.compareEq_reads r1 r2 k1 k2 (by omega) ⟨.bl _, H, I, rfl, q⟩
theorem op_neP (hu : X.A.units + 200 < cLine) : OpR X (compareOp .NotEq) (rNeP X.K) := by
  intro pins s σ H x y v u Q I rx ry h
  obtain ⟨d, e, hd, he, hk, q⟩ := h
  obtain ⟨k1, k2, k3⟩ := okPy_iff hk
  obtain ⟨as, r1⟩ := Dp.reads I d x v hd rx
  obtain ⟨bs, r2⟩ := Dp.reads I e y u he ry
  exact SeqAt.compareNe_reads r1 r2 k1 k2 (by omega) ⟨.bl _, H, I, rfl, q⟩
theorem one_beside {pins : List (Addr × Obj)} {σ : L2.St} {H : Hp} {s : Shared} {a b : Addr} {xs : List V} {za zb : Str} (I : Inv X pins σ H s) (h1 : SqT X.K H a (.str za :: xs)) (h2 : SqT X.K H b [.str zb]) :
    ∃ its its2 : List Value, IsTup s.heap a its.toArray ∧ IsTup s.heap b its2.toArray ∧ its.length = xs.length + 1 ∧ its2.length = 1 ∧ ∀ j (k1 : j < its.toArray.size) (k2 : j < its2.toArray.size), SeqAt.EqAt X.A.in1 s its.toArray[j] its2.toArray[j] ((fun _ => za == zb) j) := by
  obtain ⟨its, rv, t1, _⟩ := I.tuple h1
  obtain ⟨its2, rv2, t2, _⟩ := I.tuple h2
  cases rv with
  | cons r1 rt =>
    cases rv2 with
    | cons r2 rt2 =>
      cases rt2
      obtain ⟨u1, rfl⟩ := r1
      obtain ⟨u2, rfl⟩ := r2
      refine ⟨_, _, t1, t2, by simp [rt.length], rfl, fun j k1 k2 => ?_⟩
      have : j = 0 := by simp at k2; omega
      subst this
      exact SeqAt.EqAt.str_str za u1 zb u2
theorem one_val {α : Type} {xs : List α} {its its2 : List Value} {b : Bool} (l1 : its.length = xs.length + 1) (l2 : its2.length = 1) : ((List.range (min its.toArray.size its2.toArray.size)).all (fun _ => b) && its.toArray.size == its2.toArray.size) = (b && xs.isEmpty) := by
  rw [List.size_toArray, List.size_toArray, l1, l2]
  have : min (xs.length + 1) 1 = 1 := by omega
  rw [this]
  cases xs <;> simp [List.range, List.range.loop]
theorem op_eqE (hu : X.A.units + 200 < cLine) : OpR X (compareOp .Eq) (rEqE X.K false) := by
  intro pins s σ H x y v u Q I rx ry h
  rcases h with (⟨za, zb, rfl, rfl, q⟩ | ⟨a, b, xs, za, zb, rfl, rfl, h1, h2, q⟩) | h
  · obtain ⟨t1, rfl⟩ := rx
    obtain ⟨t2, rfl⟩ := ry
    exact PySem.P.eq_str ⟨.bl _, H, I, congrArg Value.bool (SeqAt.str_beq za zb), q⟩
  · cases rx; cases ry
    obtain ⟨its, its2, t1, t2, l1, l2, he⟩ := one_beside I h1 h2
    refine SeqAt.eq_tupleAt (e := fun _ => za == zb) t1 t2 (by omega) he ⟨.bl _, H, I, ?_, q⟩
    rw [one_val (xs := xs) l1 l2]; rfl
  obtain ⟨a, b, xs, rfl, rfl, hab, q⟩ := h
  cases rx; cases ry
  have hu' : X.A.units < cLine := by omega
  rcases hab with ⟨h1, h2⟩ | ⟨h1, h2⟩
  · obtain ⟨its, rv, t1, _⟩ := I.list h1
    obtain ⟨its2, rv2, t2, _⟩ := I.list h2
    have l1 := rv.length
    have l2 := rv2.length
    cases xs with
    | nil => exact SeqAt.eq_listAt (e := fun _ => true) t1.isList t2.isList (by rw [List.size_toArray, List.size_toArray]; omega) hu' (fun j k1 k2 => by rw [List.size_toArray, ← l1] at k1; exact absurd k1 (Nat.not_lt_zero _)) ⟨.bl _, H, I, by rw [List.all_eq_true.mpr (fun _ _ => rfl)]; rfl, q⟩
    | cons z r => exact SeqAt.eq_list_lengthsAt t1.isList t2.isList (by rw [List.size_toArray, List.size_toArray, ← l1, ← l2]; rfl) hu' ⟨.bl _, H, I, rfl, q⟩
  · obtain ⟨its, rv, t1, _⟩ := I.tuple h1
    obtain ⟨its2, rv2, t2, _⟩ := I.tuple h2
    have l1 := rv.length
    have l2 : its2.length = 0 := by have := rv2.length; simpa using this.symm
    refine SeqAt.eq_tupleAt (e := fun _ => true) t1 t2 hu' (fun j k1 k2 => by rw [List.size_toArray, l2] at k2; exact absurd k2 (Nat.not_lt_zero _)) ⟨.bl _, H, I, ?_, q⟩
    rw [List.all_eq_true.mpr (fun _ _ => rfl), List.size_toArray, List.size_toArray, l2, ← l1]
    cases xs <;> rfl
theorem op_neE (hu : X.A.units + 200 < cLine) : OpR X (compareOp .NotEq) (rEqE X.K true) := by
  intro pins s σ H x y v u Q I rx ry h
  rcases h with (⟨za, zb, rfl, rfl, q⟩ | ⟨a, b, xs, za, zb, rfl, rfl, h1, h2, q⟩) | h
  · obtain ⟨t1, rfl⟩ := rx
    obtain ⟨t2, rfl⟩ := ry
    exact PySem.P.ne_str ⟨.bl _, H, I, congrArg (fun b => Value.bool (!b)) (SeqAt.str_beq za zb), q⟩
  · cases rx; cases ry
    obtain ⟨its, its2, t1, t2, l1, l2, he⟩ := one_beside I h1 h2
    refine SeqAt.RcNeAt.tuples (e := fun _ => za == zb) t1 t2 (by omega) he _ _ _ _ ⟨.bl _, H, I, ?_, q⟩
    rw [one_val (xs := xs) l1 l2]; rfl
  obtain ⟨a, b, xs, rfl, rfl, hab, q⟩ := h
  cases rx; cases ry
  have hu' : X.A.units < cLine := by omega
  rcases hab with ⟨h1, h2⟩ | ⟨h1, h2⟩
  · obtain ⟨its, rv, t1, _⟩ := I.list h1
    obtain ⟨its2, rv2, t2, _⟩ := I.list h2
    have l1 := rv.length
    have l2 := rv2.length
    cases xs with
    | nil => exact SeqAt.RcNeAt.lists (e := fun _ => true) t1.isList t2.isList (by rw [List.size_toArray, List.size_toArray]; omega) hu' (fun j k1 k2 => by rw [List.size_toArray, ← l1] at k1; exact absurd k1 (Nat.not_lt_zero _)) _ _ _ _ ⟨.bl _, H, I, by rw [List.all_eq_true.mpr (fun _ _ => rfl)]; rfl, q⟩
    | cons z r => exact SeqAt.RcNeAt.lists_lengths t1.isList t2.isList (by rw [List.size_toArray, List.size_toArray, ← l1, ← l2]; rfl) hu' _ _ _ _ ⟨.bl _, H, I, rfl, q⟩
  · obtain ⟨its, rv, t1, _⟩ := I.tuple h1
    obtain ⟨its2, rv2, t2, _⟩ := I.tuple h2
    have l1 := rv.length
    have l2 : its2.length = 0 := by have := rv2.length; simpa using this.symm
    refine SeqAt.RcNeAt.tuples (e := fun _ => true) t1 t2 hu' (fun j k1 k2 => by rw [List.size_toArray, l2] at k2; exact absurd k2 (Nat.not_lt_zero _)) _ _ _ _ ⟨.bl _, H, I, ?_, q⟩
    rw [List.all_eq_true.mpr (fun _ _ => rfl), List.size_toArray, List.size_toArray, l2, ← l1]
    cases xs <;> rfl
def rEqU (K : PySem.W.Frag) : R2 := fun x y H Q => rEqE K false x y H Q ∨ rEqP K x y H Q
def rNeU (K : PySem.W.Frag) : R2 := fun x y H Q => rEqE K true x y H Q ∨ rNeP K x y H Q
theorem op_eqU (hu : X.A.units + 200 < cLine) : OpR X (compareOp .Eq) (rEqU X.K) := (op_eqE hu).or (op_eqP hu)
theorem op_neU (hu : X.A.units + 200 < cLine) : OpR X (compareOp .NotEq) (rNeU X.K) := (op_neE hu).or (op_neP hu)
/-- x in ys, a list or a tuple of data -/
def rInP (K : PySem.W.Frag) (neg : Bool) : R2 := fun x y H Q => ∃ d ds, Dp K H x d ∧ (Dp K H y (.list ds) ∨ Dp K H y (.tuple ds)) ∧ d.canLay0 = true ∧ PyData.canLayAll0 ds = true ∧ min (PyData.depthAll ds) d.depth ≤ 190 ∧ Q (.bl (if neg then !ds.any fun z => PyData.eqv z d else ds.any fun z => PyData.eqv z d)) H
theorem op_inP (hu : X.A.units + 200 < cLine) : OpR X (compareOp .In) (rInP X.K false) := by
  intro pins s σ H x y v u Q I rx ry h
  obtain ⟨d, ds, hd, he, k1, k2, k3, q⟩ := h
  obtain ⟨as, r1⟩ := Dp.reads I d x v hd rx
  rcases he with he | he
  · obtain ⟨bs, r2⟩ := Dp.reads I (.list ds) y u he ry
    exact SeqAt.in_list_reads r2 r1 k2 k1 (by omega) ⟨.bl _, H, I, rfl, q⟩
  · obtain ⟨bs, r2⟩ := Dp.reads I (.tuple ds) y u he ry
    exact SeqAt.in_tuple_reads r2 r1 k2 k1 (by omega) ⟨.bl _, H, I, rfl, q⟩
theorem op_notInP (hu : X.A.units + 200 < cLine) : OpR X (compareOp .NotIn) (rInP X.K true) := by
  intro pins s σ H x y v u Q I rx ry h
  obtain ⟨d, ds, hd, he, k1, k2, k3, q⟩ := h
  obtain ⟨as, r1⟩ := Dp.reads I d x v hd rx
  rcases he with he | he
  · obtain ⟨bs, r2⟩ := Dp.reads I (.list ds) y u he ry
    exact SeqAt.notIn_list_reads r2 r1 k2 k1 (by omega) ⟨.bl _, H, I, rfl, q⟩
  · obtain ⟨bs, r2⟩ := Dp.reads I (.tuple ds) y u he ry
    exact SeqAt.notIn_tuple_reads r2 r1 k2 k1 (by omega) ⟨.bl _, H, I, rfl, q⟩
end
/-- in, not in: a list, a tuple, a text -/
def gIn (neg : Bool) (x y : D) (S : Store) : RE D := match pyS S y with
  | some (.str b) => (match x with
    | .str a => .ok (.bl (if neg then !(!(Builtin.Str.occurrences b a 0 b.length 1).isEmpty) else !(Builtin.Str.occurrences b a 0 b.length 1).isEmpty)) S
    | _ => .no)
  | some (.list ds) => (match pyS S x with
    | some d => if d.canLay0 && PyData.canLayAll0 ds && decide (min (PyData.depthAll ds) d.depth ≤ 190) then .ok (.bl (if neg then !ds.any fun z => PyData.eqv z d else ds.any fun z => PyData.eqv z d)) S else .no
    | _ => .no)
  | some (.tuple ds) => (match pyS S x with
    | some d => if d.canLay0 && PyData.canLayAll0 ds && decide (min (PyData.depthAll ds) d.depth ≤ 190) then .ok (.bl (if neg then !ds.any fun z => PyData.eqv z d else ds.any fun z => PyData.eqv z d)) S else .no
    | _ => .no)
  | _ => .no
def rInU (K : PySem.W.Frag) (neg : Bool) : R2 := fun x y H Q => (∃ i j, x = .str i ∧ y = .str j ∧ Q (.bl (if neg then !(!(Builtin.Str.occurrences j i 0 j.length 1).isEmpty) else !(Builtin.Str.occurrences j i 0 j.length 1).isEmpty)) H) ∨ rInP K neg x y H Q
section
variable {X : Cx}
theorem op_inU (hu : X.A.units + 200 < cLine) : OpR X (compareOp .In) (rInU X.K false) := op_in_str.or (op_inP hu)
theorem op_notInU (hu : X.A.units + 200 < cLine) : OpR X (compareOp .NotIn) (rInU X.K true) := op_notin_str.or (op_notInP hu)
variable {K : PySem.W.Frag} {mg : Str → Option Value}
theorem eqE_at [Wo] {neg : Bool} {w : Wd} {S : Store} {H : Hp} {x y : V} {d e : D} {b : Bool} {Q : VK} (s : Sto K mg w S H) (r1 : Rp K mg w H d x) (r2 : Rp K mg w H e y) (h : eqE S d e = some b) (q : Q (.bl (if neg then !b else b)) H) : rEqE K neg x y H Q := by
  unfold eqE at h
  split at h
  · obtain ⟨ds, h1, h2⟩ := Option.map_eq_some_iff.mp h
    obtain ⟨a, vs, e1, t1, q1⟩ := seqL_at s r1 h1
    obtain ⟨a2, vs2, e2, t2, q2⟩ := seqL_at s r2 (show seqL S (.lst []) = some [] from rfl)
    unfold RpL at q2
    subst q2
    have : vs.isEmpty = ds.isEmpty := by have := q1.length; cases vs <;> cases ds <;> simp_all
    exact .inr ⟨a, a2, vs, e1, e2, .inl ⟨t1, t2⟩, by rw [this, h2]; exact q⟩
  · split at h
    · rename_i ds
      cases h
      obtain ⟨a, vs, e1, t1, q1⟩ := tup_at r1
      obtain ⟨a2, vs2, e2, t2, q2⟩ := tup_at r2
      unfold RpL at q2
      subst q2
      have : vs.isEmpty = ds.isEmpty := by have := q1.length; cases vs <;> cases ds <;> simp_all
      exact .inr ⟨a, a2, vs, e1, e2, .inr ⟨t1, t2⟩, by rw [this]; exact q⟩
    · cases h
  · split at h
    · rename_i zb _ za ds
      cases h
      obtain ⟨a, vs, e1, t1, q1⟩ := tup_at r1
      obtain ⟨a2, vs2, e2, t2, q2⟩ := tup_at r2
      obtain ⟨v2, rfl, q3⟩ := q2.one_inv
      unfold RpL at q1
      obtain ⟨v1, vt, rfl, q4, q5⟩ := q1
      rw [rp_str q3] at t2
      rw [rp_str q4] at t1
      have : vt.isEmpty = ds.isEmpty := by have := q5.length; cases vt <;> cases ds <;> simp_all
      exact .inl (.inr ⟨a, a2, vt, za, zb, e1, e2, t1, t2, by rw [this]; exact q⟩)
    · cases h
  · split at h
    · cases h
      exact .inl (.inl ⟨_, _, rp_str r1, rp_str r2, q⟩)
    · cases h
  · cases h
theorem eqP_v [Wo] : OpV K mg (rEqU K) gEq := by
  intro w S H x y d e Q E s r1 r2 h
  unfold gEq at h
  split at h
  · rename_i b hb; exact .inl (eqE_at (neg := false) s r1 r2 hb (h.ret s rp_b))
  · split at h
    · rename_i p q h1 h2
      split at h
      · rename_i hk; exact .inr ⟨p, q, pyS_at s d x p r1 h1, pyS_at s e y q r2 h2, hk, h.ret s rp_b⟩
      · exact h.elim
    · exact h.elim
theorem neP_v [Wo] : OpV K mg (rNeU K) gNe := by
  intro w S H x y d e Q E s r1 r2 h
  unfold gNe at h
  split at h
  · rename_i b hb; exact .inl (eqE_at (neg := true) s r1 r2 hb (h.ret s rp_b))
  · split at h
    · rename_i p q h1 h2
      split at h
      · rename_i hk; exact .inr ⟨p, q, pyS_at s d x p r1 h1, pyS_at s e y q r2 h2, hk, h.ret s rp_b⟩
      · exact h.elim
    · exact h.elim
theorem inU_v [Wo] {neg : Bool} : OpV K mg (rInU K neg) (gIn neg) := by
  intro w S H x y d e Q E s r1 r2 h
  unfold gIn at h
  split at h
  · rename_i b h1
    split at h
    · rename_i a
      have ye := pyS_at s e y _ r2 h1
      cases ye
      exact .inl ⟨_, _, rp_str r1, rfl, h.ret s rp_b⟩
    · exact h.elim
  · rename_i ds h1
    split at h
    · rename_i p h2
      split at h
      · rename_i hk
        simp only [Bool.and_eq_true, decide_eq_true_eq] at hk
        exact .inr ⟨p, ds, pyS_at s d x p r1 h2, .inl (pyS_at s e y _ r2 h1), hk.1.1, hk.1.2, hk.2, h.ret s rp_b⟩
      · exact h.elim
    · exact h.elim
  · rename_i ds h1
    split at h
    · rename_i p h2
      split at h
      · rename_i hk
        simp only [Bool.and_eq_true, decide_eq_true_eq] at hk
        exact .inr ⟨p, ds, pyS_at s d x p r1 h2, .inr (pyS_at s e y _ r2 h1), hk.1.1, hk.1.2, hk.2, h.ret s rp_b⟩
      · exact h.elim
    · exact h.elim
  · exact h.elim
theorem cmp_v [Wo] (p : Int → Int → Bool) : OpV K mg (rI0 fun i j => .bl (p i j)) (gCmp p) := by
  intro w S H x y d e Q E s r1 r2 h
  cases d <;> cases e <;> simp only [gCmp] at h <;> try exact h.elim
  exact ⟨_, _, rp_int r1, rp_int r2, h.ret s rp_b⟩
end
/-- whether it is None -/
def isNon (S : Store) : D → Option Bool
  | .non => some true
  | .loc n => (cellOf S n).map fun _ => false
  | _ => some false
/-- is None, is True -/
def gIs (neg : Bool) (x y : D) (S : Store) : RE D := match y with
  | .non => (match isNon S x with
    | some k => .ok (.bl (xor neg k)) S
    | none => .no)
  | .bl b => (match x with
    | .bl a => .ok (.bl (xor neg (decide (a = b)))) S
    | _ => .no)
  | _ => .no
def rIsU (neg : Bool) : R2 := fun x y H Q => (y = .non ∧ Q (.bl (xor neg (decide (x = .non)))) H) ∨ (∃ a b : Bool, x = .bl a ∧ y = .bl b ∧ Q (.bl (xor neg (decide (a = b)))) H)
section
variable {X : Cx}
theorem op_isU : OpR X (compareOp .Is) (rIsU false) := by
  have h := (op_isN (X := X)).or (op_isBl (X := X))
  intro pins s σ H x y v u Q I rx ry q
  refine h pins s σ H x y v u Q I rx ry ?_
  rcases q with ⟨a, b⟩ | ⟨a, b, c, d, e⟩
  · exact .inl ⟨a, by simpa using b⟩
  · exact .inr ⟨a, b, c, d, by simpa using e⟩
theorem op_isNotU : OpR X (compareOp .IsNot) (rIsU true) := by
  have h := (op_notN (X := X)).or (op_notBl (X := X))
  intro pins s σ H x y v u Q I rx ry q
  refine h pins s σ H x y v u Q I rx ry ?_
  rcases q with ⟨a, b⟩ | ⟨a, b, c, d, e⟩
  · exact .inl ⟨a, by simpa using b⟩
  · exact .inr ⟨a, b, c, d, by simpa using e⟩
variable {K : PySem.W.Frag} {mg : Str → Option Value}
theorem isNon_at [Wo] {w : Wd} {S : Store} {H : Hp} {x : V} {d : D} {k : Bool} (s : Sto K mg w S H) (r1 : Rp K mg w H d x) (h : isNon S d = some k) : decide (x = V.non) = k := by
  cases d with
  | loc n =>
    simp only [isNon, Option.map_eq_some_iff] at h
    obtain ⟨ds, h1, h2⟩ := h
    obtain ⟨a, xs, e, t, q⟩ := seqL_at (S := S) (d := .loc n) s r1 h1
    rw [e, ← h2]; rfl
  | non => simp only [isNon] at h; cases h; rw [rp_non r1]; rfl
  | bl b => simp only [isNon] at h; cases h; rw [rp_bl r1]; rfl
  | int b => simp only [isNon] at h; cases h; rw [rp_int r1]; rfl
  | str b => simp only [isNon] at h; cases h; rw [rp_str r1]; rfl
  | tup ds => simp only [isNon] at h; cases h; unfold Rp at r1; obtain ⟨a, xs, e, _⟩ := r1; rw [e]; rfl
  | lst ds => simp only [isNon] at h; cases h; unfold Rp at r1; obtain ⟨a, xs, e, _⟩ := r1; rw [e]; rfl
  | dic ks ds => simp only [isNon] at h; cases h; unfold Rp at r1; obtain ⟨a, vs, e, _⟩ := r1; rw [e]; rfl
  | ins c fs ds => simp only [isNon] at h; cases h; unfold Rp at r1; obtain ⟨a, C, dx, vs, e, _⟩ := r1; rw [e]; rfl
  | glo n => simp only [isNon] at h; cases h; unfold Rp at r1; obtain ⟨a, e, _⟩ := r1; rw [e]; rfl
  | exn n => simp only [isNon] at h; cases h; unfold Rp at r1; rw [r1]; rfl
  | fls ds => simp only [isNon] at h; cases h; unfold Rp at r1; obtain ⟨a, xs, e, _⟩ := r1; rw [e]; rfl
  | exo c ns ds => simp only [isNon] at h; cases h; unfold Rp at r1; obtain ⟨a, C, od, vs, e, _⟩ := r1; rw [e]; rfl
  | lam i q ob => simp only [isNon] at h; cases h; unfold Rp at r1; obtain ⟨f, c', pm, ctv, e, _⟩ := r1; rw [e]; rfl
theorem isU_v [Wo] {neg : Bool} : OpV K mg (rIsU neg) (gIs neg) := by
  intro w S H x y d e Q E s r1 r2 h
  cases e <;> simp only [gIs] at h <;> try exact h.elim
  · split at h
    · rename_i k hk
      refine .inl ⟨rp_non r2, ?_⟩
      rw [isNon_at s r1 hk]
      exact h.ret s rp_b
    · exact h.elim
  · cases d <;> simp only [] at h <;> try exact h.elim
    exact .inr ⟨_, _, rp_bl r1, rp_bl r2, h.ret s rp_b⟩
end
end Kw
namespace Kw
open PySem PySem.Spec PyProof.Rows L2
section
variable {K : PySem.W.Frag} {mg : Str → Option Value} {w : Wd} {H : Hp} {S : Store}
theorem RpL.atI {ds : List D} {xs : List V} {i : Int} {d : D} (r : RpL K mg w H ds xs) (h : L2.atI ds i = some d) : ∃ v, L2.atI xs i = some v ∧ Rp K mg w H d v := by
  unfold L2.atI at h ⊢
  rw [← r.length]
  cases e : ixN ds.length i with
  | none => rw [e] at h; cases h
  | some j =>
    rw [e] at h
    exact r.get h
end
def gIx (x y : D) (S : Store) : RE D := match y with
  | .int i => (match x with
    | .str z => if z.length ≤ sizeLine then (match L2.atI z.cps.toList i with
      | some c => .ok (.str ⟨#[c]⟩) S
      | none => .no) else .no
    | x => (match seqA S x with
      | some ds => (match L2.atI ds i with
        | some d => .ok d S
        | none => .no)
      | none => .no))
  | _ => .no
section
variable {K : PySem.W.Frag} {mg : Str → Option Value}
theorem ix_v [Wo] : OpV K mg (rIx K) gIx := by
  intro w S H x y d e Q E s r1 r2 h
  cases e <;> simp only [gIx] at h <;> try exact h.elim
  rename_i i
  have seqs : End K mg (fun w H => Rp K mg w H) w H (match seqA S d with
      | some ds => (match L2.atI ds i with
        | some d => .ok d S
        | none => .no)
      | none => .no) Q E → rIx K x y H Q := fun h => by
    split at h
    · rename_i ds h1
      split at h
      · rename_i d' h2
        obtain ⟨a, xs, e1, t1, q1⟩ := seqA_at s r1 h1
        obtain ⟨v, h3, h4⟩ := q1.atI h2
        rcases t1 with t1 | t1
        · exact .inl ⟨a, xs, i, v, e1, rp_int r2, t1, h3, h.ret s h4⟩
        · exact .inr (.inl ⟨a, xs, i, v, e1, rp_int r2, t1, h3, h.ret s h4⟩)
      · exact h.elim
    · exact h.elim
  cases d <;> simp only [] at h
  case str z =>
    split at h
    · rename_i hl
      split at h
      · rename_i c hc
        exact .inr (.inr ⟨z, i, c, rp_str r1, rp_int r2, hl, hc, h.ret s rp_s⟩)
      · exact h.elim
    · exact h.elim
  all_goals exact seqs h
end
section
variable {X : Cx} {W : WX} {a b e : Expr} {es : List Expr} {fa fb : FE} {fs : FA} {pos : Pos}
theorem q_ix [Wo] (ha : PE X a (tF X W fa)) (hb : PE X b (tF X W fb)) (hs : PlainIx b := by intro _ _; rfl) : PE X (.Subscript a b pos) (tF X W (f2 gIx fa fb)) := PE.wk (pe_ix ix_seq ha hb hs) fun σ H Q h => two ix_v h
end
abbrev FO := FEnv → Store → RE (Option Int)
def tO [Wo] (X : Cx) (W : WX) (f : FO) : TO := fun σ H Q => ∃ w ρ S, Sto X.K X.mg w S H ∧ EnvR X.K X.mg w H ρ σ ∧ End X.K X.mg (fun _ _ (a b : Option Int) => b = a) w H (f ρ S) Q (fun c od H' => W c od σ H')
def fNone : FO := fun _ S => .ok none S
def fSome (f : FE) : FO := fun ρ S => (f ρ S).bnd fun x S1 => match x with
  | .int i => .ok (some i) S1
  | _ => .no
def cutL {α : Type} (xs : List α) (lo hi : Option Int) : List α := (xs.drop (HT.sIx xs.length 0 lo)).take (HT.sIx xs.length xs.length hi - HT.sIx xs.length 0 lo)
/-- c: the slice of a list is a cell -/
def gSl (c : Bool) (x : D) (lo hi : Option Int) (S : Store) : RE D := match x with
  | .str z => if z.length ≤ sizeLine then .ok (.str (cutS z lo hi)) S else .no
  | .tup ds => .ok (.tup (cutL ds lo hi)) S
  | x => (match seqL S x with
    | some ds => if c then .ok (.loc S.length) (S ++ [.lst (cutL ds lo hi)]) else .ok (.lst (cutL ds lo hi)) S
    | none => .no)
def fSl (g : D → Option Int → Option Int → Store → RE D) (a : FE) (l u : FO) : FE := fun ρ S => (a ρ S).bnd fun x S1 => (l ρ S1).bnd fun lo S2 => (u ρ S2).bnd fun hi S3 => g x lo hi S3
def rSlU (K : PySem.W.Frag) : V → Option Int → Option Int → Hp → VK → Prop := fun x lo hi H Q => rSlL K x lo hi H Q ∨ rSlA K x lo hi H Q ∨ rSlS x lo hi H Q
theorem sl_U {X : Cx} : SlR X (rSlU X.K) := sl_list.or (sl_tupA.or sl_str)
section
variable {K : PySem.W.Frag} {mg : Str → Option Value} {w : Wd} {H : Hp} {S : Store} {Q : VK} {E : Value → Option Addr → Hp → Prop}
theorem RpL.cut {ds : List D} {xs : List V} (r : RpL K mg w H ds xs) (lo hi : Option Int) : RpL K mg w H (cutL ds lo hi) (cutV xs lo hi) := by
  unfold cutL cutV
  rw [← r.length]
  exact (r.drop _).take _
theorem newLst [Wo] {ds : List D} {xs : List V} {p : Addr} (s : Sto K mg w S H) (r : RpL K mg w H ds xs) (np : H p = none) (h : End K mg (fun w H => Rp K mg w H) w H (.ok (.lst ds) S) Q E) : Q (.ref p) (upd H p (.lst xs)) := by
  refine h w _ _ (Ext.new np) (s.beside np) ?_
  show Rp _ _ _ _ _ _
  unfold Rp
  exact ⟨p, xs, rfl, upd_same, s.new np, RpL.ext (Ext.new np) _ _ r⟩
theorem newTup [Wo] {ds : List D} {xs : List V} {p : Addr} (s : Sto K mg w S H) (r : RpL K mg w H ds xs) (np : H p = none) (h : End K mg (fun w H => Rp K mg w H) w H (.ok (.tup ds) S) Q E) : Q (.ref p) (upd H p (.tup xs)) := by
  refine h w _ _ (Ext.new np) (s.beside np) ?_
  show Rp _ _ _ _ _ _
  unfold Rp
  exact ⟨p, xs, rfl, .inl ⟨upd_same, s.new np⟩, RpL.ext (Ext.new np) _ _ r⟩
theorem newCel [Wo] {ds : List D} {xs : List V} {p : Addr} (s : Sto K mg w S H) (r : RpL K mg w H ds xs) (np : H p = none) (h : End K mg (fun w H => Rp K mg w H) w H (.ok (.loc S.length) (S ++ [.lst ds])) Q E) : Q (.ref p) (upd H p (.lst xs)) := by
  refine h _ _ _ (Ext.cell np) (s.cellNew np r) ?_
  show Rp _ _ _ _ _ _
  unfold Rp
  refine ⟨by show S.length < (w.φ ++ [some p]).length; rw [List.length_append, s.len]; exact Nat.lt_succ_self _, fun a ha => ?_⟩
  have ha' : (w.φ ++ [some p])[S.length]? = some (some a) := ha
  rw [← s.len, List.getElem?_append_right (Nat.le_refl _), Nat.sub_self] at ha'
  simp at ha'; rw [ha']
theorem slU_v [Wo] {c : Bool} {x : V} {d : D} {lo hi : Option Int} (s : Sto K mg w S H) (r1 : Rp K mg w H d x) (h : End K mg (fun w H => Rp K mg w H) w H (gSl c d lo hi S) Q E) : rSlU K x lo hi H Q := by
  have lists : End K mg (fun w H => Rp K mg w H) w H (match seqL S d with
      | some ds => if c then .ok (.loc S.length) (S ++ [.lst (cutL ds lo hi)]) else .ok (.lst (cutL ds lo hi)) S
      | none => .no) Q E → rSlL K x lo hi H Q := fun h => by
    split at h
    · rename_i ds h1
      obtain ⟨a, xs, e1, t1, q1⟩ := seqL_at s r1 h1
      refine ⟨a, xs, e1, t1, fun p np => ?_⟩
      cases c
      · exact newLst s (q1.cut lo hi) np h
      · exact newCel s (q1.cut lo hi) np h
    · exact h.elim
  cases d <;> simp only [gSl] at h
  case str z =>
    split at h
    · rename_i hl; exact .inr (.inr ⟨z, rp_str r1, hl, h.ret s rp_s⟩)
    · exact h.elim
  case tup ds =>
    have r1' := r1
    unfold Rp at r1'
    obtain ⟨a, xs, e1, t1, q1⟩ := r1'
    refine .inr (.inl ⟨a, xs, e1, t1.sq, fun ⟨z1, z2⟩ => ?_, fun _ p np => newTup s (q1.cut lo hi) np h⟩)
    have e2 : cutL ds lo hi = ds := by
      unfold cutL
      rw [q1.length, z1, z2, List.drop_zero, ← q1.length]
      exact List.take_of_length_le (by omega)
    rw [e2] at h
    exact h.ret s (by rw [← e1]; exact r1)
  all_goals exact .inl (lists h)
end
section
variable {X : Cx} {W : WX} {a b e : Expr} {es : List Expr} {fa fb : FE} {fs : FA} {pos : Pos}
theorem q_none [Wo] : PO X none (tO X W fNone) := ⟨fun pins s σ H Q I ⟨w, ρ, S, st, en, h⟩ => po_none.run pins s σ H Q I (h.ret st rfl)⟩
theorem q_some [Wo] (h : PE X e (tF X W fa)) : PO X (some e) (tO X W (fSome fa)) := ⟨fun pins s σ H Q I ⟨w, ρ, S, st, en, hh⟩ => (po_some h).run pins s σ H Q I (by
  refine ⟨w, ρ, S, st, en, (End.bind (R := fun w H => Rp X.K X.mg w H) hh).imp ?_ (fun _ _ _ z => z)⟩
  rintro x H1 ⟨w1, S1, d, e1, s1, r1, h1⟩
  cases d <;> try exact h1.elim
  exact ⟨_, rp_int r1, h1.ret s1 rfl⟩)⟩
theorem q_slice [Wo] {c : Bool} {lo hi : Option Expr} {fl fu : FO} {p2 : Pos} (he : PE X e (tF X W fa)) (hl : PO X lo (tO X W fl)) (hu : PO X hi (tO X W fu)) : PE X (.Subscript e (.Slice lo hi none p2) pos) (tF X W (fSl (gSl c) fa fl fu)) :=
  PE.wk (pe_slice sl_U he hl hu) fun σ H Q ⟨w, ρ, S, s, en, h⟩ => by
    refine ⟨w, ρ, S, s, en, (End.bind h).imp ?_ (fun _ _ _ z => z)⟩
    rintro x H1 ⟨w1, S1, d, e1, s1, r1, h1⟩
    refine ⟨w1, ρ, S1, s1, en.ext e1, (End.bind h1).imp ?_ (fun _ _ _ z => z)⟩
    rintro l H2 ⟨w2, S2, l', e2, s2, r2, h2⟩
    cases r2
    refine ⟨w2, ρ, S2, s2, (en.ext e1).ext e2, (End.bind h2).imp ?_ (fun _ _ _ z => z)⟩
    rintro u H3 ⟨w3, S3, u', e3, s3, r3, h3⟩
    cases r3
    exact slU_v s3 (Rp.ext e3 _ _ (Rp.ext e2 _ _ r1)) h3
end
def gLen : List D → Store → RE D := fun ds S => match ds with
  | [.str z] => if z.length ≤ sizeLine then .ok (.int z.length) S else .no
  | [d] => (match seqA S d with
    | some xs => .ok (.int xs.length) S
    | none => .no)
  | _ => .no
def gInt : List D → Store → RE D := fun ds S => match ds with
  | [.int i] => .ok (.int i) S
  | [.bl k] => .ok (.int (if k then 1 else 0)) S
  | _ => .no
def gList (c : Bool) : List D → Store → RE D := fun ds S => match ds with
  | [d] => (match seqA S d with
    | some xs => if c then .ok (.loc S.length) (S ++ [.lst xs]) else .ok (.lst xs) S
    | none => .no)
  | _ => .no
def gTuple : List D → Store → RE D := fun ds S => match ds with
  | [d] => (match seqA S d with
    | some xs => .ok (.tup xs) S
    | none => .no)
  | _ => .no
def blsOf : List D → Option (List Bool)
  | [] => some []
  | .bl b :: r => (blsOf r).map (b :: ·)
  | _ => none
def gAll : List D → Store → RE D := fun ds S => match ds with
  | [d] => (match (seqL S d).bind blsOf with
    | some bs => .ok (.bl (bs.all id)) S
    | none => .no)
  | _ => .no
def gMax : List D → Store → RE D := fun ds S => match ds with
  | [.int i, .int j] => .ok (.int (if j > i then j else i)) S
  | _ => .no
def gMin : List D → Store → RE D := fun ds S => match ds with
  | [.int i, .int j] => .ok (.int (if j < i then j else i)) S
  | _ => .no
section
variable {K : PySem.W.Frag} {mg : Str → Option Value}
theorem len_v [Wo] : CallV K mg (fun xs H Q => ∃ x n, xs = [x] ∧ LenV K x H n ∧ Q (.int n) H) gLen := by
  intro w S H xs ds Q E s r h
  unfold gLen at h
  split at h
  · rename_i z
    split at h
    · rename_i hl
      obtain ⟨v, rfl, r1⟩ := r.one_inv
      exact ⟨v, z.length, rfl, by rw [rp_str r1]; exact ⟨hl, rfl⟩, h.ret s rp_i⟩
    · exact h.elim
  · rename_i d _
    split at h
    · rename_i ys h1
      obtain ⟨v, rfl, r1⟩ := r.one_inv
      obtain ⟨a, vs, e1, t1, q1⟩ := seqA_at s r1 h1
      refine ⟨v, ys.length, rfl, ?_, h.ret s rp_i⟩
      rw [e1, q1.length]
      rcases t1 with t1 | t1
      · exact .inl ⟨vs, t1, rfl⟩
      · exact .inr ⟨vs, t1, rfl⟩
    · exact h.elim
  · exact h.elim
theorem int_v [Wo] : CallV K mg (fun xs H Q => (∃ i, xs = [.int i] ∧ Q (.int i) H) ∨ ∃ k, xs = [.bl k] ∧ Q (.int (if k then 1 else 0)) H) gInt := by
  intro w S H xs ds Q E s r h
  unfold gInt at h
  split at h
  · obtain ⟨v, rfl, r1⟩ := r.one_inv
    exact .inl ⟨_, by rw [rp_int r1], h.ret s rp_i⟩
  · obtain ⟨v, rfl, r1⟩ := r.one_inv
    exact .inr ⟨_, by rw [rp_bl r1], h.ret s rp_i⟩
  · exact h.elim
theorem list_v [Wo] {c : Bool} : CallV K mg (fun xs H Q => ∃ p ys, xs = [.ref p] ∧ (SqL K H p ys ∨ SqT K H p ys) ∧ ∀ l, H l = none → Q (.ref l) (upd H l (.lst ys))) (gList c) := by
  intro w S H xs ds Q E s r h
  unfold gList at h
  split at h
  · split at h
    · rename_i ys h1
      obtain ⟨v, rfl, r1⟩ := r.one_inv
      obtain ⟨a, vs, e1, t1, q1⟩ := seqA_at s r1 h1
      refine ⟨a, vs, by rw [e1], t1, fun p np => ?_⟩
      cases c
      · exact newLst s q1 np h
      · exact newCel s q1 np h
    · exact h.elim
  · exact h.elim
theorem RpL.two_inv {w : Wd} {H : Hp} {d e : D} {vs : List V} (h : RpL K mg w H [d, e] vs) : ∃ v u, vs = [v, u] ∧ Rp K mg w H d v ∧ Rp K mg w H e u := by
  unfold RpL at h
  obtain ⟨v, r, e1, h1, h2⟩ := h
  obtain ⟨u, rfl, h3⟩ := h2.one_inv
  exact ⟨v, u, e1, h1, h3⟩
theorem max_v [Wo] : CallV K mg (fun xs H Q => ∃ i j, xs = [.int i, .int j] ∧ Q (.int (if j > i then j else i)) H) gMax := by
  intro w S H xs ds Q E s r h
  unfold gMax at h
  split at h
  · obtain ⟨v, u, rfl, r1, r2⟩ := r.two_inv
    exact ⟨_, _, by rw [rp_int r1, rp_int r2], h.ret s rp_i⟩
  · exact h.elim
theorem min_v [Wo] : CallV K mg (fun xs H Q => ∃ i j, xs = [.int i, .int j] ∧ Q (.int (if j < i then j else i)) H) gMin := by
  intro w S H xs ds Q E s r h
  unfold gMin at h
  split at h
  · obtain ⟨v, u, rfl, r1, r2⟩ := r.two_inv
    exact ⟨_, _, by rw [rp_int r1, rp_int r2], h.ret s rp_i⟩
  · exact h.elim
end
def tyD (S : Store) : D → Option String
  | .non => some "NoneType"
  | .bl _ => some "bool"
  | .int _ => some "int"
  | .str _ => some "str"
  | .tup _ => some "tuple"
  | .lst _ => some "list"
  | .fls _ => some "list"
  | .dic _ _ => some "dict"
  | .loc n => (cellOf S n).map fun _ => "list"
  | _ => none
def isiB (t T : String) : Bool := t == T || (t == "bool" && T == "int")
def fIsi (T : String) (f : FE) : FE := fun ρ S => (f ρ S).bnd fun x S1 => match tyD S1 x with
  | some t => .ok (.bl (isiB t T)) S1
  | none => .no
theorem tyX_of [Wo] {K : PySem.W.Frag} {mg : Str → Option Value} {w : Wd} {H : Hp} {S : Store} {d : D} {v : V} {t : String} (s : Sto K mg w S H) (r : Rp K mg w H d v) (h : tyD S d = some t) : TyX K H v (.type t) := by
  cases d with
  | non => simp only [tyD] at h; cases h; rw [rp_non r]; exact .base .non
  | bl b => simp only [tyD] at h; cases h; rw [rp_bl r]; exact .base (.bl b)
  | int b => simp only [tyD] at h; cases h; rw [rp_int r]; exact .base (.int b)
  | str b => simp only [tyD] at h; cases h; rw [rp_str r]; exact .base (.str b)
  | tup ds =>
    simp only [tyD] at h; cases h
    unfold Rp at r
    obtain ⟨a, xs, e, t, _⟩ := r
    rw [e]
    rcases t with t | ⟨o, its, n, h1, h2, _⟩
    · exact .base (.tup t.1)
    · exact .kTuple h1 h2
  | lst ds =>
    simp only [tyD] at h; cases h
    unfold Rp at r
    obtain ⟨a, xs, e, t, _⟩ := r
    rw [e]; exact .base (.lst t)
  | dic ks ds =>
    simp only [tyD] at h; cases h
    unfold Rp at r
    obtain ⟨a, xs, e, t, _⟩ := r
    rw [e]; exact .base (.dK t)
  | loc n =>
    simp only [tyD, Option.map_eq_some_iff] at h
    obtain ⟨ds, h1, h2⟩ := h
    obtain ⟨a, xs, h3, h4, h5⟩ := cellOf_at s h1
    unfold Rp at r
    rw [r.2 a h3, ← h2]
    rcases h4 with h4 | ⟨o, h4⟩
    · exact .base (.lst h4)
    · exact .base (.frz h4)
  | fls ds =>
    simp only [tyD] at h; cases h
    unfold Rp at r
    obtain ⟨a, xs, e, t, _⟩ := r
    rw [e]
    rcases t with ⟨o, t, _⟩ | ⟨o, its, n, h1, h2, _⟩
    · exact .base (.frz t)
    · exact .kList h1 h2
  | ins _ _ _ => simp [tyD] at h
  | glo _ => simp [tyD] at h
  | exn _ => simp [tyD] at h
  | exo _ _ _ => simp [tyD] at h
  | lam _ _ _ => simp [tyD] at h
theorem kitB_ok {t T : String} (ht : t ∈ ["NoneType", "bool", "int", "str", "tuple", "list", "dict"]) (hT : T ∈ ["bool", "int", "str", "tuple", "list", "dict"]) : kitB t T = some (isiB t T) := by
  have key : ∀ t ∈ ["NoneType", "bool", "int", "str", "tuple", "list", "dict"], ∀ T ∈ ["bool", "int", "str", "tuple", "list", "dict"], kitB t T = some (isiB t T) := by decide +kernel
  exact key t ht T hT
theorem tyD_mem {S : Store} {d : D} {t : String} (h : tyD S d = some t) : t ∈ ["NoneType", "bool", "int", "str", "tuple", "list", "dict"] := by
  cases d <;> simp only [tyD, Option.map_eq_some_iff] at h <;> first | (cases h; decide) | (obtain ⟨_, _, rfl⟩ := h; decide) | (cases h)
section
variable {X : Cx} {W : WX} {a b e : Expr} {es : List Expr} {fa fb : FE} {fs : FA} {pos : Pos}
theorem q_isi [Wo] {T : String} {x : Str} {p q : Pos} (hg : Gl X "isinstance") (hm : X.mg "isinstance" = none) (hgT : Gl X x) (hmT : X.mg x = none) (hvT : bootBuiltins x = some (.type T)) (hT : T ∈ ["bool", "int", "str", "tuple", "list", "dict"]) (ha : PE X a (tF X W fa))
    (hn : x ≠ "__name__" := by decide) (hd : (x == ("__debug__" : Str)) = false := by decide)
    (h1 : starEach [a, .Name x q] X.env = (false, eval a X.env) :: starEach [.Name x q] X.env := by rfl) (h2 : starEach [.Name x q] X.env = (false, eval (.Name x q) X.env) :: starEach [] X.env := by rfl) (hpl : (backTo pos (starEach [.Name x q] X.env)).any (·.1) = false := by rfl) :
    PE X (.Call (.Name "isinstance" p) [a, .Name x q] [] pos) (tF X W (fIsi T fa)) := by
  have hx : PE X (.Name x q) (tC (.ty T)) := pe_bltn hgT hmT hvT rfl hn hd
  refine PE.wk (pe_callB call_isi hg hm (by decide +kernel) (pa_cons ha (pa_cons hx pa_nil h2) h1) (by decide) (by decide) h1 hpl) fun σ H Q ⟨w, ρ, S, s, en, h⟩ => ?_
  refine ⟨w, ρ, S, s, en, (End.bind (R := fun w H => Rp X.K X.mg w H) h).imp ?_ (fun _ _ _ z => z)⟩
  rintro v H1 ⟨w1, S1, d, e1, s1, r1, h3⟩
  split at h3
  · rename_i t ht
    exact ⟨v, .ty T, .type t, .type T, isiB t T, rfl, .ty T, tyX_of s1 r1 ht, kit_ty (kitB_ok (tyD_mem ht) hT), h3.ret s1 rp_b⟩
  · exact h3.elim
end
section
variable {K : PySem.W.Frag} {mg : Str → Option Value} {w : Wd} {H : Hp} {S : Store}
theorem Ext.write {n : Nat} {l : Addr} {o : HO} (hw : w.φ[n]? = some (some l)) : Ext w H w (upd H l o) := ⟨fun a u e n => by
  have : a ≠ l := fun z => by subst z; exact n (List.mem_of_getElem? hw)
  rw [upd_ne this]; exact e, Nat.le_refl _, fun _ _ h _ => h, fun _ h => .inl h, rfl⟩
theorem Sto.write [Wo] {n : Nat} {l : Addr} {ds : List D} {xs : List V} (s : Sto K mg w S H) (hw : w.φ[n]? = some (some l)) (hn : n < S.length) (r : RpL K mg w H ds xs) : Sto K mg w (S.set n (.lst ds)) (upd H l (.lst xs)) := by
  have ex : Ext w H w (upd H l (.lst xs)) := Ext.write hw
  refine ⟨by rw [List.length_set]; exact s.len, s.nd, fun a ha => ⟨upd_some (s.ap a ha).1, (s.ap a ha).2⟩, fun m c hc => ?_⟩
  by_cases e : m = n
  · subst e
    rw [List.getElem?_set_self hn] at hc
    cases hc
    exact ⟨l, xs, hw, upd_same, RpL.ext ex _ _ r⟩
  · rw [List.getElem?_set_ne (Ne.symm e)] at hc
    refine CellR.ext ex (fun a ha => ⟨ha, ?_⟩) id (s.cell m c hc)
    have : a ≠ l := fun z => by subst z; exact e (s.nd m n a ha hw)
    rw [upd_ne this]
theorem cellM_lt {n : Nat} {ds : List D} (h : cellM S n = some ds) : n < S.length := by
  unfold cellM at h
  split at h
  · rename_i e he; exact (List.getElem?_eq_some_iff.mp he).1
  · cases h
/-- a cell is written -/
theorem wrote [Wo] {n : Nat} {ds ds' : List D} {xs' : List V} {x : V} {Q : VK} {E : Value → Option Addr → Hp → Prop} {d : D} {v : V} (s : Sto K mg w S H) (r : Rp K mg w H (.loc n) x) (h : cellM S n = some ds) (r' : RpL K mg w H ds' xs') (rv : Rp K mg w H d v)
    (he : End K mg (fun w H => Rp K mg w H) w H (.ok d (S.set n (.lst ds'))) Q E) : ∀ l, x = .ref l → Q v (upd H l (.lst xs')) := fun l el => by
  obtain ⟨a, xs, h1, h2, h3⟩ := cellM_at s h
  have e := r.2 a h1
  rw [el] at e; cases e
  exact he w _ v (Ext.write h1) (s.write h1 (cellM_lt h) r') (Rp.ext (Ext.write h1) _ _ rv)
end
def MtV [Wo] (K : PySem.W.Frag) (mg : Str → Option Value) (r : V → List V → Hp → VK → Prop) (g : D → List D → Store → RE D) : Prop :=
  ∀ (w : Wd) (S : Store) (H : Hp) (x : V) (xs : List V) (d : D) (ds : List D) (Q : VK) (E : Value → Option Addr → Hp → Prop), Sto K mg w S H → Rp K mg w H d x → RpL K mg w H ds xs → End K mg (fun w H => Rp K mg w H) w H (g d ds S) Q E → r x xs H Q
def gAppend (x : D) (ds : List D) (S : Store) : RE D := match x, ds with
  | .loc n, [y] => (match cellM S n with
    | some xs => if xs.length < sizeLine then .ok .non (S.set n (.lst (xs ++ [y]))) else .no
    | none => .no)
  | _, _ => .no
def gExtend (x : D) (ds : List D) (S : Store) : RE D := match x, ds with
  | .loc n, [y] => (match cellM S n, seqM S y with
    | some xs, some ys => if xs.length + ys.length ≤ sizeLine then .ok .non (S.set n (.lst (xs ++ ys))) else .no
    | _, _ => .no)
  | _, _ => .no
def gPop0 (x : D) (ds : List D) (S : Store) : RE D := match x, ds with
  | .loc n, [] => (match cellM S n with
    | some xs => (match xs[xs.length - 1]? with
      | some y => .ok y (S.set n (.lst xs.dropLast))
      | none => .no)
    | none => .no)
  | _, _ => .no
section
variable {K : PySem.W.Frag} {mg : Str → Option Value}
theorem RpL.dropLast {w : Wd} {H : Hp} {ds : List D} {xs : List V} (r : RpL K mg w H ds xs) : RpL K mg w H ds.dropLast xs.dropLast := by
  rw [List.dropLast_eq_take, List.dropLast_eq_take, r.length]; exact r.take _
theorem RpL.reverse {w : Wd} {H : Hp} : ∀ {ds : List D} {xs : List V}, RpL K mg w H ds xs → RpL K mg w H ds.reverse xs.reverse
  | [], xs, h => by unfold RpL at h; rw [h]; exact RpL.nil
  | d :: ds, xs, h => by
    unfold RpL at h
    obtain ⟨v, r, e1, h1, h2⟩ := h
    rw [e1, List.reverse_cons, List.reverse_cons]
    exact (RpL.reverse h2).append (RpL.one h1)
theorem append_v [Wo] : MtV K mg rAppend gAppend := by
  intro w S H x xs d ds Q E s r1 r2 h
  unfold gAppend at h
  split at h
  · rename_i n y
    split at h
    · rename_i zs hz
      split at h
      · rename_i hl
        obtain ⟨v, rfl, r3⟩ := r2.one_inv
        obtain ⟨l, vs, e1, t1, q1⟩ := seqM_at (S := S) (d := .loc n) s r1 hz
        exact ⟨l, vs, v, e1, rfl, t1, by rw [← q1.length]; exact hl, wrote s r1 hz (q1.append (RpL.one r3)) rp_n h l e1⟩
      · exact h.elim
    · exact h.elim
  · exact h.elim
theorem extend_v [Wo] : MtV K mg rExtend gExtend := by
  intro w S H x xs d ds Q E s r1 r2 h
  unfold gExtend at h
  split at h
  · rename_i n y
    split at h
    · rename_i zs ys hz hy
      split at h
      · rename_i hl
        obtain ⟨v, rfl, r3⟩ := r2.one_inv
        obtain ⟨l, vs, e1, t1, q1⟩ := seqM_at (S := S) (d := .loc n) s r1 hz
        obtain ⟨b, us, e2, t2, q2⟩ := seqM_at s r3 hy
        exact ⟨l, b, vs, us, e1, by rw [e2], t1, t2, by rw [← q1.length, ← q2.length]; exact hl, wrote s r1 hz (q1.append q2) rp_n h l e1⟩
      · exact h.elim
    · exact h.elim
  · exact h.elim
theorem pop0_v [Wo] : MtV K mg rPop gPop0 := by
  intro w S H x xs d ds Q E s r1 r2 h
  unfold gPop0 at h
  split at h
  · rename_i n
    split at h
    · rename_i zs hz
      split at h
      · rename_i y hy
        obtain ⟨l, vs, e1, t1, q1⟩ := seqM_at (S := S) (d := .loc n) s r1 hz
        obtain ⟨u, h3, h4⟩ := q1.get hy
        unfold RpL at r2
        exact ⟨l, vs, u, e1, r2, t1, by rw [← q1.length]; exact h3, wrote s r1 hz q1.dropLast h4 h l e1⟩
      · exact h.elim
    · exact h.elim
  · exact h.elim
end
/-- o.m(..), o a list -/
def fMth (g : D → List D → Store → RE D) (o : FE) (a : FA) : FE := fun ρ S => (o ρ S).bnd fun x S1 => match seqL S1 x with
  | some _ => (a ρ S1).bnd fun ds S2 => g x ds S2
  | none => .no
section
variable {X : Cx} {W : WX} {o e : Expr} {es : List Expr} {fo : FE} {fs : FA} {name : Str} {apos cpos : Pos} {id : String} {r : V → List V → Hp → VK → Prop} {g : D → List D → Store → RE D}
theorem q_mth [Wo] (slot : Slot "list" name id) (hty : typeOf (.builtin id) = pure (.type "method_descriptor")) (hm : MtR X id r) (hv : MtV X.K X.mg r g) (ho : PE X o (tF X W fo)) (ha : PA X (e :: es) (tA X W fs))
    (hbase : attributeBase o name X.env (eval o X.env) = eval o X.env := by rfl)
    (hfew : ((backTo cpos (starEach (e :: es) X.env)).all (fun x => !x.1) && (backToKw cpos (keywordEach [] X.env)).all (fun x => x.1.isSome)
      && decide ((e :: es).length + ([] : List Keyword).length + (if ([] : List Keyword).isEmpty then 0 else 1) < 30)) = true := by rfl)
    (hline : (apos.endLine == cpos.line) = true := by rfl) (hs : starEach (e :: es) X.env = (false, eval e X.env) :: starEach es X.env := by rfl) (hplain : (backTo cpos (starEach es X.env)).any (·.1) = false := by rfl) :
    PE X (.Call (.Attribute o name apos) (e :: es) [] cpos) (tF X W (fMth g fo fs)) :=
  PE.wk (pe_bm PySem.F.plainAttrs_list slot hty hm ho ha hbase hfew hline hs hplain) fun σ H Q ⟨w, ρ, S, s, en, h⟩ => by
    refine ⟨w, ρ, S, s, en, (End.bind (R := fun w H => Rp X.K X.mg w H) h).imp ?_ (fun _ _ _ z => z)⟩
    rintro x H1 ⟨w1, S1, d, e1, s1, r1, h1⟩
    split at h1
    · rename_i ys hy
      obtain ⟨a, vs, e2, t2, q2⟩ := seqL_at s1 r1 hy
      refine ⟨by rw [e2]; exact .inl ⟨rfl, vs, t2⟩, w1, ρ, S1, s1, en.ext e1, (End.bind (R := fun w H => RpL X.K X.mg w H) h1).imp ?_ (fun _ _ _ z => z)⟩
      rintro us H2 ⟨w2, S2, ds, e3, s2, r2, h2⟩
      exact hv w2 S2 H2 x us d ds Q _ s2 (Rp.ext e3 _ _ r1) r2 h2
    · exact h1.elim
theorem q_mth0 [Wo] (slot : Slot "list" name id) (hty : typeOf (.builtin id) = pure (.type "method_descriptor")) (hm : MtR X id r) (hv : MtV X.K X.mg r g) (ho : PE X o (tF X W fo))
    (hbase : attributeBase o name X.env (eval o X.env) = eval o X.env := by rfl) (hline : (apos.endLine == cpos.line) = true := by rfl) :
    PE X (.Call (.Attribute o name apos) [] [] cpos) (tF X W (fMth g fo fNil)) :=
  PE.wk (pe_bm0 PySem.F.plainAttrs_list slot hty hm ho hbase hline) fun σ H Q ⟨w, ρ, S, s, en, h⟩ => by
    refine ⟨w, ρ, S, s, en, (End.bind (R := fun w H => Rp X.K X.mg w H) h).imp ?_ (fun _ _ _ z => z)⟩
    rintro x H1 ⟨w1, S1, d, e1, s1, r1, h1⟩
    split at h1
    · rename_i ys hy
      obtain ⟨a, vs, e2, t2, q2⟩ := seqL_at s1 r1 hy
      exact ⟨by rw [e2]; exact .inl ⟨rfl, vs, t2⟩, hv w1 S1 H1 x [] d [] Q _ s1 r1 RpL.nil h1⟩
    · exact h1.elim
end
end Kw
namespace Kw
open PySem PySem.Spec PyProof.Rows L2
abbrev FF := List D → Store → RE D
def spF [Wo] (K : PySem.W.Frag) (mg : Str → Option Value) (m : Nat) (f : FF) : Sp := fun vs H Q E => ∃ w S ds, Sto K mg w S H ∧ RpL K mg w H ds vs ∧ ds.length = m ∧ End K mg (fun w H => Rp K mg w H) w H (f ds S) Q E
/-- room, and nothing is being shown -/
structure RoomG (k : Nat) (A : Around) : Prop where
  rm : Room k A
  gd : A.guards = some []
theorem RoomG.down {k : Nat} {A : Around} (r : RoomG (k + 1) A) (env : Env) : RoomG k (A.deeper env) := ⟨r.rm.deeper env, r.gd⟩
/-- a def's promise where nothing is being shown -/
structure FnG (P : Program) (w : World) (K : PySem.W.Frag) (mg : Str → Option Value) (base : Heap) (k : Nat) (a : Addr) (fd : FuncData) (ps : List Str) (sp : Sp) : Prop where
  size : ∀ vs H Q E, sp vs H Q E → vs.length = ps.length
  runs : ∀ (A : Around) (stk : List Env) (s : Shared) (H : Hp) (ar : Args) (us : List Value) (vs : List V) (Q : VK) (E : XK), RoomG k A → Env0 P w K mg base A stk s H → BindsTo s fd ar (ps.zip us) → Vals vs us → sp vs H Q E →
    codeAny (model P w) A (.call (.ref a) ar) (CR (L2.CX P w) stk P w H s Q E) s
theorem FnG.weak {P : Program} {w : World} {K : PySem.W.Frag} {mg : Str → Option Value} {base : Heap} {k : Nat} {a : Addr} {fd : FuncData} {ps : List Str} {sp sp' : Sp} (F : FnG P w K mg base k a fd ps sp) (h : ∀ vs H Q E, sp' vs H Q E → sp vs H Q E) : FnG P w K mg base k a fd ps sp' :=
  ⟨fun vs H Q E q => F.size vs H Q E (h _ _ _ _ q), fun A stk s H ar us vs Q E hr e0 hb hv hs => F.runs A stk s H ar us vs Q E hr e0 hb hv (h _ _ _ _ hs)⟩
/-- the name x stands for a def that computes f -/
def Cal [Wo] (P : Program) (w : World) (K : PySem.W.Frag) (mg : Str → Option Value) (base : Heap) (k : Nat) (x : Str) (f : FF) : Prop :=
  ∃ a fd ps, FnG P w K mg base k a fd ps (spF K mg ps.length f) ∧ mg x = some (.ref a) ∧ PySem.W.keepIn K (.ref a) = true ∧ Binds K fd ps [] ∧ (∀ ds S, ds.length ≠ ps.length → f ds S = .no) ∧ ps = fd.params.args.map (·.arg) ∧ ∃ oc od osl, K.lookup a = some ⟨oc, od, .func fd, osl⟩
section
variable {X : Cx} {W : WX} {e : Expr} {es : List Expr} {fs : FA} {pos : Pos} {k : Nat} {x : Str} {f : FF} {p : Pos}
theorem run_g {a : Addr} {fd : FuncData} {ps : List Str} {sp : Sp} {pins : List (Addr × Obj)} {σ : L2.St} {H : Hp} {s : Shared} {Q : VK} {us : List Value} {vs : List V} (F : FnG X.prog X.w X.K X.mg X.base k a fd ps sp) (hr : RoomG k X.A) (tk : Takes X W)
    (I : Inv X pins σ H s) (r : Vals vs us) (hbd : BindsTo s fd ⟨us, []⟩ (ps.zip us)) (h : sp vs H Q (WE W σ)) : wpAny (model X.prog X.w) X.A (call (.ref a) us) (EP X pins σ Q) X.xe s :=
  wpAny_call (codeAny_mono (F.runs X.A X.stack s H ⟨us, []⟩ us vs Q (WE W σ) hr I.env0 hbd r h) fun res s' hq => by
    match res, hq with
    | .error e, hq => exact passAt tk σ pins H s e s' I hq
    | .ok (.ret u), hq => exact I.after hq
    | .ok .next, hq => exact hq.elim
    | .ok .brk, hq => exact hq.elim
    | .ok .cont, hq => exact hq.elim)
theorem binds0 {K : PySem.W.Frag} {fd : FuncData} {ps : List Str} (hb : Binds K fd ps []) {s : Shared} {us : List Value} (kin : K.In s.heap) (hl : us.length = ps.length) : BindsTo s fd ⟨us, []⟩ (ps.zip us) := by
  have z := hb s us kin (by simpa using hl)
  simpa using z
theorem q_call [Wo] (C : Cal X.prog X.w X.K X.mg X.base k x f) (hr : RoomG k X.A) (tk : Takes X W) (hg : Gl X x) (ha : PA X (e :: es) (tA X W fs)) (hdb : (x == ("__debug__" : Str)) = false := by decide)
    (he : starEach (e :: es) X.env = (false, eval e X.env) :: starEach es X.env := by rfl) (hpl : (backTo pos (starEach es X.env)).any (·.1) = false := by rfl) : PE X (.Call (.Name x p) (e :: es) [] pos) (tF X W (fArg f fs)) := by
  obtain ⟨a, fd, ps, F, hm, hk, hb, ar, _⟩ := C
  refine ⟨fun pins s σ H Q I ⟨w, ρ, S, s0, en, h⟩ => wpAny_Call_Name_kw (ld_glob I hg hm ?_ hdb)⟩
  refine PySem.W.callWith_K (h₀ := X.base) I.ok.mod.kin hk (thn (ha.run pos pins s σ H (fun vs H1 => spF X.K X.mg ps.length f vs H1 Q (WE W σ)) I
    ⟨w, ρ, S, s0, en, (End.bind (R := fun w H => RpL X.K X.mg w H) h).imp ?_ (fun _ _ _ z => z)⟩) fun us s1 ⟨vs, H1, I1, r, q⟩ => ⟨I1.kIn, run_g (us := us) F hr tk I1 r (binds0 (us := us) hb I1.kIn (by rw [← r.length]; exact F.size _ _ _ _ q)) q⟩) he hpl
  rintro vs H1 ⟨w1, S1, ds, e1, s1, r1, h1⟩
  refine ⟨w1, S1, ds, s1, r1, ?_, h1⟩
  apply Classical.byContradiction
  intro hn
  rw [ar ds S1 hn] at h1
  exact h1
end
inductive RS where
  | nx (ρ : FEnv) (S : Store) | rt (d : D) (S : Store) | bk (ρ : FEnv) (S : Store) | ct (ρ : FEnv) (S : Store) | ex (x : Ex) (ρ : FEnv) (S : Store) | no
abbrev FS := FEnv → Store → RS
def RE.toS {α : Type} (m : RE α) (ρ : FEnv) (k : α → Store → RS) : RS := match m with
  | .ok a S => k a S
  | .ex x S => .ex x ρ S
  | .no => .no
def RS.bnd (m : RS) (k : FS) : RS := match m with
  | .nx ρ S => k ρ S
  | r => r
def EndS [Wo] (K : PySem.W.Frag) (mg : Str → Option Value) (w : Wd) (H : Hp) (r : RS) (D : Ends) (W : WX) : Prop := match r with
  | .nx ρ S => ∀ w' H' σ', Ext w H w' H' → Sto K mg w' S H' → EnvR K mg w' H' ρ σ' → D.nx σ' H'
  | .rt d S => ∀ w' H' v, Ext w H w' H' → Sto K mg w' S H' → Rp K mg w' H' d v → D.rt v H'
  | .bk ρ S => ∀ w' H' σ', Ext w H w' H' → Sto K mg w' S H' → EnvR K mg w' H' ρ σ' → D.bk σ' H'
  | .ct ρ S => ∀ w' H' σ', Ext w H w' H' → Sto K mg w' S H' → EnvR K mg w' H' ρ σ' → D.ct σ' H'
  | .ex x ρ S => ∀ w' H' σ' c od, Ext w H w' H' → Sto K mg w' S H' → EnvR K mg w' H' ρ σ' → ExR K mg w' H' x c od → W c od σ' H'
  | .no => False
def tS [Wo] (X : Cx) (W : WX) (f : FS) : TS := fun D σ H => ∃ w ρ S, Sto X.K X.mg w S H ∧ EnvR X.K X.mg w H ρ σ ∧ EndS X.K X.mg w H (f ρ S) D W
section
variable {K : PySem.W.Frag} {mg : Str → Option Value} {w w1 : Wd} {H H1 : Hp} {r : RS} {D D' : Ends} {W W' : WX} {ρ : FEnv} {σ : L2.St} {S : Store}
theorem EndS.on [Wo] (x : Ext w H w1 H1) (h : EndS K mg w H r D W) : EndS K mg w1 H1 r D W := by
  unfold EndS at h ⊢
  split
  · exact fun w' H' b e s k => h w' H' b (x.trans e) s k
  · exact fun w' H' b e s k => h w' H' b (x.trans e) s k
  · exact fun w' H' b e s k => h w' H' b (x.trans e) s k
  · exact fun w' H' b e s k => h w' H' b (x.trans e) s k
  · exact fun w' H' b c od e s k l => h w' H' b c od (x.trans e) s k l
  · exact h
theorem EndS.imp [Wo] (h : EndS K mg w H r D W) (h1 : ∀ σ H, D.nx σ H → D'.nx σ H) (h2 : ∀ v H, D.rt v H → D'.rt v H) (h3 : ∀ σ H, D.bk σ H → D'.bk σ H) (h4 : ∀ σ H, D.ct σ H → D'.ct σ H) (h5 : ∀ c od σ H, W c od σ H → W' c od σ H) : EndS K mg w H r D' W' := by
  unfold EndS at h ⊢
  split
  · exact fun w' H' b e s k => h1 _ _ (h w' H' b e s k)
  · exact fun w' H' b e s k => h2 _ _ (h w' H' b e s k)
  · exact fun w' H' b e s k => h3 _ _ (h w' H' b e s k)
  · exact fun w' H' b e s k => h4 _ _ (h w' H' b e s k)
  · exact fun w' H' b c od e s k l => h5 _ _ _ _ (h w' H' b c od e s k l)
  · exact h
theorem EndS.of [Wo] {α β : Type} {R : Wd → Hp → α → β → Prop} {m : RE α} {k : α → Store → RS} (h : EndS K mg w H (m.toS ρ k) D W) (en : EnvR K mg w H ρ σ) :
    End K mg R w H m (fun b H1 => ∃ w1 S1 a, Ext w H w1 H1 ∧ Sto K mg w1 S1 H1 ∧ R w1 H1 a b ∧ EndS K mg w1 H1 (k a S1) D W) (fun c od H' => W c od σ H') := by
  cases m with
  | ok a S1 =>
    have h' : EndS K mg w H (k a S1) D W := h
    exact fun w' H' b e s kk => ⟨w', S1, a, e, s, kk, h'.on e⟩
  | ex x S1 => exact fun w' H' c od e s kk => h w' H' σ c od e s (en.ext e) kk
  | no => exact h
theorem EndS.bind [Wo] {k : FS} (h : EndS K mg w H (r.bnd k) D W) : EndS K mg w H r { D with nx := fun σ H1 => ∃ w1 ρ1 S1, Sto K mg w1 S1 H1 ∧ EnvR K mg w1 H1 ρ1 σ ∧ EndS K mg w1 H1 (k ρ1 S1) D W } W := by
  cases r with
  | nx ρ1 S1 =>
    have h' : EndS K mg w H (k ρ1 S1) D W := h
    exact fun w' H' b e s kk => ⟨w', ρ1, S1, s, kk, h'.on e⟩
  | _ => exact h
theorem EnvR.set {i : Nat} {d : Kw.D} {v : V} (en : EnvR K mg w H ρ σ) (r : Rp K mg w H d v) : EnvR K mg w H (ρ.set i (some d)) (σ.set i (some v)) := by
  refine ⟨by rw [List.length_set, List.length_set]; exact en.len, fun j d' h => ?_⟩
  by_cases e : j = i
  · subst e
    have hj : j < ρ.length := by
      have := (List.getElem?_eq_some_iff.mp h).1
      rwa [List.length_set] at this
    rw [List.getElem?_set_self hj] at h
    cases h
    exact ⟨v, by rw [List.getElem?_set_self (en.len ▸ hj)], r⟩
  · rw [List.getElem?_set_ne (Ne.symm e)] at h
    obtain ⟨u, h1, h2⟩ := en.at_ j d' h
    exact ⟨u, by rw [List.getElem?_set_ne (Ne.symm e)]; exact h1, h2⟩
theorem EnvR.wipe1 {i : Nat} (en : EnvR K mg w H ρ σ) : EnvR K mg w H (ρ.set i none) (σ.set i none) := by
  refine ⟨by rw [List.length_set, List.length_set]; exact en.len, fun j d' h => ?_⟩
  by_cases e : j = i
  · subst e
    have hj : j < ρ.length := by
      have := (List.getElem?_eq_some_iff.mp h).1
      rwa [List.length_set] at this
    rw [List.getElem?_set_self hj] at h
    cases h
  · rw [List.getElem?_set_ne (Ne.symm e)] at h
    obtain ⟨u, h1, h2⟩ := en.at_ j d' h
    exact ⟨u, by rw [List.getElem?_set_ne (Ne.symm e)]; exact h1, h2⟩
theorem EndS.nx' [Wo] {ρ' : FEnv} {σ' : L2.St} (h : EndS K mg w H (.nx ρ' S) D W) (s : Sto K mg w S H) (en : EnvR K mg w H ρ' σ') : D.nx σ' H := h w H σ' Ext.refl s en
theorem EndS.rt' [Wo] {d : Kw.D} {v : V} (h : EndS K mg w H (.rt d S) D W) (s : Sto K mg w S H) (r : Rp K mg w H d v) : D.rt v H := h w H v Ext.refl s r
end
def sNil : FS := fun ρ S => .nx ρ S
def sSeq (f g : FS) : FS := fun ρ S => (f ρ S).bnd g
def sExp (f : FE) : FS := fun ρ S => (f ρ S).toS ρ fun _ S1 => .nx ρ S1
def sRet (f : FE) : FS := fun ρ S => (f ρ S).toS ρ fun d S1 => .rt d S1
def sRetN : FS := fun _ S => .rt .non S
def sSet (i : Nat) (f : FE) : FS := fun ρ S => (f ρ S).toS ρ fun d S1 => .nx (ρ.set i (some d)) S1
def sIf (c : FT) (a b : FS) : FS := fun ρ S => (c ρ S).toS ρ fun k S1 => match k with
  | true => a ρ S1
  | false => b ρ S1
section
variable {X : Cx} {W : WX} {st : Stmt} {rest : List Stmt} {f g : FS} {e : Expr} {fe : FE} {pos : Pos}
theorem q_snil [Wo] : PSs X [] (tS X W sNil) := PSs.wk pss_nil fun D σ H ⟨w, ρ, S, s, en, h⟩ => h.nx' s en
theorem q_seq [Wo] (h1 : PS X st (tS X W f)) (h2 : PSs X rest (tS X W g)) : PSs X (st :: rest) (tS X W (sSeq f g)) :=
  PSs.wk (pss_cons h1 h2) fun D σ H ⟨w, ρ, S, s, en, h⟩ => ⟨w, ρ, S, s, en, h.bind⟩
theorem q_last [Wo] (h1 : PS X st (tS X W f)) : PSs X [st] (tS X W f) := pss_one h1
theorem q_expr [Wo] (he : PE X e (tF X W fe)) (hs : swapsWith e none pos.line X.env = pure false := by rfl) : PS X (.Expr e pos) (tS X W (sExp fe)) :=
  PS.wk (ps_expr he hs) fun D σ H ⟨w, ρ, S, s, en, h⟩ => ⟨w, ρ, S, s, en, (h.of (R := fun w H => Rp X.K X.mg w H) en).imp (fun v H1 ⟨w1, S1, d, e1, s1, r1, h1⟩ => h1.nx' s1 (en.ext e1)) (fun _ _ _ z => z)⟩
theorem q_ret [Wo] (he : PE X e (tF X W fe)) : PS X (.Return (some e) pos) (tS X W (sRet fe)) :=
  PS.wk (ps_ret he) fun D σ H ⟨w, ρ, S, s, en, h⟩ => ⟨w, ρ, S, s, en, (h.of (R := fun w H => Rp X.K X.mg w H) en).imp (fun v H1 ⟨w1, S1, d, e1, s1, r1, h1⟩ => h1.rt' s1 r1) (fun _ _ _ z => z)⟩
theorem q_set [Wo] {i : Nat} {x : Str} {pos' : Pos} (hN : X.N.Nodup) (hi : X.N[i]? = some x) (hx : Loc X.env.scope x) (he : PE X e (tF X W fe)) (hs : swapsWith e (some (.Name x pos')) pos.line X.env = pure false := by rfl) (hf : X.fn x = true ∨ X.env.scope.names.lookup x = some .local := by first | exact .inl rfl | exact .inr rfl | assumption) :
    PS X (.Assign [.Name x pos'] e pos) (tS X W (sSet i fe)) :=
  PS.wk (ps_set hN hi hx he hs hf) fun D σ H ⟨w, ρ, S, s, en, h⟩ => ⟨w, ρ, S, s, en, (h.of (R := fun w H => Rp X.K X.mg w H) en).imp (fun v H1 ⟨w1, S1, d, e1, s1, r1, h1⟩ => h1.nx' s1 ((en.ext e1).set r1)) (fun _ _ _ z => z)⟩
theorem q_ifS [Wo] {c : Expr} {a b : List Stmt} {tc : FT} (hc : PT X c (tT X W tc)) (ha : PSs X a (tS X W f)) (hb : PSs X b (tS X W g)) : PS X (.If c a b pos) (tS X W (sIf tc f g)) :=
  PS.wk (ps_if hc ha hb) fun D σ H ⟨w, ρ, S, s, en, h⟩ => ⟨w, ρ, S, s, en, (h.of (R := fun _ _ (a b : Bool) => b = a) en).imp (fun v H1 ⟨w1, S1, d, e1, s1, r1, h1⟩ => by
    cases r1
    cases v with
    | true => rw [if_pos rfl]; exact ⟨w1, ρ, S1, s1, en.ext e1, h1⟩
    | false => rw [if_neg (by decide)]; exact ⟨w1, ρ, S1, s1, en.ext e1, h1⟩) (fun _ _ _ z => z)⟩
end
/-- name op= e: two whole numbers -/
def sAug (i : Nat) (g : D → D → Store → RE D) (f : FE) : FS := fun ρ S => match ρ[i]? with
  | some (some x) => (f ρ S).toS ρ fun y S1 => (g x y S1).toS ρ fun z S2 => .nx (ρ.set i (some z)) S2
  | _ => .no
def gIAdd (x y : D) (S : Store) : RE D := match x, y with
  | .int i, .int j => .ok (.int (i + j)) S
  | _, _ => .no
mutual
/-- no cell from n on is in it -/
def D.under (n : Nat) : D → Bool
  | .tup ds => underL n ds
  | .lst ds => underL n ds
  | .fls ds => underL n ds
  | .dic _ ds => underL n ds
  | .ins _ _ ds => underL n ds
  | .exo _ _ ds => underL n ds
  | .loc m => decide (m < n)
  | _ => true
def underL (n : Nat) : List D → Bool
  | [] => true
  | d :: ds => D.under n d && underL n ds
end
def Cell.under (n : Nat) : Cell → Bool
  | .lst ds => underL n ds
  | .frz ds => underL n ds
  | .dead => true
  | .tab _ => true
  | .sys => true
  | .gst ρ _ => ρ.all fun o => match o with
    | some d => d.under n
    | none => true
  | .ob _ _ ds => underL n ds
  | .dct _ ds => underL n ds
mutual
theorem keyOf_under {n : Nat} : ∀ (d : D) {k : NestedKey}, keyOf d = some k → D.under n d = true
  | .non, _, _ => rfl
  | .bl _, _, h => by simp [keyOf] at h
  | .int _, _, _ => rfl
  | .str _, _, _ => rfl
  | .tup ds, k, h => by
    simp only [keyOf, Option.map_eq_some_iff] at h
    obtain ⟨ks, h1, _⟩ := h
    simpa [D.under] using keysOf_under ds h1
  | .lst _, _, h => by simp [keyOf] at h
  | .dic _ _, _, h => by simp [keyOf] at h
  | .ins _ _ _, _, h => by simp [keyOf] at h
  | .loc _, _, h => by simp [keyOf] at h
  | .glo _, _, _ => rfl
  | .fls _, _, h => by simp [keyOf] at h
  | .exn _, _, _ => rfl
  | .exo _ _ _, _, h => by simp [keyOf] at h
  | .lam _ _ _, _, _ => rfl
theorem keysOf_under {n : Nat} : ∀ (ds : List D) {ks : List NestedKey}, keysOf ds = some ks → underL n ds = true
  | [], _, _ => rfl
  | d :: ds, ks, h => by
    simp only [keysOf] at h
    split at h
    · rename_i k r h1 h2
      simp [underL, keyOf_under d h1, keysOf_under ds h2]
    · cases h
end
/-- the cells ahead of S's end are as they were, or have nothing that was made since -/
def CutOk (S S' : Store) : Prop := S.length ≤ S'.length ∧ ∀ (i : Nat) c, i < S.length → S'[i]? = some c → S[i]? = some c ∨ c.under S.length = true
open Classical in
noncomputable def cutR (S : Store) (r : RE D) : RE D := match r with
  | .ok d S' => if d.under S.length = true ∧ CutOk S S' then .ok d (S'.take S.length) else .no
  | .ex x S' => if underL S.length x.ds = true ∧ CutOk S S' then .ex x (S'.take S.length) else .no
  | .no => .no
def RS.fin (r : RS) : RE D := match r with
  | .nx _ S => .ok .non S
  | .rt d S => .ok d S
  | .ex x _ S => .ex x S
  | _ => .no
/-- a def with m parameters, n names -/
def fnB (m n : Nat) (b : FS) : FF := fun ds S => if ds.length = m then (b (ds.map some ++ List.replicate (n - m) none) S).fin else .no
/-- .. that throws its cells away -/
noncomputable def fnC (m n : Nat) (b : FS) : FF := fun ds S => cutR S (fnB m n b ds S)
section
variable {K : PySem.W.Frag} {mg : Str → Option Value} {w : Wd} {H : Hp} {S S' : Store}
theorem getElem?_of_take {α : Type} {l : List α} {n m : Nat} {x : α} (h : (l.take n)[m]? = some x) : l[m]? = some x ∧ m < n := by
  by_cases e : m < n
  · rw [List.getElem?_take_of_lt e] at h; exact ⟨h, e⟩
  · rw [List.getElem?_eq_none (by rw [List.length_take]; omega)] at h; exact (nomatch h)
def Wd.cut (w : Wd) (n : Nat) : Wd := ⟨w.φ.take n, w.hd⟩
theorem Wd.off_cut {n : Nat} {a : Addr} (h : w.Off a) : (w.cut n).Off a := ⟨fun z => h.1 (List.mem_of_mem_take z), h.2⟩
theorem Tp.cut {n : Nat} {a : Addr} {xs : List V} (h : Tp K w H a xs) : Tp K (w.cut n) H a xs := by
  rcases h with ⟨h, k⟩ | h
  · exact .inl ⟨h, Wd.off_cut k⟩
  · exact .inr h
theorem Fp.cut {n : Nat} {a : Addr} {xs : List V} (h : Fp K w H a xs) : Fp K (w.cut n) H a xs := by
  rcases h with ⟨o, h, k⟩ | h
  · exact .inl ⟨o, h, Wd.off_cut k⟩
  · exact .inr h
mutual
theorem Rp.cut {n : Nat} (hn : n ≤ w.φ.length) : ∀ (d : D) (v : V), d.under n = true → Rp K mg w H d v → Rp K mg (w.cut n) H d v
  | .non, _, _, h => by unfold Rp at h ⊢; exact h
  | .bl _, _, _, h => by unfold Rp at h ⊢; exact h
  | .int _, _, _, h => by unfold Rp at h ⊢; exact h
  | .str _, _, _, h => by unfold Rp at h ⊢; exact h
  | .tup ds, v, b, h => by
    unfold Rp at h ⊢
    obtain ⟨a, xs, e1, t, r⟩ := h
    exact ⟨a, xs, e1, t.cut, RpL.cutW hn ds xs (by simpa [D.under] using b) r⟩
  | .lst ds, v, b, h => by
    unfold Rp at h ⊢
    obtain ⟨a, xs, e1, t, o, r⟩ := h
    exact ⟨a, xs, e1, t, Wd.off_cut o, RpL.cutW hn ds xs (by simpa [D.under] using b) r⟩
  | .dic ks ds, v, b, h => by
    unfold Rp at h ⊢
    obtain ⟨a, vs, e1, t, o, l, r⟩ := h
    exact ⟨a, vs, e1, t, Wd.off_cut o, l, RpL.cutW hn ds vs (by simpa [D.under] using b) r⟩
  | .ins c fs ds, v, b, h => by
    unfold Rp at h ⊢
    obtain ⟨a, C, dx, vs, e1, m, t, o, l, r⟩ := h
    exact ⟨a, C, dx, vs, e1, m, t, Wd.off_cut o, l, RpL.cutW hn ds vs (by simpa [D.under] using b) r⟩
  | .loc m, v, b, h => by
    have hm : m < n := by simpa [D.under] using b
    unfold Rp at h ⊢
    refine ⟨?_, fun a q => h.2 a ?_⟩
    · show m < (w.φ.take n).length
      rw [List.length_take]; omega
    · have q' : (w.φ.take n)[m]? = some (some a) := q
      exact (getElem?_of_take q').1
  | .glo _, _, _, h => by unfold Rp at h ⊢; exact h
  | .exn _, _, _, h => by unfold Rp at h ⊢; exact h
  | .lam i q ob, v, b, h => by
    unfold Rp at h ⊢
    obtain ⟨f, c', pm, ctv, e1, t, o, t2, o2⟩ := h
    exact ⟨f, c', pm, ctv, e1, t, Wd.off_cut o, t2, Wd.off_cut o2⟩
  | .exo c ns ds, v, b, h => by
    unfold Rp at h ⊢
    obtain ⟨a, C, od, vs, e1, m, t, o, z, q, l, r⟩ := h
    exact ⟨a, C, od, vs, e1, m, t, Wd.off_cut o, z, fun d hd => ⟨(q d hd).1, Wd.off_cut (q d hd).2⟩, l, RpL.cutW hn ds vs (by simpa [D.under] using b) r⟩
  | .fls ds, v, b, h => by
    unfold Rp at h ⊢
    obtain ⟨a, xs, e1, t, r⟩ := h
    exact ⟨a, xs, e1, t.cut, RpL.cutW hn ds xs (by simpa [D.under] using b) r⟩
theorem RpL.cutW {n : Nat} (hn : n ≤ w.φ.length) : ∀ (ds : List D) (vs : List V), underL n ds = true → RpL K mg w H ds vs → RpL K mg (w.cut n) H ds vs
  | [], _, _, h => by unfold RpL at h ⊢; exact h
  | d :: ds, vs, b, h => by
    have b' : d.under n = true ∧ underL n ds = true := by simpa [underL] using b
    unfold RpL at h ⊢
    obtain ⟨v, r, e1, h1, h2⟩ := h
    exact ⟨v, r, e1, Rp.cut hn d v b'.1 h1, RpL.cutW hn ds r b'.2 h2⟩
end
mutual
theorem Rp.isUnder : ∀ (d : D) (v : V), Rp K mg w H d v → d.under w.φ.length = true
  | .non, _, h => rfl
  | .bl _, _, h => rfl
  | .int _, _, h => rfl
  | .str _, _, h => rfl
  | .tup ds, v, h => by
    unfold Rp at h
    obtain ⟨a, xs, e1, t, r⟩ := h
    simpa [D.under] using RpL.isUnder ds xs r
  | .lst ds, v, h => by
    unfold Rp at h
    obtain ⟨a, xs, e1, t, o, r⟩ := h
    simpa [D.under] using RpL.isUnder ds xs r
  | .dic ks ds, v, h => by
    unfold Rp at h
    obtain ⟨a, vs, e1, t, o, l, r⟩ := h
    simpa [D.under] using RpL.isUnder ds vs r
  | .ins c fs ds, v, h => by
    unfold Rp at h
    obtain ⟨a, C, dx, vs, e1, m, t, o, l, r⟩ := h
    simpa [D.under] using RpL.isUnder ds vs r
  | .loc m, v, h => by
    unfold Rp at h
    simpa [D.under] using h.1
  | .glo _, _, h => rfl
  | .exn _, _, h => rfl
  | .lam _ _ _, _, h => rfl
  | .exo c ns ds, v, h => by
    unfold Rp at h
    obtain ⟨a, C, od, vs, e1, m, t, o, z, q, l, r⟩ := h
    simpa [D.under] using RpL.isUnder ds vs r
  | .fls ds, v, h => by
    unfold Rp at h
    obtain ⟨a, xs, e1, t, r⟩ := h
    simpa [D.under] using RpL.isUnder ds xs r
theorem RpL.isUnder : ∀ (ds : List D) (vs : List V), RpL K mg w H ds vs → underL w.φ.length ds = true
  | [], _, h => rfl
  | d :: ds, vs, h => by
    unfold RpL at h
    obtain ⟨v, r, e1, h1, h2⟩ := h
    simp [underL, Rp.isUnder d v h1, RpL.isUnder ds r h2]
end
theorem CellR.isUnder [Wo] {c : Cell} {n : Nat} (h : CellR K mg w H c n) : c.under w.φ.length = true := by
  unfold CellR at h
  split at h
  · obtain ⟨_, _, _, _, h⟩ := h; exact RpL.isUnder _ _ h
  · obtain ⟨_, _, _, _, _, h⟩ := h; exact RpL.isUnder _ _ h
  · rfl
  · rfl
  · rfl
  · rename_i ρ σ
    show (ρ.all fun o => match o with
      | some d => D.under w.φ.length d
      | none => true) = true
    rw [List.all_eq_true]
    intro o ho
    cases o with
    | none => rfl
    | some d =>
      obtain ⟨i, hi, e⟩ := List.mem_iff_getElem.mp ho
      obtain ⟨v, _, r⟩ := h.2.at_ i d (by rw [List.getElem?_eq_getElem hi, e])
      exact Rp.isUnder _ _ r
  · obtain ⟨_, _, _, _, _, _, _, _, h⟩ := h; exact RpL.isUnder _ _ h
  · obtain ⟨_, _, _, _, _, _, _, h⟩ := h; exact RpL.isUnder _ _ h
theorem CellR.cut [Wo] {c : Cell} {m n : Nat} (hn : n ≤ w.φ.length) (hm : m < n) (b : c.under n = true) (h : CellR K mg w H c m) : CellR K mg (w.cut n) H c m := by
  have g : (w.cut n).φ[m]? = w.φ[m]? := by
    show (w.φ.take n)[m]? = _
    rw [List.getElem?_take, if_pos hm]
  unfold CellR at h ⊢
  split at h
  · obtain ⟨a, xs, h1, h2, h3⟩ := h; exact ⟨a, xs, by rw [g]; exact h1, h2, RpL.cutW hn _ _ (by simpa [Cell.under] using b) h3⟩
  · obtain ⟨a, xs, o, h1, h2, h3⟩ := h; exact ⟨a, xs, o, by rw [g]; exact h1, h2, RpL.cutW hn _ _ (by simpa [Cell.under] using b) h3⟩
  · show _ = _; rw [g]; exact h
  · obtain ⟨c0, P, ht, h1, ps, h2, h3, h4⟩ := h
    refine ⟨c0, P, ht, by rw [g]; exact h1, ps, h2, h3, fun pos cv hc => ?_⟩
    obtain ⟨c, e1, e2, e3⟩ := h4 pos cv hc
    exact ⟨c, e1, e2, fun z => e3.1 (List.mem_of_mem_take z), e3.2⟩
  · exact ⟨by rw [g]; exact h.1, h.2.1, fun z => h.2.2.1 (List.mem_of_mem_take z), h.2.2.2⟩
  · refine ⟨by rw [g]; exact h.1, h.2.len, fun i d q => ?_⟩
    obtain ⟨v, h1, h2⟩ := h.2.at_ i d q
    have b' := List.all_eq_true.mp b (some d) (List.mem_of_getElem? q)
    exact ⟨v, h1, Rp.cut hn _ _ b' h2⟩
  · obtain ⟨a, C, dx, vs, h1, h2, h3, h4, h5⟩ := h; exact ⟨a, C, dx, vs, by rw [g]; exact h1, h2, h3, h4, RpL.cutW hn _ _ (by simpa [Cell.under] using b) h5⟩
  · obtain ⟨a, es, h1, h2, h3, h4, h5, h6⟩ := h
    exact ⟨a, es, by rw [g]; exact h1, h2, h3, h4, fun x hx => ⟨(h5 x hx).1, let ⟨d, q1, q2⟩ := (h5 x hx).2; ⟨d, q1, Rp.cut hn _ _ (keyOf_under d q1) q2⟩⟩, RpL.cutW hn _ _ (by simpa [Cell.under] using b) h6⟩
theorem Sto.cut [Wo] {w0 : Wd} {H0 : Hp} (s0 : Sto K mg w0 S H0) (s : Sto K mg w S' H) (h : CutOk S S') : Sto K mg (w.cut S.length) (S'.take S.length) H := by
  have hl : S.length ≤ w.φ.length := by rw [s.len]; exact h.1
  refine ⟨by show (w.φ.take _).length = _; rw [List.length_take, List.length_take, s.len], fun m n a h1 h2 => ?_, fun a ha => ⟨(s.ap a ha).1, fun z => (s.ap a ha).2 (List.mem_of_mem_take z)⟩, fun n c hc => ?_⟩
  · have k : ∀ m : Nat, (w.φ.take S.length)[m]? = some (some a) → w.φ[m]? = some (some a) := fun m q => by
      rw [List.getElem?_take] at q
      split at q
      · exact q
      · cases q
    exact s.nd m n a (k m h1) (k n h2)
  · rw [List.getElem?_take] at hc
    split at hc
    · rename_i hn
      have c0 := s.cell n c hc
      refine CellR.cut hl hn ?_ c0
      rcases h.2 n c hn hc with z | z
      · have := (s0.cell n c z).isUnder
        rw [s0.len] at this; exact this
      · exact z
    · cases hc
theorem Ext.cut {w0 : Wd} {H0 : Hp} (e : Ext w0 H0 w H) : Ext w0 H0 (w.cut w0.φ.length) H where
  fr := e.fr
  ln := by show _ ≤ (w.φ.take _).length; rw [List.length_take]; have := e.ln; omega
  ph := fun n a h l => by
    have q : (w.φ.take w0.φ.length)[n]? = some (some a) := h
    exact e.ph n a (getElem?_of_take q).1 l
  nw := fun a h => e.nw a (List.mem_of_mem_take h)
  hd := e.hd
theorem ExR.cutX {n : Nat} {x : Ex} {c : Value} {od : Option Addr} (hn : n ≤ w.φ.length) (b : underL n x.ds = true) (h : ExR K mg w H x c od) : ExR K mg (w.cut n) H x c od := by
  obtain ⟨h1, h2⟩ := h
  refine ⟨h1, ?_⟩
  rcases h2 with h2 | ⟨d, vs, a0, a1, a2, a3, a4, a5⟩
  · exact .inl h2
  · exact .inr ⟨d, vs, a0, a1, a2, Wd.off_cut a3, a4, RpL.cutW hn _ _ b a5⟩
/-- the cells that were made since are thrown away -/
theorem End.cutE [Wo] {Q : VK} {E : Value → Option Addr → Hp → Prop} {r : RE D} (s : Sto K mg w S H) (h : End K mg (fun w H => Rp K mg w H) w H (cutR S r) Q E) : End K mg (fun w H => Rp K mg w H) w H r Q E := by
  cases r with
  | ok d S' =>
    have h' : End K mg (fun w H => Rp K mg w H) w H (cutR S (.ok d S')) Q E := h
    unfold cutR at h'
    simp only at h'
    split at h'
    · rename_i hc
      intro w1 H1 v e s1 r1
      have hl : S.length ≤ w1.φ.length := by rw [s1.len]; exact hc.2.1
      refine h' (w1.cut S.length) H1 v (s.len ▸ e.cut) (Sto.cut s s1 hc.2) (Rp.cut hl d v hc.1 r1)
    · exact h'.elim
  | ex x S' =>
    have h' : End K mg (fun w H => Rp K mg w H) w H (cutR S (.ex x S')) Q E := h
    unfold cutR at h'
    simp only at h'
    split at h'
    · rename_i hc
      intro w1 H1 c od e s1 r1
      have hl : S.length ≤ w1.φ.length := by rw [s1.len]; exact hc.2.1
      refine h' (w1.cut S.length) H1 c od (s.len ▸ e.cut) (Sto.cut s s1 hc.2) (ExR.cutX hl hc.1 r1)
    · exact h'.elim
  | no => exact h
end
theorem envStart {K : PySem.W.Frag} {mg : Str → Option Value} {w : Wd} {H : Hp} {ds : List D} {vs : List V} {N : List Str} (r : RpL K mg w H ds vs) : EnvR K mg w H (ds.map some ++ List.replicate (N.length - ds.length) none) (L2.start N vs) := by
  unfold L2.start
  refine ⟨by simp [r.length], fun i d h => ?_⟩
  by_cases hi : i < ds.length
  · rw [List.getElem?_append_left (by rw [List.length_map]; exact hi), List.getElem?_map] at h
    cases e : ds[i]? with
    | none => rw [e] at h; cases h
    | some d' =>
      rw [e] at h
      have ed : d' = d := by simpa using h
      subst ed
      obtain ⟨v, h1, h2⟩ := r.get e
      refine ⟨v, ?_, h2⟩
      rw [List.getElem?_append_left (by rw [List.length_map, ← r.length]; exact hi), List.getElem?_map, h1]
      rfl
  · rw [List.getElem?_append_right (by rw [List.length_map]; omega)] at h
    have := List.mem_of_getElem? h
    have := List.eq_of_mem_replicate this
    cases this
section
variable {P : Program} {w : World} {K : PySem.W.Frag} {mg : Str → Option Value} {base : Heap}
/-- a def by its body -/
theorem fn_g {x qual : Str} {st : Stmt} {f : Addr} {fd : FuncData} {N ps : List Str} {k : Nat} {sp : Sp} (F : Fun K x qual st f fd) (S : FnScope N ps (defScope st)) (size : ∀ vs H Q E, sp vs H Q E → vs.length = ps.length)
    (hb : ∀ (cdv : Value) (A : Around) (stk : List Env) (s : Shared) (H : Hp) (vs : List V) (Q : VK) (E : XK), RoomG k (A.deeper (envOfC qual (defScope st) s.heap.objs.size f cdv)) → sp vs H Q E →
      ∃ t, PSs (cxOf (L2.CX P w) P w K mg base N qual (defScope st) f cdv A stk s H E) (defBody st) t ∧ t { nx := fun _ H' => Q .non H', rt := Q } (L2.start N vs) H) : FnG P w K mg base (k + 1) f fd ps sp := by
  obtain ⟨oc, od, kV, doc, pm, an, cdv, ct, osl, rfl, lk, hcd⟩ := F.ex
  refine ⟨size, fun A stk s H ar us vs Q E hr e0 hbd hv hsp => ?_⟩
  have up : ∀ b o, base.get? b = some o → s.heap.get? b = some o := fun b o z => (e0.bs b o z).1
  have KX : K.In s.heap := e0.mod.kin.keeps up
  refine codeAny_call_function hr.rm.depth (KX _ _ lk) rfl S.co S.gen rfl (PySem.W.codeRec_of KX hcd) (hbd _ _ _ _ (wpAny_newFunctionEnv_cells S.kind (fun ⟨n, v⟩ hn => ?par) fun env he s1 x => ?run))
  case par =>
    have hn' := S.par n (List.of_mem_zip hn).1
    exact hn'.imp id fun z => ⟨z, PySem.W.cellsFrom_some _ _ _ (.inl z)⟩
  case run =>
    subst he
    obtain ⟨t, ht, hq⟩ := hb cdv A stk s H vs Q E (hr.down _) hsp
    have I0 := inv_start (CX := L2.CX P w) (E := E) S hr.rm.hd e0 (size _ _ _ _ hsp) hv x
    refine ⟨(e0.mod.nolimit.keeps up).keeps x.toInCall.keep, codeAny_func (wpAny_mono (ht.run [] s1 (L2.start N vs) H _ I0 hq) (fun fl s' hs => ?_) fun e s' hs => hs)⟩
    match fl, hs with
    | .ret u, ⟨v, σ', H', J, rv, q⟩ => exact ⟨v, H', J.os, J.bare, J.base, J.hok, rv, q⟩
    | .next, ⟨σ', H', J, q⟩ => exact ⟨.non, H', J.os, J.bare, J.base, J.hok, rfl, q⟩
    | .brk, ⟨_, _, _, q⟩ => exact q.elim
    | .cont, ⟨_, _, _, q⟩ => exact q.elim
theorem fn_ok [Wo] {x qual : Str} {st : Stmt} {f : Addr} {fd : FuncData} {N ps : List Str} {k : Nat} {b : FS} (F : Fun K x qual st f fd) (S : FnScope N ps (defScope st))
    (hb : ∀ (cdv : Value) (A : Around) (outer : List Env) (s : Shared) (H : Hp) (E : XK), RoomG k (A.deeper (envOfC qual (defScope st) s.heap.objs.size f cdv)) →
      PSs (cxOf (L2.CX P w) P w K mg base N qual (defScope st) f cdv A outer s H E) (defBody st) (tS (cxOf (L2.CX P w) P w K mg base N qual (defScope st) f cdv A outer s H E) (fun c d _ H => E c d H) b)) :
    FnG P w K mg base (k + 1) f fd ps (spF K mg ps.length (fnB ps.length N.length b)) := by
  refine fn_g F S (fun vs H Q E ⟨w, st, ds, s, r, l, h⟩ => by rw [← r.length]; exact l) fun cdv A outer s H vs Q E hr ⟨w1, S1, ds, s1, r1, l, h⟩ => ⟨_, hb cdv A outer s H E hr, w1, _, S1, s1, envStart (N := N) r1, ?_⟩
  unfold fnB at h
  rw [if_pos l] at h
  rw [l]
  revert h
  cases hbb : b (ds.map some ++ List.replicate (N.length - ps.length) none) S1 with
  | nx ρ S2 => exact fun h w' H' σ' e s' en => h w' H' _ e s' rp_n
  | rt d S2 => exact fun h w' H' v e s' r' => h w' H' v e s' r'
  | ex x ρ S2 => exact fun h w' H' σ' c od e s' en ex => h w' H' c od e s' ex
  | bk ρ S2 => exact fun h => h.elim
  | ct ρ S2 => exact fun h => h.elim
  | no => exact fun h => h.elim
theorem fun_look {x qual : Str} {st : Stmt} {f : Addr} {fd : FuncData} (F : Fun K x qual st f fd) : ∃ oc od osl, K.lookup f = some ⟨oc, od, .func fd, osl⟩ := by
  obtain ⟨oc, od, kV, doc, pm, an, cdv, ct, osl, rfl, lk, hcd⟩ := F.ex
  exact ⟨oc, od, osl, lk⟩
theorem fun_names {x qual : Str} {st : Stmt} {f : Addr} {fd : FuncData} (F : Fun K x qual st f fd) : fd.params.args.map (·.arg) = (defArgs st).args.map (·.arg) := by
  obtain ⟨oc, od, kV, doc, pm, an, cdv, ct, osl, rfl, lk, hcd⟩ := F.ex
  rfl
theorem spF_cut [Wo] {m : Nat} {f : FF} {k : Nat} {a : Addr} {fd : FuncData} {ps : List Str} (F : FnG P w K mg base k a fd ps (spF K mg m f)) : FnG P w K mg base k a fd ps (spF K mg m (fun ds S => cutR S (f ds S))) :=
  F.weak fun vs H Q E ⟨w1, S1, ds, s1, r1, l, h⟩ => ⟨w1, S1, ds, s1, r1, l, h.cutE s1⟩
theorem fnB_ar {m n : Nat} {b : FS} : ∀ ds S, ds.length ≠ m → fnB m n b ds S = .no := fun ds S h => by unfold fnB; rw [if_neg h]
theorem fnC_ar {m n : Nat} {b : FS} : ∀ ds S, ds.length ≠ m → fnC m n b ds S = .no := fun ds S h => by unfold fnC; rw [fnB_ar ds S h]; rfl
theorem cal_B [Wo] {x : Str} {st : Stmt} {f : Addr} {fd : FuncData} {N ps : List Str} {k : Nat} {b : FS} (F : Fun K x x st f fd) (S : FnScope N ps (defScope st)) (hm : mg x = some (.ref f)) (hbd : Binds K fd ps []) (hps : ps = (defArgs st).args.map (·.arg))
    (hb : ∀ (cdv : Value) (A : Around) (outer : List Env) (s : Shared) (H : Hp) (E : XK), RoomG k (A.deeper (envOfC x (defScope st) s.heap.objs.size f cdv)) →
      PSs (cxOf (L2.CX P w) P w K mg base N x (defScope st) f cdv A outer s H E) (defBody st) (tS (cxOf (L2.CX P w) P w K mg base N x (defScope st) f cdv A outer s H E) (fun c d _ H => E c d H) b)) :
    Cal P w K mg base (k + 1) x (fnB ps.length N.length b) := ⟨f, fd, ps, fn_ok F S hb, hm, F.kp, hbd, fnB_ar, hps.trans (fun_names F).symm, fun_look F⟩
theorem cal_C [Wo] {x : Str} {st : Stmt} {f : Addr} {fd : FuncData} {N ps : List Str} {k : Nat} {b : FS} (F : Fun K x x st f fd) (S : FnScope N ps (defScope st)) (hm : mg x = some (.ref f)) (hbd : Binds K fd ps []) (hps : ps = (defArgs st).args.map (·.arg))
    (hb : ∀ (cdv : Value) (A : Around) (outer : List Env) (s : Shared) (H : Hp) (E : XK), RoomG k (A.deeper (envOfC x (defScope st) s.heap.objs.size f cdv)) →
      PSs (cxOf (L2.CX P w) P w K mg base N x (defScope st) f cdv A outer s H E) (defBody st) (tS (cxOf (L2.CX P w) P w K mg base N x (defScope st) f cdv A outer s H E) (fun c d _ H => E c d H) b)) :
    Cal P w K mg base (k + 1) x (fnC ps.length N.length b) := ⟨f, fd, ps, spF_cut (fn_ok F S hb), hm, F.kp, hbd, fnC_ar, hps.trans (fun_names F).symm, fun_look F⟩
end
end Kw
namespace Kw
open PySem PySem.Spec PyProof.Rows L2
structure Mv (w : Wd) (H : Hp) (w' : Wd) (H' : Hp) : Prop where
  fr : ∀ a o, H a = some o → w.Off a → H' a = some o ∧ w'.Off a
  ln : w.φ.length ≤ w'.φ.length
  ph : ∀ (n : Nat) a, w'.φ[n]? = some (some a) → n < w.φ.length → w.φ[n]? = some (some a)
section
variable {K : PySem.W.Frag} {mg : Str → Option Value} {w w' w'' : Wd} {H H' H'' : Hp} {S : Store}
mutual
theorem Rp.mv (e : Mv w H w' H') : ∀ (d : D) (v : V), Rp K mg w H d v → Rp K mg w' H' d v
  | .non, _, h => by unfold Rp at h ⊢; exact h
  | .bl _, _, h => by unfold Rp at h ⊢; exact h
  | .int _, _, h => by unfold Rp at h ⊢; exact h
  | .str _, _, h => by unfold Rp at h ⊢; exact h
  | .tup ds, v, h => by
    unfold Rp at h ⊢
    obtain ⟨a, xs, e1, t, r⟩ := h
    refine ⟨a, xs, e1, ?_, RpL.mv e ds xs r⟩
    rcases t with ⟨t, n⟩ | t
    · exact .inl (e.fr _ _ t n)
    · exact .inr t
  | .lst ds, v, h => by
    unfold Rp at h ⊢
    obtain ⟨a, xs, e1, t, n, r⟩ := h
    exact ⟨a, xs, e1, (e.fr _ _ t n).1, (e.fr _ _ t n).2, RpL.mv e ds xs r⟩
  | .dic ks ds, v, h => by
    unfold Rp at h ⊢
    obtain ⟨a, vs, e1, t, n, l, r⟩ := h
    exact ⟨a, vs, e1, (e.fr _ _ t n).1, (e.fr _ _ t n).2, l, RpL.mv e ds vs r⟩
  | .ins c fs ds, v, h => by
    unfold Rp at h ⊢
    obtain ⟨a, C, dx, vs, e1, m, t, n, l, r⟩ := h
    exact ⟨a, C, dx, vs, e1, m, (e.fr _ _ t n).1, (e.fr _ _ t n).2, l, RpL.mv e ds vs r⟩
  | .loc n, v, h => by
    unfold Rp at h ⊢
    exact ⟨Nat.lt_of_lt_of_le h.1 e.ln, fun a q => h.2 a (e.ph n a q h.1)⟩
  | .glo _, _, h => by unfold Rp at h ⊢; exact h
  | .exn _, _, h => by unfold Rp at h ⊢; exact h
  | .lam i q ob, v, h => by
    unfold Rp at h ⊢
    obtain ⟨f, c', pm, ctv, e1, t, n, t2, n2⟩ := h
    exact ⟨f, c', pm, ctv, e1, (e.fr _ _ t n).1, (e.fr _ _ t n).2, (e.fr _ _ t2 n2).1, (e.fr _ _ t2 n2).2⟩
  | .exo c ns ds, v, h => by
    unfold Rp at h ⊢
    obtain ⟨a, C, od, vs, e1, m, t, n, z, q, l, r⟩ := h
    exact ⟨a, C, od, vs, e1, m, (e.fr _ _ t n).1, (e.fr _ _ t n).2, z, fun d hd => ⟨(e.fr _ _ (q d hd).1 (q d hd).2).1, (e.fr _ _ (q d hd).1 (q d hd).2).2⟩, l, RpL.mv e ds vs r⟩
  | .fls ds, v, h => by
    unfold Rp at h ⊢
    obtain ⟨a, xs, e1, t, r⟩ := h
    refine ⟨a, xs, e1, ?_, RpL.mv e ds xs r⟩
    rcases t with ⟨o, t, n⟩ | t
    · exact .inl ⟨o, e.fr _ _ t n⟩
    · exact .inr t
theorem RpL.mv (e : Mv w H w' H') : ∀ (ds : List D) (vs : List V), RpL K mg w H ds vs → RpL K mg w' H' ds vs
  | [], _, h => by unfold RpL at h ⊢; exact h
  | d :: ds, vs, h => by
    unfold RpL at h ⊢
    obtain ⟨v, r, e1, h1, h2⟩ := h
    exact ⟨v, r, e1, Rp.mv e d v h1, RpL.mv e ds r h2⟩
end
theorem EnvR.mv {ρ : FEnv} {σ : L2.St} (e : Mv w H w' H') (h : EnvR K mg w H ρ σ) : EnvR K mg w' H' ρ σ := ⟨h.len, fun i d q => by
  obtain ⟨v, h1, h2⟩ := h.at_ i d q
  exact ⟨v, h1, Rp.mv e _ _ h2⟩⟩
theorem TabW.mv {P : Addr} {q : Str} (m : Mv w H w' H') (hP : H' P = H P) (h : TabW w H P q) : TabW w' H' P q := by
  obtain ⟨ps, h1, h2, h3⟩ := h
  refine ⟨ps, by rw [hP]; exact h1, h2, fun pos cv hc => ?_⟩
  obtain ⟨c, e1, e2, e3⟩ := h3 pos cv hc
  exact ⟨c, e1, m.fr _ _ e2 e3⟩
theorem dct_mv {es : DEnt} (e : Mv w H w' H') (h : ∀ x ∈ es, x.1.depth ≤ 8 ∧ ∃ d, keyOf d = some x.1 ∧ Rp K mg w H d x.2.1) : ∀ x ∈ es, x.1.depth ≤ 8 ∧ ∃ d, keyOf d = some x.1 ∧ Rp K mg w' H' d x.2.1 := fun x hx =>
  ⟨(h x hx).1, let ⟨d, q1, q2⟩ := (h x hx).2; ⟨d, q1, Rp.mv e _ _ q2⟩⟩
theorem Ext.mv (e : Ext w H w' H') : Mv w H w' H' := ⟨fun a o h n => ⟨e.fr a o h n.1, e.out h n⟩, e.ln, e.ph⟩
theorem Mv.trans (a : Mv w H w' H') (b : Mv w' H' w'' H'') : Mv w H w'' H'' :=
  ⟨fun c o h n => b.fr c o (a.fr c o h n).1 (a.fr c o h n).2, Nat.le_trans a.ln b.ln, fun n c h l => a.ph n c (b.ph n c h (Nat.lt_of_lt_of_le l a.ln)) l⟩
/-- the object at C is built, hidden -/
structure ExtD (C : Addr) (w : Wd) (H : Hp) (w' : Wd) (H' : Hp) : Prop where
  c0 : H C = none
  fr : ∀ a o, a ≠ C → H a = some o → some a ∉ w.φ → H' a = some o
  ln : w.φ.length ≤ w'.φ.length
  ph : ∀ (n : Nat) a, w'.φ[n]? = some (some a) → n < w.φ.length → w.φ[n]? = some (some a)
  nw : ∀ a, some a ∈ w'.φ → some a ∈ w.φ ∨ H a = none
  hd : w'.hd = C :: w.hd
theorem ExtD.step {C : Addr} (a : ExtD C w H w' H') (b : Ext w' H' w'' H'') : ExtD C w H w'' H'' where
  c0 := a.c0
  fr := fun c o hc h n => b.fr c o (a.fr c o hc h n) fun z => by
    rcases a.nw c z with z | z
    · exact n z
    · rw [h] at z; cases z
  ln := Nat.le_trans a.ln b.ln
  ph := fun n c h l => a.ph n c (b.ph n c h (Nat.lt_of_lt_of_le l a.ln)) l
  nw := fun c h => by
    rcases b.nw c h with z | z
    · exact a.nw c z
    · by_cases q : some c ∈ w.φ
      · exact .inl q
      · cases e : H c with
        | none => exact .inr rfl
        | some o =>
          have hc : c ≠ C := fun z => by subst z; rw [a.c0] at e; cases e
          rw [a.fr c o hc e q] at z; cases z
  hd := b.hd.trans a.hd
theorem ExtD.poke {C : Addr} {o : HO} (a : ExtD C w H w' H') : ExtD C w H w' (upd H' C o) := ⟨a.c0, fun c u hc h n => by rw [upd_ne hc]; exact a.fr c u hc h n, a.ln, a.ph, a.nw, a.hd⟩
theorem ExtD.mv {C : Addr} (a : ExtD C w H w' H') : Mv w H w' H' := ⟨fun c o h n => by
  have hc : c ≠ C := fun z => by subst z; rw [a.c0] at h; cases h
  refine ⟨a.fr c o hc h n.1, fun z => ?_, fun z => ?_⟩
  · rcases a.nw c z with z | z
    · exact n.1 z
    · rw [h] at z; cases z
  · rw [a.hd] at z
    rcases List.mem_cons.mp z with z | z
    · exact hc z
    · exact n.2 z, a.ln, a.ph⟩
theorem ExtD.begin_ {C : Addr} {o : HO} (hC : H C = none) : ExtD C w H ⟨w.φ, C :: w.hd⟩ (upd H C o) := ⟨hC, fun a u e h _ => by rw [upd_ne e]; exact h, Nat.le_refl _, fun _ _ h _ => h, fun _ h => .inl h, rfl⟩
theorem ExtD.done {C : Addr} (a : ExtD C w H w' H') : Ext w H ⟨w'.φ, w.hd⟩ H' := ⟨fun c o h n => a.fr c o (fun z => by subst z; rw [a.c0] at h; cases h) h n, a.ln, a.ph, a.nw, rfl⟩
theorem Sto.mvd [Wo] {C : Addr} (s : Sto K mg w S H) (hC : H C = none) {o : HO} : Sto K mg ⟨w.φ, C :: w.hd⟩ S (upd H C o) := by
  have m : Mv w H ⟨w.φ, C :: w.hd⟩ (upd H C o) := (ExtD.begin_ hC).mv
  refine ⟨s.len, s.nd, fun a ha => ?_, fun n c hc => ?_⟩
  · rcases List.mem_cons.mp ha with e | ha
    · subst e; exact ⟨by rw [upd_same]; exact fun z => (nomatch z), (s.new hC).1⟩
    · exact ⟨upd_some (s.ap a ha).1, (s.ap a ha).2⟩
  · have c0 := s.cell n c hc
    have ne : ∀ a, w.φ[n]? = some (some a) → upd H C o a = H a := fun a ha => upd_ne fun z => by subst z; exact (s.new hC).1 (List.mem_of_getElem? ha)
    unfold CellR at c0 ⊢
    split at c0
    · obtain ⟨b, xs, h2, h3, h4⟩ := c0; exact ⟨b, xs, h2, by rw [ne b h2]; exact h3, RpL.mv m _ _ h4⟩
    · obtain ⟨b, xs, o', h2, h3, h4⟩ := c0; exact ⟨b, xs, o', h2, by rw [ne b h2]; exact h3, RpL.mv m _ _ h4⟩
    · exact c0
    · obtain ⟨c1, P, ht, t1, t2⟩ := c0; exact ⟨c1, P, ht, t1, TabW.mv m (ne _ t1) t2⟩
    · obtain ⟨h1, h2, h3, ⟨φ, h4, h6⟩, h5⟩ := c0
      exact ⟨h1, List.mem_cons_of_mem _ h2, h3, ⟨φ, by rw [upd_ne (fun z => by rw [z, hC] at h4; cases h4)]; exact h4, h6⟩, h5⟩
    · exact ⟨c0.1, EnvR.mv m c0.2⟩
    · obtain ⟨b, C1, dx, vs, h2, h3, h4, h5, h6⟩ := c0; exact ⟨b, C1, dx, vs, h2, h3, by rw [ne b h2]; exact h4, h5, RpL.mv m _ _ h6⟩
    · obtain ⟨b, es, h2, h3, h4, h5, h6, h7⟩ := c0; exact ⟨b, es, h2, by rw [ne b h2]; exact h3, h4, h5, dct_mv m h6, RpL.mv m _ _ h7⟩
theorem Mv.poke {C : Addr} {o : HO} (hC : C ∈ w.hd) : Mv w H w (upd H C o) := ⟨fun a u h n => ⟨by rw [upd_ne (fun z => by subst z; exact n.2 hC)]; exact h, n⟩, Nat.le_refl _, fun _ _ h _ => h⟩
theorem Sto.poke [Wo] {C : Addr} {o : HO} (s : Sto K mg w S H) (hC : C ∈ w.hd) (hx : ∃ xs, H C = some (.lst xs)) : Sto K mg w S (upd H C o) := by
  have m : Mv w H w (upd H C o) := Mv.poke hC
  refine ⟨s.len, s.nd, fun a ha => ⟨upd_some (s.ap a ha).1, (s.ap a ha).2⟩, fun n c hc => ?_⟩
  have c0 := s.cell n c hc
  have ne : ∀ a, w.φ[n]? = some (some a) → upd H C o a = H a := fun a ha => upd_ne fun z => by subst z; exact (s.ap a hC).2 (List.mem_of_getElem? ha)
  unfold CellR at c0 ⊢
  split at c0
  · obtain ⟨b, xs, h2, h3, h4⟩ := c0; exact ⟨b, xs, h2, by rw [ne b h2]; exact h3, RpL.mv m _ _ h4⟩
  · obtain ⟨b, xs, o', h2, h3, h4⟩ := c0; exact ⟨b, xs, o', h2, by rw [ne b h2]; exact h3, RpL.mv m _ _ h4⟩
  · exact c0
  · obtain ⟨c1, P, ht, t1, t2⟩ := c0; exact ⟨c1, P, ht, t1, TabW.mv m (ne _ t1) t2⟩
  · obtain ⟨h1, h2, h3, ⟨φ, h4, h6⟩, h5⟩ := c0
    obtain ⟨xs, hx⟩ := hx
    exact ⟨h1, h2, h3, ⟨φ, by rw [upd_ne (fun z => by rw [z, hx] at h4; cases h4)]; exact h4, h6⟩, h5⟩
  · exact ⟨c0.1, EnvR.mv m c0.2⟩
  · obtain ⟨b, C1, dx, vs, h2, h3, h4, h5, h6⟩ := c0; exact ⟨b, C1, dx, vs, h2, h3, by rw [ne b h2]; exact h4, h5, RpL.mv m _ _ h6⟩
  · obtain ⟨b, es, h2, h3, h4, h5, h6, h7⟩ := c0; exact ⟨b, es, h2, by rw [ne b h2]; exact h3, h4, h5, dct_mv m h6, RpL.mv m _ _ h7⟩
theorem Mv.show {C : Addr} {h0 : List Addr} (e : w.hd = C :: h0) : Mv w H ⟨w.φ, h0⟩ H := ⟨fun a o h n => ⟨h, n.1, fun z => n.2 (by rw [e]; exact List.mem_cons_of_mem _ z)⟩, Nat.le_refl _, fun _ _ h _ => h⟩
theorem Sto.show [Wo] {C : Addr} {h0 : List Addr} (s : Sto K mg w S H) (e : w.hd = C :: h0) (hx : ∃ xs, H C = some (.lst xs)) : Sto K mg ⟨w.φ, h0⟩ S H := by
  have m : Mv w H ⟨w.φ, h0⟩ H := Mv.show e
  refine ⟨s.len, s.nd, fun a ha => s.ap a (by rw [e]; exact List.mem_cons_of_mem _ ha), fun n c hc => ?_⟩
  have c0 := s.cell n c hc
  unfold CellR at c0 ⊢
  split at c0
  · obtain ⟨b, xs, h2, h3, h4⟩ := c0; exact ⟨b, xs, h2, h3, RpL.mv m _ _ h4⟩
  · obtain ⟨b, xs, o', h2, h3, h4⟩ := c0; exact ⟨b, xs, o', h2, h3, RpL.mv m _ _ h4⟩
  · exact c0
  · obtain ⟨c1, P, ht, t1, t2⟩ := c0; exact ⟨c1, P, ht, t1, TabW.mv m rfl t2⟩
  · obtain ⟨h1, h2, h3, ⟨φ, h4, h6⟩, h5⟩ := c0
    obtain ⟨xs, hx⟩ := hx
    refine ⟨h1, ?_, h3, ⟨φ, h4, h6⟩, h5⟩
    rw [e] at h2
    rcases List.mem_cons.mp h2 with z | z
    · rw [z, hx] at h4; cases h4
    · exact z
  · exact ⟨c0.1, EnvR.mv m c0.2⟩
  · obtain ⟨b, C1, dx, vs, h2, h3, h4, h5, h6⟩ := c0; exact ⟨b, C1, dx, vs, h2, h3, h4, h5, RpL.mv m _ _ h6⟩
  · obtain ⟨b, es, h2, h3, h4, h5, h6, h7⟩ := c0; exact ⟨b, es, h2, h3, h4, h5, dct_mv m h6, RpL.mv m _ _ h7⟩
end
abbrev FG := D → FEnv → Store → Option (FEnv × Store)
abbrev FGs := List D → FEnv → Store → Option (FEnv × Store)
def GOk [Wo] (X : Cx) (w : Wd) (H : Hp) (sl : List Nat) (σ : L2.St) (r : Option (FEnv × Store)) (Q : L2.St → Hp → Prop) : Prop := match r with
  | some (ρ', S') => ∀ w' H' σ', Ext w H w' H' → Sto X.K X.mg w' S' H' → EnvR X.K X.mg w' H' ρ' σ' → (∀ i, i ∉ sl → σ'[i]? = σ[i]?) → σ'.length = σ.length → Q σ' H'
  | none => False
def tG [Wo] (X : Cx) (sl : List Nat) (g : FG) : TG := fun v σ H Q => ∃ w ρ S d, Sto X.K X.mg w S H ∧ EnvR X.K X.mg w H ρ σ ∧ Rp X.K X.mg w H d v ∧ GOk X w H sl σ (g d ρ S) Q
theorem PG.wk {X : Cx} {e : Expr} {t t' : TG} (h : PG X e t) (m : ∀ v σ H Q, t' v σ H Q → t v σ H Q) : PG X e t' := ⟨fun pins s σ H v u Q I r k => h.run pins s σ H v u Q I r (m v σ H Q k)⟩
def gN (i : Nat) : FG := fun d ρ S => some (ρ.set i (some d), S)
def gsCons (g : FG) (gs : FGs) : FGs := fun ds ρ S => match ds with
  | d :: r => (match g d ρ S with
    | some (ρ1, S1) => gs r ρ1 S1
    | none => none)
  | [] => none
def gTu (n : Nat) (gs : FGs) : FG := fun d ρ S => match d with
  | .tup ds => if ds.length = n then gs ds ρ S else none
  | _ => none
def gSetI (o i d : D) (S : Store) : Option Store := match o, i with
  | .loc n, .int k => (match cellM S n with
    | some xs => (match ixN xs.length k with
      | some j => some (S.set n (.lst (xs.set j d)))
      | none => none)
    | none => none)
  | _, _ => none
def gSb (fo fi : FE) : FG := fun d ρ S => match fo ρ S with
  | .ok o S1 => (match fi ρ S1 with
    | .ok i S2 => (match gSetI o i d S2 with
      | some S3 => some (ρ, S3)
      | none => none)
    | _ => none)
  | _ => none
section
variable {X : Cx} {W : WX} {pos : Pos} {e : Expr} {es : List Expr}
theorem GOk.imp [Wo] {w : Wd} {H : Hp} {sl sl' : List Nat} {σ : L2.St} {r : Option (FEnv × Store)} {Q Q' : L2.St → Hp → Prop} (h : GOk X w H sl σ r Q) (hs : ∀ i, i ∉ sl → i ∉ sl') (hq : ∀ σ H, Q σ H → Q' σ H) : GOk X w H sl' σ r Q' := by
  unfold GOk at h ⊢
  split
  · intro w' H' σ' e s en k l
    exact hq _ _ (h w' H' σ' e s en (fun i hi => k i (hs i hi)) l)
  · exact h
theorem q_gn [Wo] {i : Nat} {x : Str} (hN : X.N.Nodup) (hi : X.N[i]? = some x) (hx : Loc X.env.scope x) (hf : X.fn x = true ∨ X.env.scope.names.lookup x = some .local := by first | exact .inl rfl | exact .inr rfl | assumption) : PG X (.Name x pos) (tG X [i] (gN i)) :=
  PG.wk (pg_name hN hi hx hf) fun v σ H Q ⟨w, ρ, S, d, s, en, r, h⟩ => h w H _ Ext.refl s (en.set r) (fun j hj => by
    rw [List.getElem?_set_ne (fun z => hj (by rw [z]; exact List.mem_singleton.mpr rfl))]) (by rw [List.length_set])
theorem setI_at [Wo] {w : Wd} {S S' : Store} {H : Hp} {o i d : D} {ov iv v : V} (s : Sto X.K X.mg w S H) (ro : Rp X.K X.mg w H o ov) (ri : Rp X.K X.mg w H i iv) (rd : Rp X.K X.mg w H d v) (h : gSetI o i d S = some S') {Q : Hp → Prop} (hq : ∀ H', Ext w H w H' → Sto X.K X.mg w S' H' → Q H') : rSetL ov iv v H Q := by
  unfold gSetI at h
  split at h
  · rename_i n k
    split at h
    · rename_i xs hx
      split at h
      · rename_i j hj
        cases h
        obtain ⟨a, vs, h1, h2, h3⟩ := cellM_at s hx
        unfold Rp at ro
        refine ⟨a, vs, k, j, ro.2 a h1, rp_int ri, h2, by rw [← h3.length]; exact hj, hq _ (Ext.write h1) (s.write h1 (cellM_lt hx) (h3.set j rd))⟩
      · cases h
    · cases h
  · cases h
theorem q_gsb [Wo] {o i : Expr} {fo fi : FE} (ho : PE X o (tF X W fo)) (hi : PE X i (tF X W fi)) (ha : ∀ v, assign (.Subscript o i pos) X.env v = (do
      let ov ← holding [v] (eval o X.env)
      let iv ← holding [v, ov] (eval i X.env)
      standAt pos
      holding [v, ov, iv] (setItem ov iv v)
      release [v, ov, iv] []) := by intro _; rfl) : PG X (.Subscript o i pos) (tG X [] (gSb fo fi)) :=
  PG.wk (pg_sub ho hi set_list ha) fun v σ H Q ⟨w, ρ, S, d, s, en, r, h⟩ => by
    unfold gSb at h
    split at h
    · rename_i od S1 h1
      split at h
      · rename_i id S2 h2
        split at h
        · rename_i S3 h3
          refine ⟨w, ρ, S, s, en, ?_⟩
          rw [h1]
          intro w1 H1 ov e1 s1 r1
          refine ⟨w1, ρ, S1, s1, en.ext e1, ?_⟩
          rw [h2]
          intro w2 H2 iv e2 s2 r2
          have ex := e1.trans e2
          refine setI_at s2 (Rp.ext e2 _ _ r1) r2 (Rp.ext ex _ _ r) h3 fun H3 e3 s3 => ?_
          exact h w2 H3 σ (ex.trans e3) s3 (en.ext (ex.trans e3)) (fun _ _ => rfl) rfl
        · exact h.elim
      · exact h.elim
    · exact h.elim
/-- target = value -/
def sAsg (f : FE) (g : FG) : FS := fun ρ S => (f ρ S).toS ρ fun d S1 => match g d ρ S1 with
  | some (ρ', S') => .nx ρ' S'
  | none => .no
theorem q_asg [Wo] {tg : Expr} {fe : FE} {g : FG} {sl : List Nat} (he : PE X e (tF X W fe)) (hg : PG X tg (tG X sl g)) (hs : swapsWithSole [tg] e pos.line X.env = pure false := by rfl) (hw : swappedStores [tg] e X.env = pure none := by rfl) (h1 : (assignEach [tg] X.env).map (·.2) = [assign tg X.env] := by rfl) : PS X (.Assign [tg] e pos) (tS X W (sAsg fe g)) :=
  PS.wk (ps_asg he hg hs hw h1) fun D σ H ⟨w, ρ, S, s, en, h⟩ => ⟨w, ρ, S, s, en, (h.of (R := fun w H => Rp X.K X.mg w H) en).imp (fun v H1 ⟨w1, S1, d, e1, s1, r1, h1⟩ => by
    refine ⟨w1, ρ, S1, d, s1, en.ext e1, r1, ?_⟩
    split at h1
    · rename_i ρ' S' hg'
      rw [hg']
      intro w2 H2 σ2 e2 s2 en2 _ _
      exact h1 w2 H2 σ2 e2 s2 en2
    · exact h1.elim) (fun _ _ _ z => z)⟩
/-- a, b = x, y -/
def sPar (i j : Nat) (f : FA) : FS := fun ρ S => (f ρ S).toS ρ fun ds S1 => match ds with
  | [x, y] => .nx ((ρ.set i (some x)).set j (some y)) S1
  | _ => .no
end
abbrev Its' := List D × Option (Nat × List D)
/-- the list that is walked is as it was -/
def gd (g : Option (Nat × List D)) (S : Store) : Prop := match g with
  | none => True
  | some (n, ds) => cellOf S n = some ds
open Classical in
noncomputable def gchk (g : Option (Nat × List D)) (S : Store) {α : Type} (a b : α) : α := if gd g S then a else b
def ItOk [Wo] (K : PySem.W.Frag) (mg : Str → Option Value) (w : Wd) (H : Hp) (p : Its') (J : It) : Prop :=
  ∀ w' S' H', Mv w H w' H' → Sto K mg w' S' H' → gd p.2 S' → (∀ i, p.1.length ≤ i → J.stop i H') ∧ ∀ i d, p.1[i]? = some d → J.go i H' ∧ ∀ x H'', J.yld i H' x H'' → Ext w' H' w' H'' ∧ Sto K mg w' S' H'' ∧ Rp K mg w' H'' d x
abbrev FI := FEnv → Store → RE Its'
def tI [Wo] (X : Cx) (W : WX) (f : FI) : TI := fun σ H R => ∃ w ρ S, Sto X.K X.mg w S H ∧ EnvR X.K X.mg w H ρ σ ∧ End X.K X.mg (ItOk X.K X.mg) w H (f ρ S) R (fun c od H' => W c od σ H')
theorem PI.wk {X : Cx} {tg e : Expr} {t t' : TI} (h : PI X tg e t) (m : ∀ σ H R, t' σ H R → t σ H R) : PI X tg e t' := ⟨fun pins s σ H R I k => h.run pins s σ H R I (m σ H R k)⟩
/-- a list or a tuple -/
def iSeq (S : Store) : D → Option Its'
  | .lst ds => some (ds, none)
  | .fls ds => some (ds, none)
  | .loc n => (cellOf S n).map fun ds => (ds, some (n, ds))
  | _ => none
def fiL (f : FE) : FI := fun ρ S => (f ρ S).bnd fun x S1 => match iSeq S1 x with
  | some p => .ok p S1
  | none => .no
def fiT (f : FE) : FI := fun ρ S => (f ρ S).bnd fun x S1 => match x with
  | .tup ds => .ok (ds, none) S1
  | _ => .no
def chrs (z : Str) : List D := z.cps.toList.map fun c => .str ⟨#[c]⟩
def fiS (f : FE) : FI := fun ρ S => (f ρ S).bnd fun x S1 => match x with
  | .str z => .ok (chrs z, none) S1
  | _ => .no
def rngD (lo : Int) : Nat → List D
  | 0 => []
  | n + 1 => .int lo :: rngD (lo + 1) n
def fiR1 (f : FA) : FI := fun ρ S => (f ρ S).bnd fun ds S1 => match ds with
  | [.int j] => if -(2 ^ 62) ≤ j ∧ j < 2 ^ 62 then .ok (rngD 0 j.toNat, none) S1 else .no
  | _ => .no
def zipD : List D → List D → List D
  | a :: r, b :: q => .tup [a, b] :: zipD r q
  | _, _ => []
section
variable {K : PySem.W.Frag} {mg : Str → Option Value} {w w' : Wd} {H H' : Hp} {S S' : Store}
/-- a walked list, at any later time -/
theorem iSeq_at [Wo] {x : D} {v : V} {p : Its'} (s : Sto K mg w S H) (r : Rp K mg w H x v) (h : iSeq S x = some p) : ∃ a, v = .ref a ∧ (∃ xs, SqL K H a xs) ∧
    ∀ w' S' H', Mv w H w' H' → Sto K mg w' S' H' → gd p.2 S' → ∃ xs, SqL K H' a xs ∧ RpL K mg w' H' p.1 xs := by
  cases x <;> simp only [iSeq] at h <;> try (cases h; done)
  · cases h
    unfold Rp at r
    obtain ⟨a, xs, e, t, o, q⟩ := r
    refine ⟨a, e, ⟨xs, .of t⟩, fun w' S' H' m s' _ => ?_⟩
    obtain ⟨t', o'⟩ := m.fr a _ t o
    exact ⟨xs, .of t', RpL.mv m _ _ q⟩
  · rename_i n
    simp only [Option.map_eq_some_iff] at h
    obtain ⟨ds, h1, h2⟩ := h
    subst h2
    obtain ⟨a, xs, h3, h4, h5⟩ := cellOf_at s h1
    unfold Rp at r
    refine ⟨a, r.2 a h3, ⟨xs, .inl h4⟩, fun w' S' H' m s' g => ?_⟩
    obtain ⟨b, ys, k3, k4, k5⟩ := cellOf_at s' (show cellOf S' n = some ds from g)
    have := m.ph n b k3 r.1
    rw [h3] at this
    cases this
    exact ⟨ys, .inl k4, k5⟩
  · cases h
    unfold Rp at r
    obtain ⟨a, xs, e, t, q⟩ := r
    refine ⟨a, e, ⟨xs, t.sq⟩, fun w' S' H' m s' _ => ?_⟩
    have t' : Fp K w' H' a xs := by
      rcases t with ⟨o, t, n⟩ | t
      · exact .inl ⟨o, m.fr _ _ t n⟩
      · exact .inr t
    exact ⟨xs, t'.sq, RpL.mv m _ _ q⟩
theorem Rd.inj {a : Addr} {u u' : HO} (h : Rd H a u) (h' : Rd H a u') (n : ∀ o q, u ≠ .frz o q) (n' : ∀ o q, u' ≠ .frz o q) : u = u' := by
  rcases h with h | ⟨o, h⟩ <;> rcases h' with h' | ⟨o', h'⟩
  · rw [h] at h'; cases h'; rfl
  · rw [h] at h'; cases h'; exact absurd rfl (n _ _)
  · rw [h] at h'; cases h'; exact absurd rfl (n' _ _)
  · rw [h] at h'; cases h'; rfl
theorem itl_ok [Wo] {x : D} {v : V} {p : Its'} (s : Sto K mg w S H) (r : Rp K mg w H x v) (h : iSeq S x = some p) {R : It → Hp → Prop} {E : Value → Option Addr → Hp → Prop} (he : End K mg (ItOk K mg) w H (.ok p S) R E) : ∃ a, v = .ref a ∧ (∃ xs, SqL K H a xs) ∧ R (Itl K a) H := by
  obtain ⟨a, e, ex, k⟩ := iSeq_at s r h
  refine ⟨a, e, ex, he w H _ Ext.refl s fun w' S' H' m s' g => ?_⟩
  obtain ⟨xs, q1, q2⟩ := k w' S' H' m s' g
  refine ⟨fun i hi => ⟨xs, q1, by rw [← q2.length]; exact hi⟩, fun i d hd => ?_⟩
  obtain ⟨u, h1, h2⟩ := q2.get hd
  refine ⟨⟨xs, u, q1, h1⟩, fun y H'' hy => ?_⟩
  obtain ⟨rfl, hy⟩ := hy
  have := hy xs q1
  rw [h1] at this
  cases this
  exact ⟨Ext.refl, s', h2⟩
end
section
variable {X : Cx} {W : WX} {tg e e2 : Expr} {fe : FE} {fa : FA} {p pos : Pos}
theorem qi_list [Wo] (he : PE X e (tF X W fe)) : PI X tg e (tI X W (fiL fe)) := PI.wk (pi_list he) fun σ H R ⟨w, ρ, S, s, en, h⟩ =>
  ⟨w, ρ, S, s, en, (End.bind (R := fun w H => Rp X.K X.mg w H) h).imp (fun v H1 ⟨w1, S1, d, e1, s1, r1, h1⟩ => by
    split at h1
    · rename_i q hq; exact itl_ok s1 r1 hq h1
    · exact h1.elim) (fun _ _ _ z => z)⟩
theorem qi_str [Wo] (he : PE X e (tF X W fe)) : PI X tg e (tI X W (fiS fe)) := PI.wk (pi_str he) fun σ H R ⟨w, ρ, S, s, en, h⟩ =>
  ⟨w, ρ, S, s, en, (End.bind (R := fun w H => Rp X.K X.mg w H) h).imp (fun v H1 ⟨w1, S1, d, e1, s1, r1, h1⟩ => by
    split at h1
    · rename_i z
      refine ⟨z, rp_str r1, h1 w1 H1 _ Ext.refl s1 fun w' S' H' m s' g => ?_⟩
      refine ⟨fun i hi => (show z.cps.size ≤ i by simpa [chrs] using hi), fun i d hd => ?_⟩
      have hd' : ∃ c, z.cps.toList[i]? = some c ∧ d = .str ⟨#[c]⟩ := by
        simp only [chrs, List.getElem?_map, Option.map_eq_some_iff] at hd
        obtain ⟨c, a, b⟩ := hd
        exact ⟨c, a, b.symm⟩
      obtain ⟨c, k1, k2⟩ := hd'
      rw [Array.getElem?_toList] at k1
      refine ⟨(Array.getElem?_eq_some_iff.mp k1).1, fun y H'' hy => ?_⟩
      obtain ⟨rfl, c', k3, rfl⟩ := hy
      rw [k1] at k3
      cases k3
      subst k2
      exact ⟨Ext.refl, s', rp_s⟩
    · exact h1.elim) (fun _ _ _ z => z)⟩
theorem rngD_len : ∀ (n : Nat) (lo : Int), (rngD lo n).length = n
  | 0, _ => rfl
  | n + 1, lo => by simp [rngD, rngD_len n (lo + 1)]
theorem rngD_get : ∀ (n : Nat) (lo : Int) (i : Nat) (d : D), (rngD lo n)[i]? = some d → i < n ∧ d = .int (lo + i)
  | 0, lo, i, d, h => by simp [rngD] at h
  | n + 1, lo, 0, d, h => by simp [rngD] at h; exact ⟨Nat.succ_pos _, by rw [← h]; simp⟩
  | n + 1, lo, i + 1, d, h => by
    simp only [rngD, List.getElem?_cons_succ] at h
    obtain ⟨h1, h2⟩ := rngD_get n (lo + 1) i d h
    exact ⟨Nat.succ_lt_succ h1, by rw [h2]; congr 1; omega⟩
theorem rng_ok [Wo] {K : PySem.W.Frag} {mg : Str → Option Value} {w : Wd} {H : Hp} (lo : Int) (n : Nat) : ItOk K mg w H (rngD lo n, none) (Itr lo n) := by
  intro w' S' H' m s' g
  refine ⟨fun i hi => (show n ≤ i by have h2 : (rngD lo n).length ≤ i := hi; rw [rngD_len] at h2; exact h2), fun i d hd => ?_⟩
  obtain ⟨h1, rfl⟩ := rngD_get n lo i d hd
  refine ⟨h1, fun y H'' hy => ?_⟩
  obtain ⟨rfl, rfl⟩ := hy
  exact ⟨Ext.refl, s', rp_i⟩
theorem qi_range1 [Wo] (hg : Gl X "range") (hm : X.mg "range" = none) (ha : PA X [e] (tA X W fa)) (hs : starEach [e] X.env = [(false, eval e X.env)] := by rfl) : PI X tg (.Call (.Name "range" p) [e] [] pos) (tI X W (fiR1 fa)) := PI.wk (pi_range1 hg hm ha hs) fun σ H R ⟨w, ρ, S, s, en, h⟩ =>
  ⟨w, ρ, S, s, en, (End.bind (R := fun w H => RpL X.K X.mg w H) h).imp (fun vs H1 ⟨w1, S1, ds, e1, s1, r1, h1⟩ => by
    split at h1
    · split at h1
      · rename_i j hj
        obtain ⟨v, rfl, r2⟩ := r1.one_inv
        exact ⟨j, by rw [rp_int r2], hj.1, hj.2, h1.ret s1 (rng_ok 0 _)⟩
      · exact h1.elim
    · exact h1.elim) (fun _ _ _ z => z)⟩
end
noncomputable def forL (tg : FG) (b : FS) (g : Option (Nat × List D)) : List D → FS
  | [] => fun ρ S => gchk g S (.nx ρ S) .no
  | d :: r => fun ρ S => gchk g S (match tg d ρ S with
    | some (ρ1, S1) => (match b ρ1 S1 with
      | .nx ρ2 S2 => forL tg b g r ρ2 S2
      | .ct ρ2 S2 => forL tg b g r ρ2 S2
      | .bk ρ2 S2 => .nx ρ2 S2
      | z => z)
    | none => .no) .no
noncomputable def sFor (fi : FI) (tg : FG) (b : FS) : FS := fun ρ S => (fi ρ S).toS ρ fun p S1 => forL tg b p.2 p.1 ρ S1
theorem gchk_in [Wo] {K : PySem.W.Frag} {mg : Str → Option Value} {w : Wd} {H : Hp} {D : Ends} {W : WX} {g : Option (Nat × List Kw.D)} {S : Store} {r : RS} (h : EndS K mg w H (gchk g S r .no) D W) : gd g S ∧ EndS K mg w H r D W := by
  unfold gchk at h
  split at h
  · rename_i k; exact ⟨k, h⟩
  · exact h.elim
section
variable {X : Cx} {W : WX} {tg iter : Expr} {body : List Stmt} {fi : FI} {g : FG} {sl : List Nat} {b : FS} {pos : Pos}
theorem q_for [Wo] (hp : PassesOwn (model X.prog X.w) X.A X.env X.xe) (hc : X.calm = true) (hi : PI X tg iter (tI X W fi)) (hg : PG X tg (tG X sl g)) (hb : PSs X body (tS X W b)) (hs : ∀ x, foldedSetIterable iter X.env x = pure x := by intro _; rfl) : PS X (.For tg iter body [] pos) (tS X W (sFor fi g b)) :=
  PS.wk (ps_for hp hc hi hg hb hs) fun D σ H ⟨w, ρ, S, s, en, h⟩ => by
    refine ⟨w, ρ, S, s, en, (h.of (R := ItOk X.K X.mg) en).imp ?_ (fun _ _ _ z => z)⟩
    rintro J H1 ⟨w1, S1, ⟨items, gu⟩, e1, s1, J1, h1⟩
    refine ⟨fun i m σ' H' => ∃ w' ρ' S', i + m = items.length ∧ Ext w1 H1 w' H' ∧ Sto X.K X.mg w' S' H' ∧ EnvR X.K X.mg w' H' ρ' σ' ∧ EndS X.K X.mg w' H' (forL g b gu (items.drop i) ρ' S') D W, ⟨items.length, w1, ρ, S1, by omega, Ext.refl, s1, en.ext e1, h1⟩, ?_⟩
    rintro i m σ' H' ⟨w', ρ', S', hm, ex, s', en', h2⟩
    cases hd : items.drop i with
    | nil =>
      rw [hd] at h2
      unfold forL at h2
      obtain ⟨gd1, h3⟩ := gchk_in h2
      have hl : items.length ≤ i := List.drop_eq_nil_iff.mp hd
      exact .inl ⟨(J1 w' S' H' ex.mv s' gd1).1 i hl, h3.nx' s' en'⟩
    | cons d r =>
      rw [hd] at h2
      unfold forL at h2
      obtain ⟨gd1, h3⟩ := gchk_in h2
      have hi' : items[i]? = some d := by
        have := congrArg (·[0]?) hd
        simpa using this
      have hr : items.drop (i + 1) = r := by
        have := congrArg List.tail hd
        simpa using this
      have hlt : i < items.length := (List.getElem?_eq_some_iff.mp hi').1
      obtain ⟨j1, j2⟩ := (J1 w' S' H' ex.mv s' gd1).2 i d hi'
      refine .inr ⟨j1, fun σ2 H2 => ∃ w2 ρ2 S2, Ext w1 H1 w2 H2 ∧ Sto X.K X.mg w2 S2 H2 ∧ EnvR X.K X.mg w2 H2 ρ2 σ2 ∧ EndS X.K X.mg w2 H2 (forL g b gu r ρ2 S2) D W, ?_, ?_⟩
      · rintro σ2 H2 ⟨w2, ρ2, S2, a1, a2, a3, a4⟩
        exact ⟨m - 1, by omega, w2, ρ2, S2, by omega, a1, a2, a3, by rw [hr]; exact a4⟩
      · intro x H'' hy
        obtain ⟨j3, j4, j5⟩ := j2 x H'' hy
        have h3' := h3.on j3
        refine ⟨w', ρ', S', d, j4, en'.ext j3, j5, ?_⟩
        split at h3'
        · rename_i ρ1 S1' hg1
          rw [hg1]
          intro w2 H2 σ2 e2 s2 en2 _ _
          have h4 := h3'.on e2
          have ex2 : Ext w1 H1 w2 H2 := (ex.trans j3).trans e2
          refine ⟨w2, ρ1, S1', s2, en2, ?_⟩
          revert h4
          cases b ρ1 S1' with
          | nx ρ3 S3 => exact fun h4 w3 H3 σ3 e3 s3 en3 => ⟨w3, ρ3, S3, ex2.trans e3, s3, en3, h4.on e3⟩
          | ct ρ3 S3 => exact fun h4 w3 H3 σ3 e3 s3 en3 => ⟨w3, ρ3, S3, ex2.trans e3, s3, en3, h4.on e3⟩
          | bk ρ3 S3 => exact fun h4 => h4
          | rt d S3 => exact fun h4 => h4
          | ex x ρ3 S3 => exact fun h4 => h4
          | no => exact fun h4 => h4
        · exact h3'.elim
end
def wLoop (c : FT) (b : FS) : Nat → FS
  | 0 => fun _ _ => .no
  | n + 1 => fun ρ S => (c ρ S).toS ρ fun k S1 => match k with
    | true => (match b ρ S1 with
      | .nx ρ2 S2 => wLoop c b n ρ2 S2
      | .ct ρ2 S2 => wLoop c b n ρ2 S2
      | .bk ρ2 S2 => .nx ρ2 S2
      | z => z)
    | false => .nx ρ S1
open Classical in
noncomputable def sWhile (c : FT) (b : FS) : FS := fun ρ S => if h : ∃ n, wLoop c b n ρ S ≠ .no then wLoop c b (choose h) ρ S else .no
theorem wLoop_mono {c : FT} {b : FS} : ∀ {n m : Nat} {ρ : FEnv} {S : Store}, n ≤ m → wLoop c b n ρ S ≠ .no → wLoop c b m ρ S = wLoop c b n ρ S
  | 0, _, _, _, _, h => absurd rfl h
  | n + 1, 0, _, _, l, _ => absurd l (by omega)
  | n + 1, m + 1, ρ, S, l, h => by
    unfold wLoop at h ⊢
    cases hc : c ρ S with
    | ok k S1 =>
      rw [hc] at h
      cases k with
      | true =>
        simp only [RE.toS] at h ⊢
        cases hb : b ρ S1 with
        | nx ρ2 S2 =>
          rw [hb] at h
          exact wLoop_mono (Nat.le_of_succ_le_succ l) h
        | ct ρ2 S2 =>
          rw [hb] at h
          exact wLoop_mono (Nat.le_of_succ_le_succ l) h
        | _ => rfl
      | false => rfl
    | _ => rfl
theorem sWhile_eq {c : FT} {b : FS} {n : Nat} {ρ : FEnv} {S : Store} (h : wLoop c b n ρ S ≠ .no) : sWhile c b ρ S = wLoop c b n ρ S := by
  unfold sWhile
  have hx : ∃ n, wLoop c b n ρ S ≠ .no := ⟨n, h⟩
  rw [dif_pos hx]
  have hk := Classical.choose_spec hx
  rcases Nat.le_total n (Classical.choose hx) with l | l
  · exact wLoop_mono l h
  · exact (wLoop_mono l hk).symm
/-- one turn -/
theorem sWhile_step (c : FT) (b : FS) (ρ : FEnv) (S : Store) : sWhile c b ρ S = (c ρ S).toS ρ fun k S1 => match k with
    | true => (match b ρ S1 with
      | .nx ρ2 S2 => sWhile c b ρ2 S2
      | .ct ρ2 S2 => sWhile c b ρ2 S2
      | .bk ρ2 S2 => .nx ρ2 S2
      | z => z)
    | false => .nx ρ S1 := by
  by_cases hx : ∃ n, wLoop c b n ρ S ≠ .no
  · obtain ⟨n, hn⟩ := hx
    cases n with
    | zero => exact absurd rfl hn
    | succ n =>
      rw [sWhile_eq hn]
      unfold wLoop at hn ⊢
      cases hc : c ρ S with
      | ok k S1 =>
        rw [hc] at hn
        cases k with
        | true =>
          simp only [RE.toS] at hn ⊢
          cases hb : b ρ S1 with
          | nx ρ2 S2 => rw [hb] at hn; exact (sWhile_eq hn).symm
          | ct ρ2 S2 => rw [hb] at hn; exact (sWhile_eq hn).symm
          | _ => rfl
        | false => rfl
      | _ => rfl
  · have e0 : sWhile c b ρ S = .no := by unfold sWhile; rw [dif_neg hx]
    rw [e0]
    have key : ∀ n, wLoop c b n ρ S = .no := fun n => Classical.byContradiction fun z => hx ⟨n, z⟩
    cases hc : c ρ S with
    | ok k S1 =>
      cases k with
      | true =>
        simp only [RE.toS]
        have k1 : ∀ n, (match b ρ S1 with
            | .nx ρ2 S2 => wLoop c b n ρ2 S2
            | .ct ρ2 S2 => wLoop c b n ρ2 S2
            | .bk ρ2 S2 => .nx ρ2 S2
            | z => z) = RS.no := fun n => by
          have := key (n + 1)
          unfold wLoop at this
          rw [hc] at this
          exact this
        cases hb : b ρ S1 with
        | nx ρ2 S2 =>
          simp only [hb] at k1
          show RS.no = sWhile c b ρ2 S2
          unfold sWhile
          rw [dif_neg (fun ⟨n, hn⟩ => hn (k1 n))]
        | ct ρ2 S2 =>
          simp only [hb] at k1
          show RS.no = sWhile c b ρ2 S2
          unfold sWhile
          rw [dif_neg (fun ⟨n, hn⟩ => hn (k1 n))]
        | rt d1 S2 => have z := k1 0; rw [hb] at z; exact (nomatch z)
        | ex d1 ρ2 S2 => have z := k1 0; rw [hb] at z; exact (nomatch z)
        | bk ρ2 S2 => have z := k1 0; rw [hb] at z; exact (nomatch z)
        | no => rfl
      | false =>
        have := key 1
        unfold wLoop at this
        rw [hc] at this
        exact this.symm
    | ex x S1 =>
      have := key 1
      unfold wLoop at this
      rw [hc] at this
      exact this.symm
    | no => rfl
section
variable {X : Cx} {W : WX} {c : Expr} {body : List Stmt} {tc : FT} {b : FS} {pos : Pos}
theorem q_while [Wo] (hp : PassesOwn (model X.prog X.w) X.A X.env X.xe) (hc : PT X c (tT X W tc)) (hb : PSs X body (tS X W b)) : PS X (.While c body [] pos) (tS X W (sWhile tc b)) :=
  PS.wk (ps_while hp hc hb) fun D σ H ⟨w, ρ, S, s, en, h⟩ => by
    refine ⟨fun m σ' H' => ∃ w' ρ' S', Sto X.K X.mg w' S' H' ∧ EnvR X.K X.mg w' H' ρ' σ' ∧ EndS X.K X.mg w' H' (wLoop tc b m ρ' S') D W, ?_, ?_⟩
    · unfold sWhile at h
      split at h
      · exact ⟨_, w, ρ, S, s, en, h⟩
      · exact h.elim
    · rintro m σ' H' ⟨w', ρ', S', s', en', h'⟩
      cases m with
      | zero => exact h'.elim
      | succ n =>
        unfold wLoop at h'
        refine ⟨w', ρ', S', s', en', (h'.of (R := fun _ _ (a b : Bool) => b = a) en').imp ?_ (fun _ _ _ z => z)⟩
        rintro k H1 ⟨w1, S1, k', e1, s1, rfl, h1⟩
        cases k with
        | false => rw [if_neg (by decide)]; exact h1.nx' s1 (en'.ext e1)
        | true =>
          rw [if_pos rfl]
          refine ⟨fun σ2 H2 => ∃ w2 ρ2 S2, Sto X.K X.mg w2 S2 H2 ∧ EnvR X.K X.mg w2 H2 ρ2 σ2 ∧ EndS X.K X.mg w2 H2 (wLoop tc b n ρ2 S2) D W, fun σ2 H2 h2 => ⟨n, Nat.lt_succ_self n, h2⟩, w1, ρ', S1, s1, en'.ext e1, ?_⟩
          revert h1
          cases b ρ' S1 with
          | nx ρ3 S3 => exact fun h4 w3 H3 σ3 e3 s3 en3 => ⟨w3, ρ3, S3, s3, en3, h4.on e3⟩
          | ct ρ3 S3 => exact fun h4 w3 H3 σ3 e3 s3 en3 => ⟨w3, ρ3, S3, s3, en3, h4.on e3⟩
          | bk ρ3 S3 => exact fun h4 => h4
          | rt d S3 => exact fun h4 => h4
          | ex x ρ3 S3 => exact fun h4 => h4
          | no => exact fun h4 => h4
end
def wipeR (ρ : FEnv) : List Nat → FEnv
  | [] => ρ
  | v :: vs => (wipeR ρ vs).set v none
noncomputable def compL (tg : FG) (tt : FT) (te : FE) (g : Option (Nat × List D)) (ρ : FEnv) : List D → List D → Store → RE (List D)
  | [], acc, S => gchk g S (.ok acc S) .no
  | d :: r, acc, S => gchk g S (match tg d ρ S with
    | some (ρ1, S1) => (match tt ρ1 S1 with
      | .ok true S2 => (match te ρ1 S2 with
        | .ok y S3 => if acc.length < sizeLine then compL tg tt te g ρ r (acc ++ [y]) S3 else .no
        | _ => .no)
      | .ok false S2 => compL tg tt te g ρ r acc S2
      | _ => .no)
    | none => .no) .no
/-- c: the list is a cell -/
noncomputable def fLc (c : Bool) (fi : FI) (tg : FG) (tt : FT) (te : FE) (vs : List Nat) : FE := fun ρ S => (fi ρ S).bnd fun p S1 => match compL tg tt te p.2 (wipeR ρ vs) p.1 [] S1 with
  | .ok acc S2 => if c then .ok (.loc S2.length) (S2 ++ [.lst acc]) else .ok (.lst acc) S2
  | _ => .no
def fYes : FT := fun _ S => .ok true S
abbrev W0 : WX := fun _ _ _ _ => False
theorem wipe_eq {σ σ' : L2.St} {vs : List Nat} (hl : σ'.length = σ.length) (h : ∀ i, i ∉ vs → σ'[i]? = σ[i]?) : wipe σ' vs = wipe σ vs := by
  have len : ∀ (σ : L2.St) (vs : List Nat), (wipe σ vs).length = σ.length := fun σ vs => wipe_length σ vs
  have at1 : ∀ (σ : L2.St) (vs : List Nat) (i : Nat), i < σ.length → (wipe σ vs)[i]? = if i ∈ vs then some none else σ[i]? := by
    intro σ vs
    induction vs with
    | nil => intro i _; rw [if_neg (by simp)]; rfl
    | cons v vs ih =>
      intro i hi
      show ((wipe σ vs).set v none)[i]? = _
      by_cases e : i = v
      · subst e
        rw [List.getElem?_set_self (by rw [len]; exact hi), if_pos (by simp)]
      · rw [List.getElem?_set_ne (Ne.symm e), ih i hi]
        by_cases m : i ∈ vs
        · rw [if_pos m, if_pos (List.mem_cons_of_mem _ m)]
        · rw [if_neg m, if_neg (by simp [e, m])]
  refine List.ext_getElem? fun i => ?_
  by_cases hi : i < σ.length
  · rw [at1 σ' vs i (hl ▸ hi), at1 σ vs i hi]
    split
    · rfl
    · rename_i m; exact h i m
  · rw [List.getElem?_eq_none (by rw [len, hl]; omega), List.getElem?_eq_none (by rw [len]; omega)]
theorem EnvR.wipe {K : PySem.W.Frag} {mg : Str → Option Value} {w : Wd} {H : Hp} {ρ : FEnv} {σ : L2.St} (en : EnvR K mg w H ρ σ) : ∀ vs : List Nat, EnvR K mg w H (wipeR ρ vs) (L2.wipe σ vs)
  | [] => en
  | v :: vs => (EnvR.wipe en vs).wipe1
theorem wipe_wipe (σ : L2.St) (vs : List Nat) : L2.wipe (L2.wipe σ vs) vs = L2.wipe σ vs := wipe_eq (wipe_length σ vs) fun i hi => wipe_out hi
section
variable {X : Cx} {W : WX} {elt tg iter : Expr} {ifs : List Expr} {scope : Scope} {own : List (Str × Nat)} {pos : Pos} {fi : FI} {g : FG} {sl : List Nat} {tt : FT} {te : FE}
theorem qts_nil [Wo] : PTs X [] (tT X W fYes) := ⟨fun pins s σ H Q I ⟨w, ρ, S, st, en, h⟩ => pts_nil.run pins s σ H Q I (h.ret st rfl)⟩
/-- the reading of a comprehension -/
theorem lc_core' [Wo] {σ : L2.St} {H : Hp} {Q : VK} {c : Bool} {vs : List Nat} (hsl : ∀ i ∈ sl, i ∈ vs) (h : tF X W (fLc c fi g tt te vs) σ H Q) : tLc (tI X W fi) (tG X sl g) (tT X W0 tt) (tF X W0 te) vs σ H Q := by
  obtain ⟨w, ρ, S, s, en, h⟩ := h
  refine ⟨w, ρ, S, s, en, (End.bind (R := ItOk X.K X.mg) h).imp ?_ (fun _ _ _ z => z)⟩
  rintro J H1 ⟨w1, S1, ⟨items, gu⟩, e1, s1, J1, h1⟩ C hC
  have enw : EnvR X.K X.mg w1 H1 (wipeR ρ vs) (wipe σ vs) := (en.ext e1).wipe vs
  -- what is left to do, from the items, the list so far and the store
  let fin : RE (List D) → RE D := fun r => match r with
    | .ok acc S2 => if c then .ok (.loc S2.length) (S2 ++ [.lst acc]) else .ok (.lst acc) S2
    | _ => .no
  have h1' : End X.K X.mg (fun w H => Rp X.K X.mg w H) w1 H1 (fin (compL g tt te gu (wipeR ρ vs) items [] S1)) Q (fun c od H' => W c od σ H') := h1
  let G : Hp → List D → Store → RE (List D) → Prop := fun H' acc S' r => ∃ w' xs, ExtD C w1 H1 w' H' ∧ Sto X.K X.mg w' S' H' ∧ H' C = some (.lst xs) ∧ RpL X.K X.mg w' H' acc xs ∧ ∃ r0, fin r = r0 ∧ End X.K X.mg (fun w H => Rp X.K X.mg w H) w1 H1 r0 Q (fun c od H' => W c od σ H')
  refine ⟨fun i m H' => ∃ acc S', i + m = items.length ∧ G H' acc S' (compL g tt te gu (wipeR ρ vs) (items.drop i) acc S'), ⟨items.length, [], S1, by omega, ⟨w1.φ, C :: w1.hd⟩, [], ExtD.begin_ hC, s1.mvd hC, upd_same, RpL.nil, _, rfl, h1'⟩, ?_⟩
  rintro i m H' ⟨acc, S', hm, w', xs, ed, s', hx, ra, r0, hr0, he⟩
  have hCin : C ∈ w'.hd := by rw [ed.hd]; exact List.mem_cons_self
  have no_end : ∀ {r : RE D}, r = .no → End X.K X.mg (fun w H => Rp X.K X.mg w H) w1 H1 r Q (fun c od H' => W c od σ H') → False := fun e h => by rw [e] at h; exact h
  cases hd : items.drop i with
  | nil =>
    rw [hd] at hr0
    unfold compL at hr0
    unfold gchk at hr0
    split at hr0
    · rename_i gd1
      have hl : items.length ≤ i := List.drop_eq_nil_iff.mp hd
      refine .inl ⟨(J1 w' S' H' ed.mv s' gd1).1 i hl, ?_⟩
      have hout : some C ∉ w'.φ := (s'.ap C hCin).2
      have hnh : C ∉ w1.hd := fun z => (s1.ap C z).1 hC
      have mv := Mv.show (H := H') ed.hd
      have s3 := s'.show ed.hd ⟨xs, hx⟩
      have ra3 := RpL.mv mv _ _ ra
      subst hr0
      cases c with
      | false =>
        refine he ⟨w'.φ, w1.hd⟩ H' (.ref C) ed.done s3 ?_
        show Rp _ _ _ _ _ _
        unfold Rp
        exact ⟨C, xs, rfl, hx, ⟨hout, hnh⟩, ra3⟩
      | true =>
        -- the new list becomes a cell
        have ph : ∀ (n : Nat) a, (w'.φ ++ [some C])[n]? = some (some a) → (w'.φ[n]? = some (some a) ∧ n < w'.φ.length) ∨ (n = w'.φ.length ∧ a = C) := fun n a hk => by
          by_cases hl : n < w'.φ.length
          · rw [List.getElem?_append_left hl] at hk; exact .inl ⟨hk, hl⟩
          · have hl' : w'.φ.length ≤ n := Nat.le_of_not_lt hl
            rw [List.getElem?_append_right hl'] at hk
            have : n - w'.φ.length = 0 := by
              cases e : n - w'.φ.length with
              | zero => rfl
              | succ j => rw [e] at hk; simp at hk
            rw [this] at hk; simp at hk
            exact .inr ⟨by omega, hk.symm⟩
        have mv2 : Mv w' H' ⟨w'.φ ++ [some C], w1.hd⟩ H' := ⟨fun a o h n => by
          have hne : a ≠ C := fun z => by subst z; exact n.2 hCin
          refine ⟨h, fun z => ?_, fun z => n.2 (by rw [ed.hd]; exact List.mem_cons_of_mem _ z)⟩
          rcases List.mem_append.mp (show some a ∈ w'.φ ++ [some C] from z) with z | z
          · exact n.1 z
          · simp at z; exact hne z, by show _ ≤ (w'.φ ++ [some C]).length; rw [List.length_append]; omega, fun n a h l => by
          rcases ph n a h with z | z
          · exact z.1
          · omega⟩
        have ex2 : Ext w1 H1 ⟨w'.φ ++ [some C], w1.hd⟩ H' := ⟨ed.done.fr, Nat.le_trans ed.ln mv2.ln, fun n a h l => by
          rcases ph n a h with z | z
          · exact ed.ph n a z.1 l
          · have := ed.ln; omega, fun a h => by
          rcases List.mem_append.mp (show some a ∈ w'.φ ++ [some C] from h) with z | z
          · exact ed.nw a z
          · simp at z; subst z; exact .inr hC, rfl⟩
        have ra4 := RpL.mv mv2 _ _ ra
        have s4 : Sto X.K X.mg ⟨w'.φ ++ [some C], w1.hd⟩ (S' ++ [.lst acc]) H' := by
          refine ⟨by show (w'.φ ++ [some C]).length = _; rw [List.length_append, List.length_append, s'.len]; rfl, fun m n a q1 q2 => ?_, fun a ha => ⟨(s3.ap a ha).1, fun z => ?_⟩, fun n cc hc => ?_⟩
          · rcases ph m a q1 with ⟨z1, z2⟩ | ⟨z1, z2⟩ <;> rcases ph n a q2 with ⟨y1, y2⟩ | ⟨y1, y2⟩
            · exact s'.nd m n a z1 y1
            · subst y2; exact absurd (List.mem_of_getElem? z1) hout
            · subst z2; exact absurd (List.mem_of_getElem? y1) hout
            · omega
          · rcases List.mem_append.mp (show some a ∈ w'.φ ++ [some C] from z) with z | z
            · exact (s3.ap a ha).2 z
            · simp at z; subst z; exact hnh ha
          · by_cases hl : n < S'.length
            · rw [List.getElem?_append_left hl] at hc
              have c0 := s'.cell n cc hc
              have gl : (w'.φ ++ [some C])[n]? = w'.φ[n]? := List.getElem?_append_left (s'.len ▸ hl)
              unfold CellR at c0 ⊢
              split at c0
              · obtain ⟨b, ys, h2, h3, h4⟩ := c0; exact ⟨b, ys, by rw [← gl] at h2; exact h2, h3, RpL.mv mv2 _ _ h4⟩
              · obtain ⟨b, ys, o', h2, h3, h4⟩ := c0; exact ⟨b, ys, o', by rw [← gl] at h2; exact h2, h3, RpL.mv mv2 _ _ h4⟩
              · rw [← gl] at c0; exact c0
              · obtain ⟨c1, P, ht, t1, t2⟩ := c0; exact ⟨c1, P, ht, by rw [gl]; exact t1, TabW.mv mv2 rfl t2⟩
              · obtain ⟨y1, y2, y3, ⟨φ, y4, y6⟩, y5⟩ := c0
                refine ⟨by rw [gl]; exact y1, ?_, fun z => ?_, ⟨φ, y4, y6⟩, y5⟩
                · rw [ed.hd] at y2
                  rcases List.mem_cons.mp y2 with z | z
                  · rw [z, hx] at y4; cases y4
                  · exact z
                · rcases List.mem_append.mp (show some sysModules ∈ w'.φ ++ [some C] from z) with z | z
                  · exact y3 z
                  · simp at z; rw [z, hx] at y4; cases y4
              · exact ⟨by rw [gl]; exact c0.1, EnvR.mv mv2 c0.2⟩
              · obtain ⟨b, C1, dx, vs', h2, h3, h4, h5, h6⟩ := c0; exact ⟨b, C1, dx, vs', by rw [gl]; exact h2, h3, h4, h5, RpL.mv mv2 _ _ h6⟩
              · obtain ⟨b, es, h2, h3, h4, h5, h6, h7⟩ := c0; exact ⟨b, es, by rw [gl]; exact h2, h3, h4, h5, dct_mv mv2 h6, RpL.mv mv2 _ _ h7⟩
            · have hl' : S'.length ≤ n := Nat.le_of_not_lt hl
              rw [List.getElem?_append_right hl'] at hc
              have e0 : n - S'.length = 0 := by
                cases e : n - S'.length with
                | zero => rfl
                | succ j => rw [e] at hc; simp at hc
              rw [e0] at hc; simp at hc; subst hc
              have en' : n = w'.φ.length := by rw [s'.len]; omega
              subst en'
              exact ⟨C, xs, by show (w'.φ ++ [some C])[w'.φ.length]? = _; rw [List.getElem?_append_right (Nat.le_refl _), Nat.sub_self]; rfl, hx, ra4⟩
        refine he ⟨w'.φ ++ [some C], w1.hd⟩ H' (.ref C) ex2 s4 ?_
        show Rp _ _ _ _ _ _
        unfold Rp
        refine ⟨by show S'.length < (w'.φ ++ [some C]).length; rw [List.length_append, s'.len]; exact Nat.lt_succ_self _, fun a ha => ?_⟩
        have ha' : (w'.φ ++ [some C])[S'.length]? = some (some a) := ha
        rw [← s'.len, List.getElem?_append_right (Nat.le_refl _), Nat.sub_self] at ha'
        simp at ha'; rw [ha']
    · exact (no_end hr0.symm he).elim
  | cons d r =>
    rw [hd] at hr0
    unfold compL at hr0
    unfold gchk at hr0
    split at hr0
    · rename_i gd1
      have hi' : items[i]? = some d := by
        have := congrArg (·[0]?) hd
        simpa using this
      have hr : items.drop (i + 1) = r := by
        have := congrArg List.tail hd
        simpa using this
      have hlt : i < items.length := (List.getElem?_eq_some_iff.mp hi').1
      obtain ⟨j1, j2⟩ := (J1 w' S' H' ed.mv s' gd1).2 i d hi'
      refine .inr ⟨j1, fun H2 => ∃ acc2 S2, G H2 acc2 S2 (compL g tt te gu (wipeR ρ vs) r acc2 S2), fun H2 ⟨acc2, S2, z⟩ => ⟨m - 1, by omega, acc2, S2, by omega, by rw [hr]; exact z⟩, ?_⟩
      intro x H'' hy
      obtain ⟨j3, j4, j5⟩ := j2 x H'' hy
      have enw' : EnvR X.K X.mg w' H'' (wipeR ρ vs) (wipe σ vs) := (enw.mv ed.mv).ext j3
      refine ⟨w', wipeR ρ vs, S', d, j4, enw', j5, ?_⟩
      split at hr0
      · rename_i ρ1 S1' hg1
        rw [hg1]
        intro w2 H2 σ2 e2 s2 en2 k2 l2
        have hw : wipe σ2 vs = wipe σ vs := by
          rw [← wipe_wipe σ vs]
          exact wipe_eq l2 fun i hi => k2 i (fun z => hi (hsl i z))
        refine ⟨hw, w2, ρ1, S1', s2, en2, ?_⟩
        have ed2 : ExtD C w1 H1 w2 H2 := (ed.step j3).step e2
        split at hr0
        · rename_i S2' ht
          rw [ht]
          intro w3 H3 b e3 s3 hb
          cases hb
          rw [if_pos rfl]
          refine ⟨w3, ρ1, S2', s3, en2.ext e3, ?_⟩
          split at hr0
          · rename_i y S3' hy'
            rw [hy']
            intro w4 H4 u e4 s4 r4
            have ed4 : ExtD C w1 H1 w4 H4 := (ed2.step e3).step e4
            have hC4 : C ∈ w4.hd := by rw [ed4.hd]; exact List.mem_cons_self
            have exx : Ext w' H' w4 H4 := ((j3.trans e2).trans e3).trans e4
            have hx4 : H4 C = some (.lst xs) := exx.fr C _ hx (s'.ap C hCin).2
            have ra4 := RpL.ext exx _ _ ra
            split at hr0
            · rename_i hlen
              refine ⟨xs, hx4, by rw [← ra.length]; exact hlen, acc ++ [y], S3', w4, xs ++ [u], ed4.poke, s4.poke hC4 ⟨xs, hx4⟩, upd_same, ?_, _, hr0, he⟩
              exact (RpL.mv (Mv.poke hC4) _ _ ra4).append (RpL.one (Rp.mv (Mv.poke hC4) _ _ r4))
            · exact (no_end hr0.symm he).elim
          · exact (no_end hr0.symm he).elim
        · rename_i S2' ht
          rw [ht]
          intro w3 H3 b e3 s3 hb
          cases hb
          rw [if_neg (by decide)]
          have exx : Ext w' H' w3 H3 := (j3.trans e2).trans e3
          exact ⟨acc, S2', w3, xs, ed2.step e3, s3, exx.fr C _ hx (s'.ap C hCin).2, RpL.ext exx _ _ ra, _, hr0, he⟩
        · exact (no_end hr0.symm he).elim
      · exact (no_end hr0.symm he).elim
    · exact (no_end hr0.symm he).elim
theorem q_lc [Wo] {c : Bool} (hc : X.calm = true) (hN : X.N.Nodup) (hi : PI X tg iter (tI X W fi)) (ok : BlkOk X.N X.env.scope scope own) (hsl : ∀ i ∈ sl, i ∈ own.map (·.2))
    (hg : ∀ (s : Shared) (H : Hp) (C : Addr) (cl : List (Str × Addr)) (fp : List Addr), PG (X.blk s H scope (compEnvC scope cl C X.env) fp) tg (tG (X.blk s H scope (compEnvC scope cl C X.env) fp) sl g)) (ht : ∀ (s : Shared) (H : Hp) (C : Addr) (cl : List (Str × Addr)) (fp : List Addr), PTs (X.blk s H scope (compEnvC scope cl C X.env) fp) ifs (tT (X.blk s H scope (compEnvC scope cl C X.env) fp) W0 tt))
    (he : ∀ (s : Shared) (H : Hp) (C : Addr) (cl : List (Str × Addr)) (fp : List Addr), PE (X.blk s H scope (compEnvC scope cl C X.env) fp) elt (tF (X.blk s H scope (compEnvC scope cl C X.env) fp) W0 te)) (hs : ∀ x, foldedSetIterable iter X.env x = pure x := by intro _; rfl) :
    PE X (.ListComp elt [⟨tg, iter, ifs, 0⟩] scope pos) (tF X W (fLc c fi g tt te (own.map (·.2)))) :=
  PE.wk (pe_lc (g := tG X sl g) (tt := tT X W0 tt) (te := tF X W0 te) hc hN hi ok hg ht he hs) fun σ H Q h => lc_core' hsl h
end
end Kw
namespace Kw
open PySem PySem.Spec PyProof.Rows L2
/-- a constant's value -/
def CV (d : D) (v : V) : Prop := match d with
  | .int i => v = .int i
  | .str z => v = .str z
  | _ => False
theorem CV.rp {K : PySem.W.Frag} {mg : Str → Option Value} {w : Wd} {H : Hp} {d : D} {v : V} (h : CV d v) : Rp K mg w H d v := by
  cases d <;> first | (exact h.elim) | (have h' := h; unfold CV at h'; subst h'; unfold Rp; rfl)
/-- the name x holds the constant d -/
def GC (mg : Str → Option Value) (x : Str) (d : D) : Prop := ∃ v u, mg x = some u ∧ RelV v u ∧ CV d v
/-- .. a dict with text keys and constants -/
def GD (K : PySem.W.Frag) (P : Params) (mg : Str → Option Value) (x : Str) (kvs : List (Str × D)) : Prop :=
  ∃ a es n, mg x = some (.ref a) ∧ K.lookup a = some ⟨.type "dict", none, .dict es n, #[]⟩ ∧ PySem.W.KeysLit P es.toList ∧ (a == sysModules) = false ∧
    ∀ z, match kvs.lookup z with
      | some d => ∃ u v, PySem.W.nsIn K a z = some (some u) ∧ RelV v u ∧ CV d v
      | none => PySem.W.nsIn K a z = some none
inductive Ents : List DictEntry → List (Str × D) → Prop
  | nil : Ents [] []
  | cons {h : Int} {k : Str} {t : Tok} {u : Value} {v : V} {d : D} {es : List DictEntry} {kvs : List (Str × D)} (r : RelV v u) (c : CV d v) (rest : Ents es kvs) : Ents (⟨h, .str k t, u⟩ :: es) ((k, d) :: kvs)
theorem Ents.find {es : List DictEntry} {kvs : List (Str × D)} (e : Ents es kvs) (z : Str) : match kvs.lookup z with
      | some d => ∃ en v, es.find? (·.key.isStr z) = some en ∧ RelV v en.val ∧ CV d v
      | none => es.find? (·.key.isStr z) = none := by
  induction e with
  | nil => rfl
  | @cons h k t u v d es kvs r c rest ih =>
    by_cases hz : z = k
    · subst hz
      have e1 : List.lookup z ((z, d) :: kvs) = some d := by simp [List.lookup]
      rw [e1]
      refine ⟨⟨h, .str z t, u⟩, v, ?_, r, c⟩
      rw [List.find?_cons_of_pos]
      simp [PySem.W.isStr_of, Value.isStrOf]
    · have e1 : List.lookup z ((k, d) :: kvs) = List.lookup z kvs := by
        have : (z == k) = false := by simpa using hz
        simp [List.lookup, this]
      rw [e1]
      have e2 : List.find? (·.key.isStr z) ((⟨h, .str k t, u⟩ : DictEntry) :: es) = List.find? (·.key.isStr z) es := by
        rw [List.find?_cons_of_neg]
        simp [PySem.W.isStr_of, Value.isStrOf]
        exact fun q => hz q.symm
      rw [e2]; exact ih
theorem Ents.noRef {es : List DictEntry} {kvs : List (Str × D)} (e : Ents es kvs) : es.any (·.refKey) = false := by
  induction e with
  | nil => rfl
  | cons r c rest ih => rw [List.any_cons, ih]; rfl
theorem GD.of {K : PySem.W.Frag} {P : Params} {mg : Str → Option Value} {x : Str} {kvs : List (Str × D)} {a : Addr} {es : Array DictEntry} {n : Nat} (m : mg x = some (.ref a)) (l : K.lookup a = some ⟨.type "dict", none, .dict es n, #[]⟩) (k : PySem.W.KeysLit P es.toList) (s : (a == sysModules) = false) (e : Ents es.toList kvs) : GD K P mg x kvs := by
  refine ⟨a, es, n, m, l, k, s, fun z => ?_⟩
  have f := e.find z
  have u : PySem.W.nsIn K a z = match es.toList.find? (·.key.isStr z) with
      | some e => some (some e.val)
      | none => if es.toList.any (·.refKey) then none else some none := by unfold PySem.W.nsIn; rw [l]; rfl
  split at f
  · obtain ⟨en, v, f1, f2, f3⟩ := f
    exact ⟨en.val, v, by rw [u, f1], f2, f3⟩
  · rw [u, f, e.noRef]; rfl
theorem RpL.ints {K : PySem.W.Frag} {mg : Str → Option Value} {w : Wd} {H : Hp} : ∀ ns : List Int, RpL K mg w H (ns.map D.int) (ns.map V.int)
  | [] => RpL.nil
  | i :: r => RpL.cons (by unfold Rp; rfl) (RpL.ints r)
def gInG (neg : Bool) (n : Str) (kvs : List (Str × D)) (x y : D) (S : Store) : RE D := match x, y with
  | .str z, .glo m => if m = n then .ok (.bl (xor neg (kvs.lookup z).isSome)) S else .no
  | _, _ => .no
def gIxG (n : Str) (kvs : List (Str × D)) (x y : D) (S : Store) : RE D := match x, y with
  | .glo m, .str z => if m = n then (match kvs.lookup z with
    | some d => .ok d S
    | none => .no) else .no
  | _, _ => .no
def gNeg (x : D) (S : Store) : RE D := match x with
  | .int i => .ok (.int (-i)) S
  | _ => .no
section
variable {X : Cx} {W : WX} {a b e : Expr} {es : List Expr} {fa fb : FE} {fs : FA} {pos : Pos} {x : Str} {kvs : List (Str × D)} {d : D}
theorem q_gc [Wo] (h : GC X.mg x d) (hg : Gl X x) (hd : (x == ("__debug__" : Str)) = false := by decide) : PE X (.Name x pos) (tF X W (fC d)) := by
  obtain ⟨v, u, m, r, c⟩ := h
  exact q_const (fun w H => c.rp) (pe_glob hg m r hd)
theorem q_gd [Wo] (h : GD X.K X.w.params X.mg x kvs) (hg : Gl X x) (hd : (x == ("__debug__" : Str)) = false := by decide) : PE X (.Name x pos) (tF X W (fC (.glo x))) := by
  obtain ⟨a, es, n, m, _⟩ := h
  exact q_const (v := .ref a) (fun w H => by unfold Rp; exact ⟨a, rfl, m⟩) (pe_glob hg m rfl hd)
theorem op_inG [Wo] {neg : Bool} {op : CmpOp} (ho : op = if neg then .NotIn else .In) (h : GD X.K X.w.params X.mg x kvs) : ∃ r, OpR X (compareOp op) r ∧ OpV X.K X.mg r (gInG neg x kvs) := by
  obtain ⟨a, es, n, m, l, k, s, f⟩ := h
  have D : KDict X.K X.w a es n := ⟨l, k, s⟩
  have key : ∀ z, PySem.W.nsIn X.K a z = some (match kvs.lookup z with
      | some d => PySem.W.nsIn X.K a z |>.getD none
      | none => none) ∧ ((match kvs.lookup z with
      | some d => PySem.W.nsIn X.K a z |>.getD none
      | none => none).isSome = (kvs.lookup z).isSome) := fun z => by
    have fz := f z
    split at fz
    · rename_i d hd
      obtain ⟨u, v, f1, _, _⟩ := fz
      rw [hd, f1]; exact ⟨rfl, rfl⟩
    · rename_i hd
      rw [hd]; exact ⟨fz, rfl⟩
  have body : ∀ (w : Wd) (S : Store) (H : Hp) (x' y : V) (d e : Kw.D) (Q : VK) (E : Value → Option Addr → Hp → Prop), Sto X.K X.mg w S H → Rp X.K X.mg w H d x' → Rp X.K X.mg w H e y → End X.K X.mg (fun w H => Rp X.K X.mg w H) w H (gInG neg x kvs d e S) Q E → ∃ (z : Str) (r : Option Value), x' = .str z ∧ y = .ref a ∧ PySem.W.nsIn X.K a z = some r ∧ Q (.bl (xor neg r.isSome)) H := by
    intro w S H x' y d e Q E st r1 r2 h
    cases d <;> cases e <;> simp only [gInG] at h <;> try exact h.elim
    rename_i z m'
    split at h
    · rename_i em
      subst em
      unfold Rp at r2
      obtain ⟨b, e1, e2⟩ := r2
      rw [m] at e2; cases e2
      obtain ⟨k1, k2⟩ := key z
      exact ⟨z, _, rp_str r1, e1, k1, by rw [k2]; exact h.ret st rp_b⟩
    · exact h.elim
  cases neg with
  | false =>
    subst ho
    refine ⟨_, op_in_kd D, fun w S H x' y d e Q E st r1 r2 h => ?_⟩
    obtain ⟨z, r, h1, h2, h3, h4⟩ := body w S H x' y d e Q E st r1 r2 h
    exact ⟨z, r, h1, h2, h3, by simpa using h4⟩
  | true =>
    subst ho
    refine ⟨_, op_notIn_kd D, fun w S H x' y d e Q E st r1 r2 h => ?_⟩
    obtain ⟨z, r, h1, h2, h3, h4⟩ := body w S H x' y d e Q E st r1 r2 h
    exact ⟨z, r, h1, h2, h3, by simpa using h4⟩
theorem qt_inG [Wo] (h : GD X.K X.w.params X.mg x kvs) (ha : PE X a (tF X W fa)) (hb : PE X b (tF X W fb)) (hm : behindInMarks .In b = false := by rfl) : PT X (.Compare a [.In] [b] pos) (tT X W (fB (f2 (gInG false x kvs) fa fb))) := by
  obtain ⟨r, h1, h2⟩ := op_inG (neg := false) (op := .In) rfl h
  exact qt_cmp h1 h2 ha hb hm
theorem q_ixG [Wo] (h : GD X.K X.w.params X.mg x kvs) (ha : PE X a (tF X W fa)) (hb : PE X b (tF X W fb)) (hs : PlainIx b := by intro _ _; rfl) : PE X (.Subscript a b pos) (tF X W (f2 (gIxG x kvs) fa fb)) := by
  obtain ⟨p, es, n, m, l, k, s, f⟩ := h
  refine PE.wk (pe_ix ix_kdict ha hb hs) fun σ H Q h0 => two (fun w S H x' y d e Q E st r1 r2 h => ?_) h0
  cases d <;> cases e <;> simp only [gIxG] at h <;> try exact h.elim
  rename_i m' z
  split at h
  · rename_i em
    clear h0
    subst em
    split at h
    · rename_i d hd
      have fz := f z
      rw [hd] at fz
      obtain ⟨u, v, f1, f2, f3⟩ := fz
      unfold Rp at r1
      obtain ⟨b, e1, e2⟩ := r1
      rw [m] at e2; cases e2
      exact ⟨p, z, v, e1, rp_str r2, ⟨es, n, u, l, k, f1, f2⟩, h.ret st f3.rp⟩
    · exact h.elim
  · exact h.elim
theorem q_neg [Wo] (ha : PE X a (tF X W fa)) : PE X (.UnaryOp .USub a pos) (tF X W (f1 gNeg fa)) := PE.wk (pe_un un_neg ha) fun σ H Q ⟨w, ρ, S, s, en, h⟩ =>
  ⟨w, ρ, S, s, en, (End.bind (R := fun w H => Rp X.K X.mg w H) h).imp (fun v H1 ⟨w1, S1, d, e1, s1, r1, h1⟩ => by
    cases d <;> simp only [gNeg] at h1 <;> try exact h1.elim
    exact ⟨_, rp_int r1, h1.ret s1 rp_i⟩) (fun _ _ _ z => z)⟩
/-- s.index(t) -/
def fStrIx (a : FE) (b : FE) : FE := fun ρ S => (a ρ S).bnd fun x S1 => match x with
  | .str z => (b ρ S1).bnd fun y S2 => (match y with
    | .str t => (match Txt.index0 z t with
      | some k => .ok (.int (k : Nat)) S2
      | none => .no)
    | _ => .no)
  | _ => .no
theorem q_strIx [Wo] {apos cpos : Pos} (hc : X.calm = true) (tk : Takes X W) (ho : PE X a (tF X W fa)) (hb : PE X b (tF X W fb))
    (hs1 : starEach [b] X.env = (false, eval b X.env) :: starEach [] X.env := by rfl)
    (hbase : attributeBase a "index" X.env (eval a X.env) = eval a X.env := by rfl)
    (hfew : ((backTo cpos (starEach [b] X.env)).all (fun x => !x.1) && (backToKw cpos (keywordEach [] X.env)).all (fun x => x.1.isSome)
      && decide (([b] : List Expr).length + ([] : List Keyword).length + (if ([] : List Keyword).isEmpty then 0 else 1) < 30)) = true := by rfl)
    (hline : (apos.endLine == cpos.line) = true := by rfl) (hplain : (backTo cpos (starEach [] X.env)).any (·.1) = false := by rfl) : PE X (.Call (.Attribute a "index" apos) [b] [] cpos) (tF X W (fStrIx fa fb)) :=
  PE.wk (pe_bmS PySem.F.plainAttrs_str PySem.F.slot_str_index PySem.F.type_str_index (mt_indexX hc tk) ho (pa_cons hb pa_nil hs1) hbase hfew hline hs1 hplain) fun σ H Q ⟨w, ρ, S, s, en, h⟩ => by
    refine ⟨w, ρ, S, s, en, (End.bind (R := fun w H => Rp X.K X.mg w H) h).imp ?_ (fun _ _ _ z => z)⟩
    rintro v H1 ⟨w1, S1, d, e1, s1, r1, h1⟩
    cases d <;> try exact h1.elim
    rename_i z
    refine ⟨by rw [rp_str r1]; rfl, w1, ρ, S1, s1, en.ext e1, (End.bind (R := fun w H => Rp X.K X.mg w H) h1).imp ?_ (fun _ _ _ z => z)⟩
    rintro u H2 ⟨w2, S2, d2, e2, s2, r2, h2⟩
    cases d2 <;> try exact h2.elim
    rename_i t
    simp only at h2
    split at h2
    · rename_i k hk
      refine ⟨z, t, rp_str r1, by rw [rp_str r2], fun k' hk' => ?_, fun hn => ?_⟩
      · rw [hk] at hk'; cases hk'
        exact h2.ret s2 rp_i
      · rw [hk] at hn; cases hn
    · exact h2.elim
end
def ExcF (K : PySem.W.Frag) (mg : Str → Option Value) (x : Str) : Prop := ∃ C, mg x = some (.ref C) ∧ PySem.W.excIn K C [.type "ValueError", .type "Exception", .type "BaseException", .type "object"] "ValueError.__new__" = true ∧
  PySem.W.keepIn K (.ref C) = true ∧ PySem.W.subIn K (.ref C) (.type "BaseException") = some true ∧ PySem.W.typeIn K (.ref C) = some (.type "type")
def sRaise (x : Str) : FS := fun ρ S => .ex ⟨x, [], []⟩ ρ S
def RS.noX (r : RS) : RS := match r with
  | .ex _ _ _ => .no
  | r => r
section
variable {X : Cx} {W : WX} {x m : Str} {j : Nat} {p p2 pos pos' : Pos}
theorem q_raise [Wo] (hc : X.calm = true) (tk : Takes X W) (h : ExcF X.K X.mg x) (hg : Gl X x) (hdb : (x == ("__debug__" : Str)) = false := by decide) : PS X (.Raise (some (.Call (.Name x p) [.Constant (.str m) j p2] [] pos)) none pos') (tS X W (sRaise x)) := by
  obtain ⟨C, gC, xC, kC, bC, tC⟩ := h
  refine PS.wk (ps_raise hc tk (pmk_own PySem.F.excBase_ValueError xC gC kC (raises_own bC tC) hg hdb)) fun D σ H ⟨w, ρ, S, s, en, h⟩ => ?_
  exact h w H σ (.ref C) none Ext.refl s en ⟨gC, .inl ⟨rfl, rfl, rfl⟩⟩
end
end Kw
namespace Kw
open PySem PySem.Spec PyProof.Rows L2
/-- the def x stands at the module's top -/
def TF (K : PySem.W.Frag) (mg : Str → Option Value) (x : Str) (st : Stmt) (ps : List Str) : Prop := ∃ f fd, Fun K x x st f fd ∧ mg x = some (.ref f) ∧ Binds K fd ps []
section
variable {K : PySem.W.Frag} {mg : Str → Option Value} {h : Heap}
theorem tf_mk {x : Str} {st : Stmt} {ps : List Str} {f : Addr} {oc : Value} {od an : Option Addr} {osl : Array (Option Value)} {kV doc pm cdv ct : Value} (X : K.In h) (G : h.Ns mainGlobals mg) (a : PySem.W.nsIn K mainGlobals x = some (some (.ref f)))
    (l : K.lookup f = some ⟨oc, od, .func (PySem.W.fnOf x x (defArgs st) (defBody st) (defScope st) .none kV doc pm an cdv ct), osl⟩) (c : PySem.W.codeIn K cdv x = true) (k : PySem.W.keepIn K (.ref f) = true)
    (hb : ∀ (kV doc pm : Value) (an : Option Addr) (cdv ct : Value) (us : List Value), us.length = ps.length → bindArgs (PySem.W.fnOf x x (defArgs st) (defBody st) (defScope st) .none kV doc pm an cdv ct) ⟨us, []⟩ = pure (ps.zip us)) : TF K mg x st ps :=
  ⟨f, _, fun_mk l c k, PySem.W.mg_of X G a, (fun_mk l c k).binds hb⟩
theorem bl_mk {x : Str} (X : K.In h) (G : h.Ns mainGlobals mg) (z : PySem.W.nsIn K mainGlobals x = some none) : mg x = none := PySem.W.mg_none_of X G z
theorem gc_str {x : Str} {i : Str} {t : Tok} (X : K.In h) (G : h.Ns mainGlobals mg) (z : PySem.W.nsIn K mainGlobals x = some (some (.str i t))) : GC mg x (.str i) := ⟨.str i, _, PySem.W.mg_of X G z, ⟨t, rfl⟩, rfl⟩
theorem gd_mk {P : Params} {x : Str} {kvs : List (Str × D)} {a : Addr} {es : Array DictEntry} {n : Nat} (X : K.In h) (G : h.Ns mainGlobals mg) (z : PySem.W.nsIn K mainGlobals x = some (some (.ref a))) (l : K.lookup a = some ⟨.type "dict", none, .dict es n, #[]⟩) (k : PySem.W.KeysLit P es.toList) (s : (a == sysModules) = false) (e : Ents es.toList kvs) : GD K P mg x kvs :=
  GD.of (PySem.W.mg_of X G z) l k s e
theorem exc_mk {x : Str} {C : Addr} (X : K.In h) (G : h.Ns mainGlobals mg) (z : PySem.W.nsIn K mainGlobals x = some (some (.ref C))) (h1 : PySem.W.excIn K C [.type "ValueError", .type "Exception", .type "BaseException", .type "object"] "ValueError.__new__" = true)
    (h2 : PySem.W.keepIn K (.ref C) = true) (h3 : PySem.W.subIn K (.ref C) (.type "BaseException") = some true) (h4 : PySem.W.typeIn K (.ref C) = some (.type "type")) : ExcF K mg x := ⟨C, PySem.W.mg_of X G z, h1, h2, h3, h4⟩
end
section
variable {P : Program} {w : World} {K : PySem.W.Frag} {mg : Str → Option Value} {base : Heap}
theorem cal_zero [Wo] {x : Str} {st : Stmt} {ps : List Str} (T : TF K mg x st ps) (hps : ps = (defArgs st).args.map (·.arg) := by rfl) : Cal P w K mg base 0 x (fun _ _ => .no) := by
  obtain ⟨f, fd, F, m, b⟩ := T
  exact ⟨f, fd, ps, ⟨fun vs H Q E ⟨w, S, ds, s, r, l, h⟩ => by rw [← r.length]; exact l, fun A outer s H args us vs Q E _ _ _ _ ⟨w, S, ds, st, r, l, h⟩ => h.elim⟩, m, F.kp, b, fun _ _ _ => rfl, hps.trans (fun_names F).symm, fun_look F⟩
theorem calB [Wo] {x : Str} {st : Stmt} {N ps : List Str} {k : Nat} {b : FS} (T : TF K mg x st ps) (S : FnScope N ps (defScope st))
    (hb : ∀ (f : Addr) (cdv : Value) (A : Around) (outer : List Env) (s : Shared) (H : Hp) (E : XK), RoomG k (A.deeper (envOfC x (defScope st) s.heap.objs.size f cdv)) →
      PSs (cxOf (L2.CX P w) P w K mg base N x (defScope st) f cdv A outer s H E) (defBody st) (tS (cxOf (L2.CX P w) P w K mg base N x (defScope st) f cdv A outer s H E) (fun c d _ H => E c d H) b)) (hps : ps = (defArgs st).args.map (·.arg) := by rfl) :
    Cal P w K mg base (k + 1) x (fnB ps.length N.length b) := by
  obtain ⟨f, fd, F, m, bd⟩ := T
  exact cal_B F S m bd hps (hb f)
theorem calC [Wo] {x : Str} {st : Stmt} {N ps : List Str} {k : Nat} {b : FS} (T : TF K mg x st ps) (S : FnScope N ps (defScope st))
    (hb : ∀ (f : Addr) (cdv : Value) (A : Around) (outer : List Env) (s : Shared) (H : Hp) (E : XK), RoomG k (A.deeper (envOfC x (defScope st) s.heap.objs.size f cdv)) →
      PSs (cxOf (L2.CX P w) P w K mg base N x (defScope st) f cdv A outer s H E) (defBody st) (tS (cxOf (L2.CX P w) P w K mg base N x (defScope st) f cdv A outer s H E) (fun c d _ H => E c d H) b)) (hps : ps = (defArgs st).args.map (·.arg) := by rfl) :
    Cal P w K mg base (k + 1) x (fnC ps.length N.length b) := by
  obtain ⟨f, fd, F, m, bd⟩ := T
  exact cal_C F S m bd hps (hb f)
end
theorem hu2 {A : Around} {k : Nat} (hr : RoomG k A) : A.units + 200 < cLine := by have := hr.rm.un; omega
/-- the law's own promise -/
def spLaw (K : PySem.W.Frag) : Sp := fun vs H Q _ => ∃ (a : Addr) (ns : List Int), vs = [.ref a] ∧ SqL K H a (ns.map V.int) ∧ ns.length ≤ 63 ∧ (∀ z ∈ ns, Builtin.Int.intBits z ≤ 1048576) ∧ Only H ∧ ∀ H', Q (.bl true) H'
section
variable {K : PySem.W.Frag} {mg : Str → Option Value}
theorem script_at {H : Hp} {a : Addr} {ns : List Int} (hO : Only H) (hS : SqL K H a (ns.map V.int)) : Rp K mg ⟨[], []⟩ H (.fls (ns.map .int)) (.ref a) := by
  unfold Rp
  refine ⟨a, _, rfl, ?_, RpL.ints ns⟩
  rcases hS with (h | ⟨o, h⟩) | h
  · rcases hO a with z | ⟨o, xs, z⟩
    · rw [z] at h; cases h
    · rw [z] at h; cases h
  · refine .inl ⟨o, h, ?_⟩
    show (¬ some a ∈ ([] : List (Option Addr))) ∧ ¬ a ∈ ([] : List Addr)
    constructor <;> simp
  · exact .inr h
theorem sto0 [Wo] {H : Hp} : Sto K mg ⟨[], []⟩ [] H := ⟨rfl, fun m n a h => by simp at h, fun a h => (nomatch h), fun n c h => by simp at h⟩
theorem law_imp [Wo] {F : FF} (hF : ∀ ns : List Int, ns.length ≤ 63 → (∀ z ∈ ns, Builtin.Int.intBits z ≤ 1048576) → ∃ S', F [.fls (ns.map .int)] [] = .ok (.bl true) S') : ∀ vs H Q E, spLaw K vs H Q E → spF K mg 1 F vs H Q E := by
  rintro vs H Q E ⟨a, ns, rfl, hS, hl, hb, hO, q⟩
  obtain ⟨S', e⟩ := hF ns hl hb
  refine ⟨⟨[], []⟩, [], [.fls (ns.map .int)], sto0, RpL.one (script_at hO hS), rfl, ?_⟩
  rw [e]
  intro w' H' v ex s r
  rw [rp_bl r]; exact q H'
/-- the heap in which nothing is told but the script -/
def scrO (vs : List Value) : Obj := { cls := .type "list", data := .seq vs.toArray }
def scrH (a : Addr) (vs : List Value) (ns : List Int) : Hp := fun b => if b = a then some (.frz (scrO vs) (.lst (ns.map V.int))) else none
theorem scr_look {P : Program} {w : World} {a : Addr} {s : Shared} {vs : List Value} {ns : List Int} (KX : K.In s.heap) (ha : s.heap.get? a = some (scrO vs)) (hi : IntsAre vs ns) (hl : ns.length ≤ 63) :
    ∃ H : Hp, Only H ∧ SqL K H a (ns.map V.int) ∧ HOk P w H s.heap ∧ (∀ b, H b ≠ none → b = a ∧ K.lookup b = none) := by
  have rv := vals_ints hi
  have hz : ns.length ≤ sizeLine := Nat.le_trans hl (by rw [sizeLine_eq]; decide)
  cases hk : K.lookup a with
  | some o =>
    have e := (KX a o hk).symm.trans ha
    cases e
    exact ⟨fun _ => none, fun _ => .inl rfl, .inr ⟨_, vs.toArray, _, hk, rfl, rfl, rfl, by rw [List.size_toArray, hi.length]; exact hz, by simpa using rv⟩, fun b u z => (nomatch z), fun b z => (z rfl).elim⟩
  | none =>
    refine ⟨scrH a vs ns, fun b => ?_, .inl (.inr ⟨scrO vs, if_pos rfl⟩), fun b u z => ?_, fun b z => ?_⟩
    · unfold scrH; split
      · exact .inr ⟨_, _, rfl⟩
      · exact .inl rfl
    · unfold scrH at z
      split at z
      · next e => cases z; subst e; exact ⟨ha, by rw [List.length_map]; exact hz, vs, _, rv, ha⟩
      · cases z
    · unfold scrH at z
      split at z
      · next e => exact ⟨e, e ▸ hk⟩
      · exact (z rfl).elim
theorem head_g {P : Program} {w : World} {mb : Str → Option Value} {k : Nat} {fa a : Addr} {fd : FuncData} {x : Str} {s : Shared} {vs : List Value} {ns : List Int} (KX : K.In s.heap) (gm : s.heap.Ns mainGlobals mg) (gb : s.heap.Ns builtinsNs mb)
    (boot : ∀ y : Str, y ≠ "__name__" → mb y = bootBuiltins y) (lim : s.heap.NoLimit) (ng : s.gens = #[]) (ha : s.heap.get? a = some (scrO vs)) (hi : IntsAre vs ns) (hl : ns.length ≤ 63) (hz : ∀ z ∈ ns, Builtin.Int.intBits z ≤ 1048576) (hr : RoomG k callerA)
    (F : ∀ base : Heap, K.In base → base.Ns mainGlobals mg → FnG P w K mg base k fa fd [x] (spLaw K)) (hbd : ∀ (s : Shared) (u : Value), BindsTo s fd ⟨[u], []⟩ [(x, u)]) (no : ∀ H e s', L2.CX P w [] H s (fun _ _ _ => False) e s' → False) :
    codeAny (model P w) callerA (.call (.ref fa) ⟨[.ref a], []⟩) (fun r s' => r = .ok (.ret (.bool true)) ∧ OldK s.heap s'.heap ∧ s'.os = s.os ∧ AllBare s'.gens) s := by
  obtain ⟨H, hO, hS, hok, hA⟩ := scr_look (P := P) (w := w) KX ha hi hl
  have un : ∀ {b : Addr} {o : Obj}, s.heap.get? b = some o → o ≠ scrO vs ∨ K.lookup b ≠ none → H b = none := fun {b o} g n => by
    apply Classical.byContradiction
    intro z
    obtain ⟨rfl, k0⟩ := hA b z
    rcases n with n | n
    · exact n (Option.some.inj (g.symm.trans ha))
    · exact n k0
  have nsT : ∀ {b : Addr} {m : Str → Option Value}, s.heap.Ns b m → (hidT s.heap H).Ns b m := fun {b m} ⟨o, es, ep, g, d, r⟩ => ⟨o, es, ep, hidT_get g (un g (.inl fun z => by rw [z] at d; exact nomatch d)), d, r⟩
  have kT : K.In (hidT s.heap H) := fun b o g => hidT_get (KX b o g) (un (KX b o g) (.inr fun z => by rw [g] at z; cases z))
  obtain ⟨mc, lim1, lim2⟩ := lim
  have e0 : Env0 P w K mg (hidT s.heap H) callerA [] s H := { frames := rfl, mod := ⟨kT, nsT gm, ⟨mb, nsT gb, boot⟩, ⟨mc, nsT lim1, lim2⟩⟩, bs := fun b o g => of_hidT g, bsz := Nat.le_of_eq (hidT_size _ _), funs := trivial, frf := fun b hb => (nomatch hb), hok := hok, bare := .of_eq ng }
  refine codeAny_mono ((F _ kT (nsT gm)).runs callerA [] s H ⟨[.ref a], []⟩ [.ref a] [.ref a] (fun v _ => v = .bl true) (fun _ _ _ => False) hr e0 (hbd s (.ref a)) (.cons rfl .nil) ⟨a, ns, rfl, hS, hl, hz, hO, fun _ => rfl⟩) fun r s' h => ?_
  match r, h with
  | .error e, h => exact (no H e s' h).elim
  | .ok .next, h => exact h.elim
  | .ok .brk, h => exact h.elim
  | .ok .cont, h => exact h.elim
  | .ok (.ret u), ⟨v, H', os, bare, ch, hok', rv, q⟩ =>
    have q' : v = .bl true := q
    subst q'
    obtain rfl : u = Value.bool true := rv
    refine ⟨rfl, OldK.of_keep fun b o g => ?_, os, bare⟩
    rcases hO b with z | ⟨ob, xs, z⟩
    · exact ch.keep b o g z (fun y => nomatch y) (fun y => nomatch y)
    · obtain ⟨g1, _⟩ := hok b _ z
      rw [g] at g1; cases g1
      exact (hok' b _ (ch.frzs b _ _ z)).1
theorem walk_g {l : PySem.W.OpenLaw} {k : Nat} {q : Program} {loose : List Str} {XP : (Str → Option Value) → Heap → Prop} {YP : World → Heap → Prop} {d : DefRec} {K : Params → PySem.W.Frag} {x : Str} (hn : l.most = some 63) (hdf : d.params.defaults = []) (hr : RoomG k callerA)
    (hY : ∀ (w : World) (h : Heap), YP w h → (K w.params).In h)
    (F : ∀ (w : World) (mg : Str → Option Value) (fa : Addr) (h : Heap), (K w.params).In h → h.Ns mainGlobals mg → mg d.name = some (.ref fa) →
      ∃ fd : FuncData, (∀ (s : Shared) (u : Value), BindsTo s fd ⟨[u], []⟩ [(x, u)]) ∧ ∀ base : Heap, (K w.params).In base → base.Ns mainGlobals mg → FnG l.prog w (K w.params) mg base k fa fd [x] (spLaw (K w.params)))
    (no : ∀ (w : World) (H : Hp) (s : Shared) (e : Value) (s' : Shared), L2.CX l.prog w [] H s (fun _ _ _ => False) e s' → False) : PySem.W.WalkO q loose XP YP l.row.toRowW d [] (fun f vs => PySem.call f vs) := by
  refine Att.attach_callB hn hdf fun w s0 s1 mg mb fa o pm cd doc a vs ns G Y ho hd hcd hmg hobj hints hlen hbits hg => ?_
  obtain ⟨fd, hbd, hF⟩ := F w mg fa _ (hY w _ Y) G.T.g hmg
  exact head_g (hY w _ Y) G.T.g G.T.b G.T.builtins G.T.nolimit hg hobj hints hlen hbits hr hF hbd (fun H e s' => no w H s1 e s')
/-- the law's def as the end wants it -/
theorem law_mk [Wo] {P : Program} {w : World} {h : Heap} {k : Nat} {fa f : Addr} {x nm : Str} {st : Stmt} {N : List Str} {b : FS} {oc : Value} {od an : Option Addr} {osl : Array (Option Value)} {kV doc pm cdv ct : Value} (X : K.In h) (G : h.Ns mainGlobals mg) (hfa : mg nm = some (.ref fa))
    (a : PySem.W.nsIn K mainGlobals nm = some (some (.ref f))) (l : K.lookup f = some ⟨oc, od, .func (PySem.W.fnOf nm nm (defArgs st) (defBody st) (defScope st) .none kV doc pm an cdv ct), osl⟩) (c : PySem.W.codeIn K cdv nm = true) (kk : PySem.W.keepIn K (.ref f) = true)
    (hb : ∀ (kV doc pm : Value) (an : Option Addr) (cdv ct : Value) (us : List Value), us.length = 1 → bindArgs (PySem.W.fnOf nm nm (defArgs st) (defBody st) (defScope st) .none kV doc pm an cdv ct) ⟨us, []⟩ = pure ([x].zip us)) (S : FnScope N [x] (defScope st))
    (body : ∀ base : Heap, K.In base → base.Ns mainGlobals mg → ∀ (f : Addr) (cdv : Value) (A : Around) (outer : List Env) (s : Shared) (H : Hp) (E : XK), RoomG k (A.deeper (envOfC nm (defScope st) s.heap.objs.size f cdv)) →
      PSs (cxOf (L2.CX P w) P w K mg base N nm (defScope st) f cdv A outer s H E) (defBody st) (tS (cxOf (L2.CX P w) P w K mg base N nm (defScope st) f cdv A outer s H E) (fun c d _ H => E c d H) b))
    (hF : ∀ ns : List Int, ns.length ≤ 63 → (∀ z ∈ ns, Builtin.Int.intBits z ≤ 1048576) → ∃ S', fnB 1 N.length b [.fls (ns.map .int)] [] = .ok (.bl true) S') :
    ∃ fd : FuncData, (∀ (s : Shared) (u : Value), BindsTo s fd ⟨[u], []⟩ [(x, u)]) ∧ ∀ base : Heap, K.In base → base.Ns mainGlobals mg → FnG P w K mg base (k + 1) fa fd [x] (spLaw K) := by
  have e := hfa.symm.trans (PySem.W.mg_of X G a)
  cases e
  have F := fun_mk (st := st) l c kk
  refine ⟨_, fun s u => .of_eq (hb kV doc pm an cdv ct [u] rfl), fun base Kb Gb => ?_⟩
  exact (fn_ok F S (body base Kb Gb fa)).weak (law_imp hF)
theorem cx_no {P : Program} {w : World} {H : Hp} {s s' : Shared} {e : Value} (h : L2.CX P w [] H s (fun _ _ _ => False) e s') : False := by
  obtain ⟨_, _, _, _, _, _, _, _, _, _, _, _, z⟩ := h
  exact z
end
end Kw
namespace Kw
open PySem PySem.Spec PyProof.Rows L2
def fDic (ks : List Key) (ds : List D) : FE := fun _ S => .ok (.dic ks ds) S
def lookK (k : Key) : List Key → List D → Option D
  | a :: ks, d :: ds => if a = k then some d else lookK k ks ds
  | _, _ => none
/-- a dict that is asked -/
def gIxD (x y : D) (S : Store) : RE D := match x with
  | .dic ks ds => (match y with
    | .str z => (match lookK (.inr z) ks ds with
      | some d => .ok d S
      | none => .no)
    | .int i => (match lookK (.inl i) ks ds with
      | some d => .ok d S
      | none => .no)
    | _ => .no)
  | _ => .no
section
variable {X : Cx} {W : WX} {a b : Expr} {fa fb : FE} {pos : Pos}
theorem new_dic [Wo] {w : Wd} {S : Store} {H : Hp} {Q : VK} {E : Value → Option Addr → Hp → Prop} {ks : List Key} {ds : List D} {vs : List V} {p : Addr} (s : Sto X.K X.mg w S H) (np : H p = none) (hl : ks.length = vs.length) (r : RpL X.K X.mg w H ds vs)
    (h : End X.K X.mg (fun w H => Rp X.K X.mg w H) w H (.ok (.dic ks ds) S) Q E) : Q (.ref p) (upd H p (.dK (ks.zip vs))) := by
  refine h w _ _ (Ext.new np) (s.beside np) ?_
  show Rp _ _ _ _ _ _
  unfold Rp
  exact ⟨p, vs, rfl, upd_same, s.new np, hl, RpL.ext (Ext.new np) _ _ r⟩
theorem q_dic0 [Wo] : PE X (.Dict [] [] pos) (tF X W (fDic [] [])) := PE.wk pe_dnewK fun σ H Q ⟨w, ρ, S, s, en, h⟩ => fun p np => new_dic (ks := []) (vs := []) s np rfl RpL.nil h
end
end Kw
namespace Kw
open PySem PySem.Spec PyProof.Rows L2
theorem ofString_inj {a b : String} (h : Str.ofString a = Str.ofString b) : a = b := by
  have h1 : (Str.ofString a).cps.toList = (Str.ofString b).cps.toList := by rw [h]
  have key : ∀ s : String, (Str.ofString s).cps.toList = s.toList.map Char.toNat := fun s => by
    show ((cpsOfBytes 0 0 s.toByteArray.data.toList).toArray).toList = _
    rw [cpsOfBytes_string]
  rw [key, key] at h1
  have inj : ∀ {l m : List Char}, l.map Char.toNat = m.map Char.toNat → l = m := fun {l m} h => List.map_inj_right (fun x y e => Char.toNat_inj.mp e) |>.mp h
  have h2 := inj h1
  rw [← String.ofList_toList (s := a), ← String.ofList_toList (s := b), h2]
@[simp] theorem ofString_eq {a b : String} : (Str.ofString a = Str.ofString b) ↔ a = b := ⟨ofString_inj, fun h => by rw [h]⟩
@[simp] theorem ofString_beq {a b : String} : (Str.ofString a == Str.ofString b) = decide (a = b) := by
  by_cases h : a = b
  · subst h; simp
  · have : Str.ofString a ≠ Str.ofString b := fun q => h (ofString_inj q)
    simp [h, this]
@[simp] theorem strOk_of (a : String) : PyData.strOk (Str.ofString a) = true := by
  have key : (Str.ofString a).cps.toList = a.toList.map Char.toNat := by
    show ((cpsOfBytes 0 0 a.toByteArray.data.toList).toArray).toList = _
    rw [cpsOfBytes_string]
  unfold PyData.strOk
  rw [← Array.all_toList, key, List.all_map, List.all_eq_true]
  intro c _
  have h := c.valid
  simp only [UInt32.isValidChar, Nat.isValidChar] at h
  show decide (c.toNat < 1114112) = true
  rw [decide_eq_true_eq]
  show c.val.toNat < 1114112
  omega
section
variable {α β : Type} {a : α} {S : Store} {x : Ex} {f : α → Store → RE β} {ρ : FEnv} {k : α → Store → RS}
@[simp] theorem bnd_ok : (RE.ok a S).bnd f = f a S := rfl
@[simp] theorem bnd_ex : (RE.ex x S : RE α).bnd f = .ex x S := rfl
@[simp] theorem bnd_no : (RE.no : RE α).bnd f = .no := rfl
@[simp] theorem toS_ok : (RE.ok a S).toS ρ k = k a S := rfl
@[simp] theorem toS_ex : (RE.ex x S : RE α).toS ρ k = .ex x ρ S := rfl
@[simp] theorem toS_no : (RE.no : RE α).toS ρ k = .no := rfl
variable {g : FS} {d : D} {ρ' : FEnv}
@[simp] theorem sb_nx : (RS.nx ρ S).bnd g = g ρ S := rfl
@[simp] theorem sb_rt : (RS.rt d S).bnd g = .rt d S := rfl
@[simp] theorem sb_bk : (RS.bk ρ S).bnd g = .bk ρ S := rfl
@[simp] theorem sb_ct : (RS.ct ρ S).bnd g = .ct ρ S := rfl
@[simp] theorem sb_ex : (RS.ex x ρ S).bnd g = .ex x ρ S := rfl
@[simp] theorem sb_no : (RS.no).bnd g = .no := rfl
@[simp] theorem fin_nx : (RS.nx ρ S).fin = .ok .non S := rfl
@[simp] theorem fin_rt : (RS.rt d S).fin = .ok d S := rfl
@[simp] theorem fin_ex : (RS.ex x ρ S).fin = .ex x S := rfl
end
section
variable {ρ : FEnv} {S : Store} {d e : D} {x : Option D} {i : Nat} {a b c : FE} {fs : FA} {ta tb : FT}
@[simp] theorem fVar_z : fVar 0 (some d :: ρ) S = .ok d S := rfl
@[simp] theorem fVar_s : fVar (i + 1) (x :: ρ) S = fVar i ρ S := rfl
@[simp] theorem fC_ap : fC d ρ S = .ok d S := rfl
@[simp] theorem f1_ap {g : D → Store → RE D} : f1 g a ρ S = (a ρ S).bnd g := rfl
@[simp] theorem f2_ap {g : D → D → Store → RE D} : f2 g a b ρ S = (a ρ S).bnd fun x S1 => (b ρ S1).bnd fun y S2 => g x y S2 := rfl
@[simp] theorem fNil_ap : fNil ρ S = .ok [] S := rfl
@[simp] theorem fCons_ap : fCons a fs ρ S = (a ρ S).bnd fun x S1 => (fs ρ S1).bnd fun xs S2 => .ok (x :: xs) S2 := rfl
@[simp] theorem fArg_ap {g : FF} : fArg g fs ρ S = (fs ρ S).bnd g := rfl
def toB (d : D) (S : Store) : RE Bool := match d with
  | .bl k => .ok k S
  | _ => .no
@[simp] theorem toB_bl {k : Bool} : toB (.bl k) S = .ok k S := rfl
@[simp] theorem fB_ap : fB a ρ S = (a ρ S).bnd toB := rfl
def brB (d : D) (S : Store) (t f : RE D) : RE D := match d with
  | .bl k => if k then t else f
  | _ => .no
@[simp] theorem brB_bl {k : Bool} {t f : RE D} : brB (.bl k) S t f = if k then t else f := rfl
@[simp] theorem fChain_ap {g g' : D → D → Store → RE D} : fChain g g' a b c ρ S = (a ρ S).bnd fun x S1 => (b ρ S1).bnd fun y S2 => (g x y S2).bnd fun k S3 => brB k S3 ((c ρ S3).bnd fun z S4 => g' y z S4) (.ok (.bl false) S3) := by
  unfold fChain
  congr; funext x S1; congr; funext y S2; congr; funext k S3
  cases k <;> try rfl
  rename_i k; cases k <;> rfl
@[simp] theorem fAnd_ap : fAnd ta tb ρ S = (ta ρ S).bnd fun k S1 => if k then tb ρ S1 else .ok false S1 := by
  unfold fAnd; congr; funext k S1; cases k <;> rfl
@[simp] theorem fOr_ap : fOr ta tb ρ S = (ta ρ S).bnd fun k S1 => if k then .ok true S1 else tb ρ S1 := by
  unfold fOr; congr; funext k S1; cases k <;> rfl
@[simp] theorem fNot_ap : fNot ta ρ S = (ta ρ S).bnd fun k S1 => .ok (!k) S1 := rfl
@[simp] theorem fIf_ap : fIf ta a b ρ S = (ta ρ S).bnd fun k S1 => if k then a ρ S1 else b ρ S1 := by
  unfold fIf; congr; funext k S1; cases k <;> rfl
@[simp] theorem fAndV_ap : fAndV a b ρ S = (a ρ S).bnd fun k S1 => brB k S1 (b ρ S1) (.ok (.bl false) S1) := by
  unfold fAndV; congr; funext k S1; cases k <;> try rfl
  rename_i k; cases k <;> rfl
@[simp] theorem fOrV_ap : fOrV a b ρ S = (a ρ S).bnd fun k S1 => brB k S1 (.ok (.bl true) S1) (b ρ S1) := by
  unfold fOrV; congr; funext k S1; cases k <;> try rfl
  rename_i k; cases k <;> rfl
def truR (d : D) (S : Store) : RE Bool := match truD S d with
  | some k => .ok k S
  | none => .no
@[simp] theorem truR_bl {k : Bool} : truR (.bl k) S = .ok k S := rfl
@[simp] theorem truR_int {k : Int} : truR (.int k) S = .ok (k != 0) S := rfl
@[simp] theorem truR_non : truR .non S = .ok false S := rfl
@[simp] theorem truR_lst {ds : List D} : truR (.lst ds) S = .ok (!ds.isEmpty) S := rfl
@[simp] theorem truR_tup {ds : List D} : truR (.tup ds) S = .ok (!ds.isEmpty) S := rfl
@[simp] theorem fTru_ap : fTru a ρ S = (a ρ S).bnd truR := rfl
@[simp] theorem fNotV_ap : fNotV a ρ S = (a ρ S).bnd fun x S1 => (truR x S1).bnd fun k S2 => .ok (.bl (!k)) S2 := by
  unfold fNotV; congr; funext x S1; unfold truR; cases truD S1 x <;> rfl
def isiR (T : String) (d : D) (S : Store) : RE D := match tyD S d with
  | some t => .ok (.bl (isiB t T)) S
  | none => .no
@[simp] theorem fIsi_ap {T : String} : fIsi T a ρ S = (a ρ S).bnd (isiR T) := rfl
@[simp] theorem isi_int {T : String} {i : Int} : isiR T (.int i) S = .ok (.bl (decide (T = "int"))) S := by
  have : (isiB "int" T) = decide (T = "int") := by
    unfold isiB
    by_cases h : T = "int"
    · subst h; rfl
    · have h' : ¬ "int" = T := fun z => h z.symm
      simp [h, h']
  show RE.ok (D.bl (isiB "int" T)) S = _
  rw [this]
@[simp] theorem isi_bl {T : String} {i : Bool} : isiR T (.bl i) S = .ok (.bl (decide (T = "bool") || decide (T = "int"))) S := by
  have : (isiB "bool" T) = (decide (T = "bool") || decide (T = "int")) := by
    unfold isiB
    by_cases h : T = "bool"
    · subst h; rfl
    · have h' : ¬ "bool" = T := fun z => h z.symm
      by_cases h2 : T = "int"
      · subst h2; rfl
      · simp [h, h', h2]
  show RE.ok (D.bl (isiB "bool" T)) S = _
  rw [this]
theorem isiB_other {t T : String} (h : t ≠ "bool") : isiB t T = decide (T = t) := by
  unfold isiB
  by_cases e : T = t
  · subst e; simp
  · have e' : ¬ t = T := fun z => e z.symm
    simp [h, e, e']
@[simp] theorem isi_str {T : String} {i : Str} : isiR T (.str i) S = .ok (.bl (decide (T = "str"))) S := by
  show RE.ok (D.bl (isiB "str" T)) S = _
  rw [isiB_other (by decide)]
@[simp] theorem isi_non {T : String} : isiR T .non S = .ok (.bl (decide (T = "NoneType"))) S := by
  show RE.ok (D.bl (isiB "NoneType" T)) S = _
  rw [isiB_other (by decide)]
@[simp] theorem isi_tup {T : String} {ds : List D} : isiR T (.tup ds) S = .ok (.bl (decide (T = "tuple"))) S := by
  show RE.ok (D.bl (isiB "tuple" T)) S = _
  rw [isiB_other (by decide)]
@[simp] theorem isi_lst {T : String} {ds : List D} : isiR T (.lst ds) S = .ok (.bl (decide (T = "list"))) S := by
  show RE.ok (D.bl (isiB "list" T)) S = _
  rw [isiB_other (by decide)]
@[simp] theorem isi_dic {T : String} {ks : List Key} {ds : List D} : isiR T (.dic ks ds) S = .ok (.bl (decide (T = "dict"))) S := by
  show RE.ok (D.bl (isiB "dict" T)) S = _
  rw [isiB_other (by decide)]
end
section
variable {ρ : FEnv} {S : Store} {f g : FS} {fe : FE} {tc : FT} {i : Nat} {fa : FA}
@[simp] theorem sNil_ap : sNil ρ S = .nx ρ S := rfl
@[simp] theorem sSeq_ap : sSeq f g ρ S = (f ρ S).bnd g := rfl
@[simp] theorem sExp_ap : sExp fe ρ S = (fe ρ S).toS ρ fun _ S1 => .nx ρ S1 := rfl
@[simp] theorem sRet_ap : sRet fe ρ S = (fe ρ S).toS ρ fun d S1 => .rt d S1 := rfl
@[simp] theorem sRetN_ap : sRetN ρ S = .rt .non S := rfl
@[simp] theorem sSet_ap : sSet i fe ρ S = (fe ρ S).toS ρ fun d S1 => .nx (ρ.set i (some d)) S1 := rfl
@[simp] theorem sIf_ap : sIf tc f g ρ S = (tc ρ S).toS ρ fun k S1 => if k then f ρ S1 else g ρ S1 := by
  unfold sIf; congr; funext k S1; cases k <;> rfl
@[simp] theorem sRaise_ap {x : Str} : sRaise x ρ S = .ex ⟨x, [], []⟩ ρ S := rfl
def gRes (r : Option (FEnv × Store)) : RS := match r with
  | some (ρ', S') => .nx ρ' S'
  | none => .no
@[simp] theorem gRes_some {ρ' : FEnv} {S' : Store} : gRes (some (ρ', S')) = .nx ρ' S' := rfl
@[simp] theorem sAsg_ap {g : FG} : sAsg fe g ρ S = (fe ρ S).toS ρ fun d S1 => gRes (g d ρ S1) := rfl
@[simp] theorem gN_ap {d : D} : gN i d ρ S = some (ρ.set i (some d), S) := rfl
def gBnd (r : Option (FEnv × Store)) (k : FEnv → Store → Option (FEnv × Store)) : Option (FEnv × Store) := match r with
  | some (ρ', S') => k ρ' S'
  | none => none
@[simp] theorem gBnd_some {ρ' : FEnv} {S' : Store} {k : FEnv → Store → Option (FEnv × Store)} : gBnd (some (ρ', S')) k = k ρ' S' := rfl
@[simp] theorem gsCons_ap {g : FG} {gs : FGs} {d : D} {r : List D} : gsCons g gs (d :: r) ρ S = gBnd (g d ρ S) (gs r) := rfl
@[simp] theorem gTu_ap {n : Nat} {gs : FGs} {ds : List D} : gTu n gs (.tup ds) ρ S = if ds.length = n then gs ds ρ S else none := rfl
def par2 (i j : Nat) (ρ : FEnv) (ds : List D) (S : Store) : RS := match ds with
  | [x, y] => .nx ((ρ.set i (some x)).set j (some y)) S
  | _ => .no
@[simp] theorem par2_ap {j : Nat} {x y : D} : par2 i j ρ [x, y] S = .nx ((ρ.set i (some x)).set j (some y)) S := rfl
@[simp] theorem sPar_ap' {j : Nat} : sPar i j fa ρ S = (fa ρ S).toS ρ (par2 i j ρ) := rfl
def augR (i : Nat) (g : D → D → Store → RE D) (x : Option (Option D)) (f : FE) (ρ : FEnv) (S : Store) : RS := match x with
  | some (some x) => (f ρ S).toS ρ fun y S1 => (g x y S1).toS ρ fun z S2 => .nx (ρ.set i (some z)) S2
  | _ => .no
@[simp] theorem augR_ap {g : D → D → Store → RE D} {x : D} : augR i g (some (some x)) fe ρ S = (fe ρ S).toS ρ fun y S1 => (g x y S1).toS ρ fun z S2 => .nx (ρ.set i (some z)) S2 := rfl
@[simp] theorem sAug_ap {g : D → D → Store → RE D} : sAug i g fe ρ S = augR i g ρ[i]? fe ρ S := rfl
end
section
variable {S : Store} {i j : Int} {a b : Str} {c : Bool} {xs ys ds : List D} {k : Bool} {d e : D}
@[simp] theorem gAdd_ii : gAdd c (.int i) (.int j) S = .ok (.int (i + j)) S := rfl
@[simp] theorem gAdd_ss : gAdd c (.str a) (.str b) S = if a.length + b.length ≤ sizeLine then .ok (.str (a ++ b)) S else .no := rfl
@[simp] theorem gAdd_tt : gAdd c (.tup xs) (.tup ys) S = mkTup (xs ++ ys) S := rfl
@[simp] theorem gAdd_ll : gAdd false (.lst xs) (.lst ys) S = mkLst (xs ++ ys) S := rfl
@[simp] theorem gSub_ii : Kw.gSub (.int i) (.int j) S = .ok (.int (i - j)) S := rfl
@[simp] theorem gMul_ii : gMul c (.int i) (.int j) S = if CMul i j ∨ CMulW i j then .ok (.int (i * j)) S else .no := rfl
@[simp] theorem gMod_ii : gMod (.int i) (.int j) S = if 0 < j then .ok (.int (i % j)) S else .no := rfl
@[simp] theorem gDiv_ii : gDiv (.int i) (.int j) S = if 0 < j ∧ j.natAbs.log2 < 9000 then .ok (.int (i / j)) S else .no := rfl
@[simp] theorem gPow_ii : gPow (.int i) (.int j) S = if 0 ≤ j ∧ j ≤ 1000000 ∧ i.natAbs < 2 ^ 64 then .ok (.int (i ^ j.toNat)) S else .no := rfl
@[simp] theorem gIAdd_ii : gIAdd (.int i) (.int j) S = .ok (.int (i + j)) S := rfl
@[simp] theorem gNeg_i : gNeg (.int i) S = .ok (.int (-i)) S := rfl
@[simp] theorem gCmp_ii {p : Int → Int → Bool} : gCmp p (.int i) (.int j) S = .ok (.bl (p i j)) S := rfl
@[simp] theorem gEq_ss : gEq (.str a) (.str b) S = .ok (.bl (a == b)) S := rfl
@[simp] theorem gNe_ss : gNe (.str a) (.str b) S = .ok (.bl (!(a == b))) S := rfl
@[simp] theorem gEq_ii : gEq (.int i) (.int j) S = .ok (.bl (i == j)) S := by
  simp [gEq, eqE, pyS, okPy, PyData.canLay0, PyData.depth, PyData.eqv]
@[simp] theorem gNe_ii : gNe (.int i) (.int j) S = .ok (.bl (!(i == j))) S := by
  simp [gNe, eqE, pyS, okPy, PyData.canLay0, PyData.depth, PyData.eqv]
@[simp] theorem gEq_bb {i j : Bool} : gEq (.bl i) (.bl j) S = .ok (.bl (i == j)) S := by
  simp [gEq, eqE, pyS, okPy, PyData.canLay0, PyData.depth, PyData.eqv]
@[simp] theorem gNe_bb {i j : Bool} : gNe (.bl i) (.bl j) S = .ok (.bl (!(i == j))) S := by
  simp [gNe, eqE, pyS, okPy, PyData.canLay0, PyData.depth, PyData.eqv]
@[simp] theorem gLen_tup : gLen [.tup ds] S = .ok (.int ds.length) S := rfl
@[simp] theorem gLen_lst : gLen [.lst ds] S = .ok (.int ds.length) S := rfl
@[simp] theorem gLen_fls : gLen [.fls ds] S = .ok (.int ds.length) S := rfl
@[simp] theorem gLen_str : gLen [.str a] S = if a.length ≤ sizeLine then .ok (.int a.length) S else .no := rfl
@[simp] theorem gInt_i : gInt [.int i] S = .ok (.int i) S := rfl
@[simp] theorem gInt_b : gInt [.bl k] S = .ok (.int (if k then 1 else 0)) S := rfl
@[simp] theorem gTuple_lst : gTuple [.lst ds] S = .ok (.tup ds) S := rfl
@[simp] theorem gTuple_tup : gTuple [.tup ds] S = .ok (.tup ds) S := rfl
@[simp] theorem gList_lst : gList false [.lst ds] S = .ok (.lst ds) S := rfl
@[simp] theorem gList_tup : gList false [.tup ds] S = .ok (.lst ds) S := rfl
@[simp] theorem gIs_nn : gIs c .non .non S = .ok (.bl (xor c true)) S := rfl
@[simp] theorem gIs_tn : gIs c (.tup ds) .non S = .ok (.bl (xor c false)) S := rfl
@[simp] theorem gIs_ln : gIs c (.lst ds) .non S = .ok (.bl (xor c false)) S := rfl
@[simp] theorem gIs_in : gIs c (.int i) .non S = .ok (.bl (xor c false)) S := rfl
@[simp] theorem gIs_sn : gIs c (.str a) .non S = .ok (.bl (xor c false)) S := rfl
@[simp] theorem gIs_bn : gIs c (.bl k) .non S = .ok (.bl (xor c false)) S := rfl
@[simp] theorem gIs_bb {l : Bool} : gIs c (.bl k) (.bl l) S = .ok (.bl (xor c (decide (k = l)))) S := rfl
def ixR (ds : List D) (i : Int) (S : Store) : RE D := match L2.atI ds i with
  | some d => .ok d S
  | none => .no
@[simp] theorem ixR_nat {n : Nat} : ixR ds (n : Int) S = match ds[n]? with
  | some d => .ok d S
  | none => .no := by
  unfold ixR
  cases h : ds[n]? with
  | some d => rw [atI_nat h]
  | none =>
    have hl : ds.length ≤ n := List.getElem?_eq_none_iff.mp h
    have : L2.atI ds (n : Int) = none := by
      unfold L2.atI ixN
      rw [if_pos (by omega), if_neg (by omega)]; rfl
    rw [this]
@[simp] theorem ixR_0 : ixR (d :: ds) 0 S = .ok d S := by
  have := ixR_nat (ds := d :: ds) (n := 0) (S := S)
  simpa using this
@[simp] theorem ixR_1 : ixR (d :: e :: ds) 1 S = .ok e S := by
  have := ixR_nat (ds := d :: e :: ds) (n := 1) (S := S)
  simpa using this
@[simp] theorem ixR_2 {e' : D} : ixR (d :: e :: e' :: ds) 2 S = .ok e' S := by
  have := ixR_nat (ds := d :: e :: e' :: ds) (n := 2) (S := S)
  simpa using this
@[simp] theorem gIx_tup : gIx (.tup ds) (.int i) S = ixR ds i S := rfl
@[simp] theorem gIx_lst : gIx (.lst ds) (.int i) S = ixR ds i S := rfl
@[simp] theorem gIx_fls : gIx (.fls ds) (.int i) S = ixR ds i S := rfl
end
@[simp] theorem short2 {n : Nat} (h : n ≤ 1000) : (n ≤ sizeLine) = True := eq_true (Nat.le_trans h (by decide))
theorem sz : sizeLine = 16777216 := rfl
section
variable {S : Store} {ds : List D}
@[simp] theorem mkTup_ap : mkTup ds S = if ds.length ≤ sizeLine then .ok (.tup ds) S else .no := rfl
@[simp] theorem mkLst_ap : mkLst ds S = if ds.length ≤ sizeLine then .ok (.lst ds) S else .no := rfl
@[simp] theorem mkCel_ap : mkCel ds S = if ds.length ≤ sizeLine then .ok (.loc S.length) (S ++ [.lst ds]) else .no := rfl
section
variable {n : Nat} {b : FS} {a1 a2 a3 a4 a5 : D}
@[simp] theorem fnB_0 : fnB 0 n b [] S = (b (List.replicate n none) S).fin := rfl
@[simp] theorem fnB_1 : fnB 1 n b [a1] S = (b (some a1 :: List.replicate (n - 1) none) S).fin := rfl
@[simp] theorem fnB_2 : fnB 2 n b [a1, a2] S = (b (some a1 :: some a2 :: List.replicate (n - 2) none) S).fin := rfl
@[simp] theorem fnB_3 : fnB 3 n b [a1, a2, a3] S = (b (some a1 :: some a2 :: some a3 :: List.replicate (n - 3) none) S).fin := rfl
@[simp] theorem fnB_4 : fnB 4 n b [a1, a2, a3, a4] S = (b (some a1 :: some a2 :: some a3 :: some a4 :: List.replicate (n - 4) none) S).fin := rfl
@[simp] theorem fnB_5 : fnB 5 n b [a1, a2, a3, a4, a5] S = (b (some a1 :: some a2 :: some a3 :: some a4 :: some a5 :: List.replicate (n - 5) none) S).fin := rfl
end
end
end Kw
namespace Kw
open PySem PySem.Spec PyProof.Rows L2
section
variable {S T : Store} {n : Nat} {ds xs ys : List D} {c c' : Cell} {d x : D} {i : Int} {ρ : FEnv}
@[simp] theorem cellOf_app : cellOf (S ++ [.lst ds]) S.length = some ds := by simp [cellOf]
@[simp] theorem cellM_app : cellM (S ++ [.lst ds]) S.length = some ds := by simp [cellM]
@[simp] theorem set_app : (S ++ [c]).set S.length c' = S ++ [c'] := by simp [List.set_append]
theorem cellOf_of (h : S[n]? = some (.lst ds)) : cellOf S n = some ds := by simp [cellOf, h]
theorem cellM_of (h : S[n]? = some (.lst ds)) : cellM S n = some ds := by simp [cellM, h]
def ixO (o : Option (List D)) (i : Int) (S : Store) : RE D := match o with
  | some ds => ixR ds i S
  | none => .no
@[simp] theorem ixO_some : ixO (some ds) i S = ixR ds i S := rfl
@[simp] theorem gIx_locO : gIx (.loc n) (.int i) S = ixO (cellOf S n) i S := rfl
theorem cut_ok {S : Store} {d : D} (T : Store) (h : d.under S.length = true) : cutR S (.ok d (S ++ T)) = .ok d S := by
  have hc : CutOk S (S ++ T) := ⟨by simp, fun i c hi e => .inl (by rw [List.getElem?_append_left hi] at e; exact e)⟩
  have hd : (D.under S.length d = true ∧ CutOk S (S ++ T)) := ⟨h, hc⟩
  simp [cutR, hd]
theorem fnC_ap {m n : Nat} {b : FS} : fnC m n b ds S = cutR S (fnB m n b ds S) := rfl
/-- a list beside the empty one -/
theorem gNe_nil (h : cellOf S n = some ds) : gNe (.loc n) (.lst []) S = .ok (.bl (!ds.isEmpty)) S := by
  unfold gNe eqE seqL
  simp only
  rw [h]; rfl
@[simp] theorem gEq_te : gEq (.tup ds) (.tup []) S = .ok (.bl ds.isEmpty) S := rfl
@[simp] theorem gNe_te : gNe (.tup ds) (.tup []) S = .ok (.bl (!ds.isEmpty)) S := rfl
@[simp] theorem gEq_ts {a b : Str} : gEq (.tup (.str a :: ds)) (.tup [.str b]) S = .ok (.bl (a == b && ds.isEmpty)) S := rfl
@[simp] theorem gNe_ts {a b : Str} : gNe (.tup (.str a :: ds)) (.tup [.str b]) S = .ok (.bl (!(a == b && ds.isEmpty))) S := rfl
@[simp] theorem gEq_le : gEq (.lst ds) (.lst []) S = .ok (.bl ds.isEmpty) S := rfl
@[simp] theorem gNe_le : gNe (.lst ds) (.lst []) S = .ok (.bl (!ds.isEmpty)) S := rfl
@[simp] theorem gInG_str {neg : Bool} {nm z : Str} {kvs : List (Str × D)} : gInG neg nm kvs (.str z) (.glo nm) S = .ok (.bl (xor neg (kvs.lookup z).isSome)) S := by
  show (if nm = nm then RE.ok (D.bl (xor neg (kvs.lookup z).isSome)) S else .no) = _
  rw [if_pos rfl]
def luR (o : Option D) (S : Store) : RE D := match o with
  | some d => .ok d S
  | none => .no
@[simp] theorem luR_some : luR (some d) S = .ok d S := rfl
@[simp] theorem gIxG_str {nm z : Str} {kvs : List (Str × D)} : gIxG nm kvs (.glo nm) (.str z) S = luR (kvs.lookup z) S := by
  show (if nm = nm then luR (kvs.lookup z) S else .no) = _
  rw [if_pos rfl]
@[simp] theorem gIxD_str {ks : List Key} {z : Str} : gIxD (.dic ks ds) (.str z) S = luR (lookK (.inr z) ks ds) S := rfl
@[simp] theorem gIxD_int {ks : List Key} {z : Int} : gIxD (.dic ks ds) (.int z) S = luR (lookK (.inl z) ks ds) S := rfl
@[simp] theorem fDic_ap {ks : List Key} : fDic ks ds ρ S = .ok (.dic ks ds) S := rfl
@[simp] theorem fNone_ap : fNone ρ S = .ok none S := rfl
def toI (d : D) (S : Store) : RE (Option Int) := match d with
  | .int i => .ok (some i) S
  | _ => .no
@[simp] theorem toI_int : toI (.int i) S = .ok (some i) S := rfl
@[simp] theorem fSome_ap {f : FE} : fSome f ρ S = (f ρ S).bnd toI := rfl
@[simp] theorem fSl_ap {g : D → Option Int → Option Int → Store → RE D} {a : FE} {l u : FO} : fSl g a l u ρ S = (a ρ S).bnd fun x S1 => (l ρ S1).bnd fun lo S2 => (u ρ S2).bnd fun hi S3 => g x lo hi S3 := rfl
@[simp] theorem gSl_tup {c : Bool} {lo hi : Option Int} : gSl c (.tup ds) lo hi S = .ok (.tup (cutL ds lo hi)) S := rfl
@[simp] theorem gSl_lst {lo hi : Option Int} : gSl false (.lst ds) lo hi S = .ok (.lst (cutL ds lo hi)) S := rfl
@[simp] theorem gSl_fls {lo hi : Option Int} : gSl false (.fls ds) lo hi S = .ok (.lst (cutL ds lo hi)) S := rfl
def slO (o : Option (List D)) (lo hi : Option Int) (S : Store) : RE D := match o with
  | some ds => .ok (.lst (cutL ds lo hi)) S
  | none => .no
@[simp] theorem slO_some {lo hi : Option Int} : slO (some ds) lo hi S = .ok (.lst (cutL ds lo hi)) S := rfl
@[simp] theorem gSl_loc {lo hi : Option Int} : gSl false (.loc n) lo hi S = slO (cellOf S n) lo hi S := rfl
def mthR (g : D → List D → Store → RE D) (a : FA) (ρ : FEnv) (x : D) (S : Store) : RE D := match seqL S x with
  | some _ => (a ρ S).bnd fun ds S2 => g x ds S2
  | none => .no
@[simp] theorem fMth_ap {g : D → List D → Store → RE D} {o : FE} {a : FA} : fMth g o a ρ S = (o ρ S).bnd (mthR g a ρ) := rfl
theorem mthR_loc {g : D → List D → Store → RE D} {a : FA} (h : cellOf S n = some xs) : mthR g a ρ (.loc n) S = (a ρ S).bnd fun ds S2 => g (.loc n) ds S2 := by
  show (match cellOf S n with | some _ => (a ρ S).bnd fun ds S2 => g (.loc n) ds S2 | none => .no) = _
  rw [h]
theorem gAppend_loc (h : cellM S n = some xs) (hl : xs.length < sizeLine) : gAppend (.loc n) [d] S = .ok .non (S.set n (.lst (xs ++ [d]))) := by
  simp [gAppend, h, hl]
theorem gExtend_loc (h : cellM S n = some xs) (hl : xs.length + ys.length ≤ sizeLine) : gExtend (.loc n) [.lst ys] S = .ok .non (S.set n (.lst (xs ++ ys))) := by
  simp [gExtend, h, seqM, hl]
theorem gPop0_loc (h : cellM S n = some (xs ++ [d])) : gPop0 (.loc n) [] S = .ok d (S.set n (.lst xs)) := by
  simp [gPop0, h]
end
def loopR (w : FS) (r : RS) : RS := match r with
  | .nx ρ2 S2 => w ρ2 S2
  | .ct ρ2 S2 => w ρ2 S2
  | .bk ρ2 S2 => .nx ρ2 S2
  | z => z
section
variable {w : FS} {ρ : FEnv} {S : Store} {d : D} {x : Ex}
@[simp] theorem loopR_nx : loopR w (.nx ρ S) = w ρ S := rfl
@[simp] theorem loopR_ct : loopR w (.ct ρ S) = w ρ S := rfl
@[simp] theorem loopR_bk : loopR w (.bk ρ S) = .nx ρ S := rfl
@[simp] theorem loopR_rt : loopR w (.rt d S) = .rt d S := rfl
@[simp] theorem loopR_ex : loopR w (.ex x ρ S) = .ex x ρ S := rfl
@[simp] theorem loopR_no : loopR w .no = .no := rfl
theorem sWhile_go {c : FT} {b : FS} : sWhile c b ρ S = (c ρ S).toS ρ fun k S1 => if k then loopR (sWhile c b) (b ρ S1) else .nx ρ S1 := by
  rw [sWhile_step]
  congr; funext k S1; cases k
  · rfl
  · show _ = loopR (sWhile c b) (b ρ S1)
    cases b ρ S1 <;> rfl
variable {tg : FG} {b : FS} {r : List D} {fi : FI}
def tgR (w b : FS) (o : Option (FEnv × Store)) : RS := match o with
  | some (ρ1, S1) => loopR w (b ρ1 S1)
  | none => .no
@[simp] theorem tgR_some : tgR w b (some (ρ, S)) = loopR w (b ρ S) := rfl
@[simp] theorem forL_nil : forL tg b none [] ρ S = .nx ρ S := by
  unfold forL gchk; rw [if_pos (by unfold gd; trivial)]
theorem forL_cons : forL tg b none (d :: r) ρ S = tgR (forL tg b none r) b (tg d ρ S) := by
  show gchk none S _ _ = _
  unfold gchk
  rw [if_pos (by unfold gd; trivial)]
  cases tg d ρ S with
  | none => rfl
  | some p =>
    obtain ⟨ρ1, S1⟩ := p
    show (match b ρ1 S1 with
      | .nx ρ2 S2 => forL tg b none r ρ2 S2
      | .ct ρ2 S2 => forL tg b none r ρ2 S2
      | .bk ρ2 S2 => .nx ρ2 S2
      | z => z) = loopR _ (b ρ1 S1)
    cases b ρ1 S1 <;> rfl
@[simp] theorem sFor_ap : sFor fi tg b ρ S = (fi ρ S).toS ρ fun p S1 => forL tg b p.2 p.1 ρ S1 := rfl
def itL (d : D) (S : Store) : RE Its' := match iSeq S d with
  | some p => .ok p S
  | none => .no
def itT (d : D) (S : Store) : RE Its' := match d with
  | .tup ds => .ok (ds, none) S
  | _ => .no
def itS (d : D) (S : Store) : RE Its' := match d with
  | .str z => .ok (chrs z, none) S
  | _ => .no
def itR (ds : List D) (S : Store) : RE Its' := match ds with
  | [.int j] => if -(2 ^ 62) ≤ j ∧ j < 2 ^ 62 then .ok (rngD 0 j.toNat, none) S else .no
  | _ => .no
@[simp] theorem fiL_ap {f : FE} : fiL f ρ S = (f ρ S).bnd itL := rfl
@[simp] theorem fiT_ap {f : FE} : fiT f ρ S = (f ρ S).bnd itT := rfl
@[simp] theorem fiS_ap {f : FE} : fiS f ρ S = (f ρ S).bnd itS := rfl
@[simp] theorem fiR1_ap {f : FA} : fiR1 f ρ S = (f ρ S).bnd itR := rfl
@[simp] theorem itL_lst {ds : List D} : itL (.lst ds) S = .ok (ds, none) S := rfl
@[simp] theorem itL_fls {ds : List D} : itL (.fls ds) S = .ok (ds, none) S := rfl
@[simp] theorem itT_tup {ds : List D} : itT (.tup ds) S = .ok (ds, none) S := rfl
@[simp] theorem itS_str {z : Str} : itS (.str z) S = .ok (chrs z, none) S := rfl
@[simp] theorem itR_int {j : Int} : itR [.int j] S = if -(2 ^ 62) ≤ j ∧ j < 2 ^ 62 then .ok (rngD 0 j.toNat, none) S else .no := rfl
end
@[simp] theorem len_of (s : String) : (Str.ofString s).length = s.toList.length := by
  have key : (Str.ofString s).cps.toList = s.toList.map Char.toNat := by
    show ((cpsOfBytes 0 0 s.toByteArray.data.toList).toArray).toList = _
    rw [cpsOfBytes_string]
  show (Str.ofString s).cps.size = _
  rw [← Array.length_toList, key, List.length_map]
inductive Kd where
  | base (i : Fin 8)
  | unit
  | both (a b : Kd)
  | frm (a b : Kd)
deriving DecidableEq
namespace Kd
def d : Kd → D
  | .base i => .tup [.str "base", .int (i.val : Int)]
  | .unit => .tup [.str "unit"]
  | .both a b => .tup [.str "both", d a, d b]
  | .frm a b => .tup [.str "from", d a, d b]
def p : Kd → PyData
  | .base i => .tuple [.str "base", .int (i.val : Int)]
  | .unit => .tuple [.str "unit"]
  | .both a b => .tuple [.str "both", p a, p b]
  | .frm a b => .tuple [.str "from", p a, p b]
/-- how deep -/
def dep : Kd → Nat
  | .both a b => max (dep a) (dep b) + 1
  | .frm a b => max (dep a) (dep b) + 1
  | _ => 0
def sz : Kd → Nat
  | .both a b => sz a + sz b + 1
  | .frm a b => sz a + sz b + 1
  | _ => 1
theorem sz_pos : ∀ k : Kd, 0 < k.sz
  | .base _ => by simp [sz]
  | .unit => by simp [sz]
  | .both a b => by simp [sz]
  | .frm a b => by simp [sz]
@[simp] theorem py0_d : ∀ k : Kd, py0 k.d = some k.p
  | .base i => by simp [d, p, py0, py0L]
  | .unit => by simp [d, p, py0, py0L]
  | .both a b => by simp [d, p, py0, py0L, py0_d a, py0_d b]
  | .frm a b => by simp [d, p, py0, py0L, py0_d a, py0_d b]
@[simp] theorem pyS_d (S : Store) : ∀ k : Kd, pyS S k.d = some k.p
  | .base i => by simp [d, p, pyS, pySL]
  | .unit => by simp [d, p, pyS, pySL]
  | .both a b => by simp [d, p, pyS, pySL, pyS_d S a, pyS_d S b]
  | .frm a b => by simp [d, p, pyS, pySL, pyS_d S a, pyS_d S b]
@[simp] theorem lay_p : ∀ k : Kd, k.p.canLay0 = true
  | .base i => by simp [p, PyData.canLay0, PyData.canLayAll0]
  | .unit => by simp [p, PyData.canLay0, PyData.canLayAll0]
  | .both a b => by simp [p, PyData.canLay0, PyData.canLayAll0, lay_p a, lay_p b]
  | .frm a b => by simp [p, PyData.canLay0, PyData.canLayAll0, lay_p a, lay_p b]
theorem depth_p : ∀ k : Kd, k.p.depth = k.dep + 1
  | .base i => by simp [p, PyData.depth, PyData.depthAll, dep]
  | .unit => by simp [p, PyData.depth, PyData.depthAll, dep]
  | .both a b => by simp [p, PyData.depth, PyData.depthAll, dep, depth_p a, depth_p b]
  | .frm a b => by simp [p, PyData.depth, PyData.depthAll, dep, depth_p a, depth_p b]
theorem eqvAll_c {x y : PyData} {xs ys : List PyData} : PyData.eqvAll (x :: xs) (y :: ys) = (PyData.eqv x y && PyData.eqvAll xs ys) := by simp only [PyData.eqvAll]
theorem eqvAll_n : PyData.eqvAll [] [] = true := by simp only [PyData.eqvAll]
theorem eqvAll_l {x : PyData} {xs : List PyData} : PyData.eqvAll (x :: xs) [] = false := by simp only [PyData.eqvAll]
theorem eqvAll_r {x : PyData} {xs : List PyData} : PyData.eqvAll [] (x :: xs) = false := by simp only [PyData.eqvAll]
theorem eqv_t {xs ys : List PyData} : PyData.eqv (.tuple xs) (.tuple ys) = PyData.eqvAll xs ys := by simp only [PyData.eqv]
theorem eqv_s {x y : Str} : PyData.eqv (.str x) (.str y) = (x == y) := by simp only [PyData.eqv]
theorem eqv_i {x y : Int} : PyData.eqv (.int x) (.int y) = (x == y) := by simp only [PyData.eqv]
theorem eqv_p (a b : Kd) : PyData.eqv a.p b.p = decide (a = b) := by
  induction a generalizing b with
  | base i =>
    cases b with
    | base j =>
      have h1 : (i.val : Int) = (j.val : Int) ↔ i = j := by
        constructor
        · intro h; exact Fin.ext (by omega)
        · intro h; rw [h]
      by_cases h : i = j
      · subst h; simp [p, eqvAll_c, eqvAll_n, eqvAll_l, eqvAll_r, eqv_t, eqv_s, eqv_i]
      · have : ¬ (i.val : Int) = (j.val : Int) := fun z => h (h1.mp z)
        simp [p, eqvAll_c, eqvAll_n, eqvAll_l, eqvAll_r, eqv_t, eqv_s, eqv_i, h]
        omega
    | _ => simp [p, eqvAll_c, eqvAll_n, eqvAll_l, eqvAll_r, eqv_t, eqv_s, eqv_i]
  | unit => cases b <;> simp [p, eqvAll_c, eqvAll_n, eqvAll_l, eqvAll_r, eqv_t, eqv_s, eqv_i]
  | both a a' ha hb => cases b <;> simp [p, eqvAll_c, eqvAll_n, eqvAll_l, eqvAll_r, eqv_t, eqv_s, eqv_i, ha, hb]
  | frm a a' ha hb => cases b <;> simp [p, eqvAll_c, eqvAll_n, eqvAll_l, eqvAll_r, eqv_t, eqv_s, eqv_i, ha, hb]
@[simp] theorem und_d (n : Nat) : ∀ k : Kd, k.d.under n = true
  | .base i => by simp [d, D.under, underL]
  | .unit => by simp [d, D.under, underL]
  | .both a b => by simp [d, D.under, underL, und_d n a, und_d n b]
  | .frm a b => by simp [d, D.under, underL, und_d n a, und_d n b]
theorem d_tup : ∀ k : Kd, ∃ ds, k.d = .tup ds
  | .base i => ⟨_, rfl⟩
  | .unit => ⟨_, rfl⟩
  | .both a b => ⟨_, rfl⟩
  | .frm a b => ⟨_, rfl⟩
@[simp] theorem isi_d {T : String} {S : Store} (k : Kd) : isiR T k.d S = .ok (.bl (decide (T = "tuple"))) S := by
  obtain ⟨ds, h⟩ := d_tup k
  rw [h]; simp
end Kd
end Kw
namespace Kw
open PySem PySem.Spec PyProof.Rows L2
/-- isinstance of the exception in hand (at a), whose answer is b -/
def fIsE (a : Addr) (b : Bool) (f : FE) : FE := fun ρ S => (f ρ S).bnd fun x S1 => match x with
  | .exn a' => if a' = a then .ok (.bl b) S1 else .no
  | _ => .no
/-- y's class is one that isinstance can be asked of -/
def ExcK (K : PySem.W.Frag) (mg : Str → Option Value) (y : Str) : Prop := ∃ C, mg y = some (.ref C) ∧ ExcC K C
/-- what isinstance answers for an exception of class y, asked for the program's class x -/
def IsxO (K : PySem.W.Frag) (mg : Str → Option Value) (y x : Str) (b : Bool) : Prop := ∃ C B, mg y = some (.ref C) ∧ mg x = some (.ref B) ∧ PySem.W.kitOne K (.ref C) (.ref B) = some b
/-- the same for a built-in class -/
def IsxB (K : PySem.W.Frag) (mg : Str → Option Value) (y : Str) (T : String) (b : Bool) : Prop := ∃ C, mg y = some (.ref C) ∧ PySem.W.kitOne K (.ref C) (.type T) = some b
section
variable {X : Cx} {W : WX} {o : Expr} {fe : FE} {a : Addr} {oe : Obj} {pn : List (Addr × Obj)} {y x : Str} {C : Addr} {b : Bool} {p q pos : Pos}
theorem isE_core [Wo] {T : V} {cv : Value} (hX : ExcC X.K C) (hz : Zc (.ref C) none oe) (hf : ∃ vs, oe.data = .fields vs) (hcv : ∀ u, RelV T u → u = cv) (hk : PySem.W.kitOne X.K (.ref C) cv = some b)
    (hg : Gl X "isinstance") (hm : X.mg "isinstance" = none) (ho : PE (X.suite a ((a, oe) :: pn)) o (tF X W fe)) (hx : PE (X.suite a ((a, oe) :: pn)) (.Name x q) (tC T))
    (h1 : starEach [o, .Name x q] X.env = (false, eval o X.env) :: starEach [.Name x q] X.env) (h2 : starEach [.Name x q] X.env = (false, eval (.Name x q) X.env) :: starEach [] X.env) (hpl : (backTo pos (starEach [.Name x q] X.env)).any (·.1) = false) :
    PE (X.suite a ((a, oe) :: pn)) (.Call (.Name "isinstance" p) [o, .Name x q] [] pos) (tF X W (fIsE a b fe)) := by
  refine PE.wk (pe_callB (call_isE hX hz hf) hg hm (by decide +kernel) (pa_cons ho (pa_cons hx pa_nil h2) h1) (by decide) (by decide) h1 hpl) fun σ H Q ⟨w, ρ, S, s, en, h⟩ => ?_
  refine ⟨w, ρ, S, s, en, (End.bind (R := fun w H => Rp X.K X.mg w H) h).imp ?_ (fun _ _ _ z => z)⟩
  rintro v H1 ⟨w1, S1, d, e1, s1, r1, h3⟩
  cases d with
  | exn a' =>
    simp only at h3
    split at h3
    · rename_i ea
      subst ea
      have ev : v = .ref a' := by unfold Rp at r1; exact r1
      exact ⟨T, cv, b, by rw [ev], hcv, hk, h3.ret s1 rp_b⟩
    · exact h3.elim
  | _ => exact h3.elim
theorem q_isEB [Wo] {T : String} (hy : ExcK X.K X.mg y) (hyC : X.mg y = some (.ref C)) (hi : IsxB X.K X.mg y T b) (hz : Zc (.ref C) none oe) (hf : ∃ vs, oe.data = .fields vs)
    (hg : Gl X "isinstance") (hm : X.mg "isinstance" = none) (hgx : Gl X x) (hmx : X.mg x = none) (hvT : bootBuiltins x = some (.type T)) (ho : PE (X.suite a ((a, oe) :: pn)) o (tF (X.suite a ((a, oe) :: pn)) W fe)) (hn : x ≠ "__name__" := by decide) (hd : (x == ("__debug__" : Str)) = false := by decide)
    (h1 : starEach [o, .Name x q] X.env = (false, eval o X.env) :: starEach [.Name x q] X.env := by rfl) (h2 : starEach [.Name x q] X.env = (false, eval (.Name x q) X.env) :: starEach [] X.env := by rfl) (hpl : (backTo pos (starEach [.Name x q] X.env)).any (·.1) = false := by rfl) :
    PE (X.suite a ((a, oe) :: pn)) (.Call (.Name "isinstance" p) [o, .Name x q] [] pos) (tF (X.suite a ((a, oe) :: pn)) W (fIsE a b fe)) := by
  obtain ⟨C1, m1, k1⟩ := hy
  obtain ⟨C2, m2, k2⟩ := hi
  cases hyC.symm.trans m1
  cases hyC.symm.trans m2
  exact isE_core (T := .ty T) (cv := .type T) k1 hz hf (fun u r => r) k2 hg hm ho (pe_bltn hgx hmx hvT rfl hn hd) h1 h2 hpl
end
def RS.clr (i : Nat) (r : RS) : RS := match r with
  | .nx ρ S => .nx (ρ.set i none) S
  | .bk ρ S => .bk (ρ.set i none) S
  | .ct ρ S => .ct (ρ.set i none) S
  | r => r
/-- a result that no address matters to -/
noncomputable def aInd (R : Addr → RS) : RS := open Classical in if ∀ a, R a = R 0 then R 0 else .no
theorem aInd_at {R : Addr → RS} {r : RS} (a : Addr) (h : aInd R = r) (hn : r ≠ .no) : R a = r := by
  unfold aInd at h
  split at h
  · rename_i hh; rw [hh a, h]
  · exact absurd h.symm hn
theorem aInd_eq {R : Addr → RS} {r : RS} (h : ∀ a, R a = r) : aInd R = r := by
  unfold aInd
  rw [if_pos (fun a => by rw [h a, h 0]), h 0]
section
variable {X : Cx} {W : WX} {x n : Str} {pos pos' np : Pos} {i : Nat}
theorem EndS.clr [Wo] {K : PySem.W.Frag} {mg : Str → Option Value} {w : Wd} {H : Hp} {D : Ends} {r : RS} (h : EndS K mg w H ((r.clr i).noX) D W) :
    EndS K mg w H r { nx := fun σ' H' => D.nx (σ'.set i none) H', rt := D.rt, bk := fun σ' H' => D.bk (σ'.set i none) H', ct := fun σ' H' => D.ct (σ'.set i none) H' } W0 := by
  cases r with
  | nx ρ S => exact fun w' H' σ' e s en => h w' H' _ e s en.wipe1
  | bk ρ S => exact fun w' H' σ' e s en => h w' H' _ e s en.wipe1
  | ct ρ S => exact fun w' H' σ' e s en => h w' H' _ e s en.wipe1
  | rt d S => exact h
  | ex x ρ S => exact h.elim
  | no => exact h.elim
end
end Kw
namespace Kw
open PySem PySem.Spec PyProof.Rows L2
def CatY (K : PySem.W.Frag) (mg : Str → Option Value) (c : Value) (y : Str) (b : Bool) : Prop := ∃ C, mg y = some (.ref C) ∧ PySem.W.exmOne K (.ref C) c = some b
/-- what a clause over x catches of the classes es -/
def CatF (K : PySem.W.Frag) (mg : Str → Option Value) (es : List Str) (x : Str) (sub : Str → Bool) : Prop := ∃ c, mg x = some c ∧ ∀ y ∈ es, CatY K mg c y (sub y)
section
variable {X : Cx} {W : WX} {x n : Str} {pos pos' np : Pos} {i : Nat} {body suite : List Stmt} {b₀ : Stmt} {es : List Str} {sub : Str → Bool} {fb : FS}
theorem CatF.names (h : CatF X.K X.mg es x sub) (hg : Gl X x) (hd : (x == ("__debug__" : Str)) = false) : ∃ c, Names X x c ∧ ∀ y ∈ es, ∀ cy, X.mg y = some cy → PySem.W.exmOne X.K cy c = some (sub y) := by
  obtain ⟨c, m, h⟩ := h
  refine ⟨c, ⟨hg, hd, .inl m⟩, fun y hy cy e => ?_⟩
  obtain ⟨C, m2, k⟩ := h y hy
  cases e.symm.trans m2
  exact k
end
section
variable {K : PySem.W.Frag} {mg : Str → Option Value} {h : Heap}
theorem kit_own {C B : Addr} {b : Bool} (hd : PySem.W.hasDictIn K B = true) (ht : PySem.W.typeIn K (.ref B) = some (.type "type")) (h4 : PySem.W.subIn K (.ref C) (.ref B) = some b) (ne : b = true ∨ (C == B) = false) : PySem.W.kitOne K (.ref C) (.ref B) = some b := by
  obtain ⟨cd, hc, _⟩ := PySem.W.any_some hd
  have k : PySem.W.kitCls K (.ref C) (.ref B) = some b := by
    have e2 : ((PySem.W.clsIn K B).isSome && PySem.W.typeIn K (.ref B) == some (.type "type")) = true := by rw [hc, ht] <;> rfl
    show (if ((PySem.W.clsIn K B).isSome && PySem.W.typeIn K (.ref B) == some (.type "type")) = true then PySem.W.subIn K (.ref C) (.ref B) else none) = some b
    rw [if_pos e2]; exact h4
  unfold PySem.W.kitOne
  split
  · rename_i q
    rcases ne with rfl | ne
    · rfl
    · have q2 : C = B := Value.ref.inj (beq_iff_eq.mp q)
      rw [q2] at ne; simp at ne
  · exact k
theorem kit_bltn {C : Addr} {T : String} {b : Bool} (hm : PySem.W.kitMeta T = true) (h4 : PySem.W.subIn K (.ref C) (.type T) = some b) : PySem.W.kitOne K (.ref C) (.type T) = some b := by
  unfold PySem.W.kitOne
  split
  · rename_i q
    cases (beq_iff_eq.mp q)
  · show (if PySem.W.kitMeta T = true then PySem.W.subIn K (.ref C) (.type T) else none) = some b
    rw [if_pos hm]; exact h4
theorem isxo_mk {y x : Str} {C B : Addr} {b b' : Bool} (X : K.In h) (G : h.Ns mainGlobals mg) (z1 : PySem.W.nsIn K mainGlobals y = some (some (.ref C))) (z2 : PySem.W.nsIn K mainGlobals x = some (some (.ref B))) (e : b = b') (hd : PySem.W.hasDictIn K B = true) (ht : PySem.W.typeIn K (.ref B) = some (.type "type")) (h4 : PySem.W.subIn K (.ref C) (.ref B) = some b') (ne : b' = true ∨ (C == B) = false) : IsxO K mg y x b :=
  ⟨C, B, PySem.W.mg_of X G z1, PySem.W.mg_of X G z2, by rw [e]; exact kit_own hd ht h4 ne⟩
theorem isxb_mk {y : Str} {T : String} {C : Addr} {b b' : Bool} (X : K.In h) (G : h.Ns mainGlobals mg) (z1 : PySem.W.nsIn K mainGlobals y = some (some (.ref C))) (e : b = b') (hm : PySem.W.kitMeta T = true) (h4 : PySem.W.subIn K (.ref C) (.type T) = some b') : IsxB K mg y T b :=
  ⟨C, PySem.W.mg_of X G z1, by rw [e]; exact kit_bltn hm h4⟩
theorem exck_mk {y : Str} {C : Addr} (X : K.In h) (G : h.Ns mainGlobals mg) (z1 : PySem.W.nsIn K mainGlobals y = some (some (.ref C))) (k : ExcC K C) : ExcK K mg y := ⟨C, PySem.W.mg_of X G z1, k⟩
theorem caty_mk {y : Str} {C B : Addr} {b b' : Bool} (X : K.In h) (G : h.Ns mainGlobals mg) (z1 : PySem.W.nsIn K mainGlobals y = some (some (.ref C))) (e : b = b') (h1 : PySem.W.subIn K (.ref B) (.type "BaseException") = some true) (hd : PySem.W.hasDictIn K B = true) (ht : PySem.W.typeIn K (.ref B) = some (.type "type")) (h4 : PySem.W.subIn K (.ref C) (.ref B) = some b') : CatY K mg (.ref B) y b :=
  ⟨C, PySem.W.mg_of X G z1, by rw [e]; exact PySem.W.exm_ref h1 hd ht h4⟩
theorem cat_mk {es : List Str} {x : Str} {sub : Str → Bool} {B : Addr} (X : K.In h) (G : h.Ns mainGlobals mg) (z : PySem.W.nsIn K mainGlobals x = some (some (.ref B))) (l : ∀ y ∈ es, CatY K mg (.ref B) y (sub y)) : CatF K mg es x sub := ⟨.ref B, PySem.W.mg_of X G z, l⟩
end
end Kw
namespace Kw
open PySem PySem.Spec PyProof.Rows L2
section
variable {tg : FG} {tt : FT} {te : FE} {ρ : FEnv} {gg : Option (Nat × List D)} {S : Store} {acc ds : List D} {b : FS}
theorem compL_nil (hg : gd gg S) : compL tg tt te gg ρ [] acc S = .ok acc S := by
  unfold compL gchk; rw [if_pos hg]
theorem compL_step {d y : D} {ρ1 : FEnv} {S1 S2 S3 : Store} (hg : gd gg S) (h1 : tg d ρ S = some (ρ1, S1)) (h2 : tt ρ1 S1 = .ok true S2) (h3 : te ρ1 S2 = .ok y S3) (hl : acc.length < sizeLine) :
    compL tg tt te gg ρ (d :: ds) acc S = compL tg tt te gg ρ ds (acc ++ [y]) S3 := by
  conv => lhs; unfold compL
  unfold gchk
  rw [if_pos hg, h1]
  simp [h2, h3, hl]
/-- a comprehension whose parts change the store -/
theorem compL_inv (I : Store → List D → Prop) : ∀ (ds acc : List D) (S : Store), (∀ d ∈ ds, ∀ S acc, I S acc → ∃ ρ1 y S', tg d ρ S = some (ρ1, S) ∧ tt ρ1 S = .ok true S ∧ te ρ1 S = .ok y S' ∧ I S' (acc ++ [y])) → I S acc → acc.length + ds.length ≤ sizeLine →
    ∃ acc' S', compL tg tt te none ρ ds acc S = .ok acc' S' ∧ I S' acc' ∧ acc'.length = acc.length + ds.length
  | [], acc, S, _, i, _ => ⟨acc, S, compL_nil (by unfold gd; trivial), i, by simp⟩
  | d :: ds, acc, S, h, i, hl => by
    obtain ⟨ρ1, y, S1, h1, h2, h3, i1⟩ := h d List.mem_cons_self S acc i
    obtain ⟨acc', S', e, i', l⟩ := compL_inv I ds (acc ++ [y]) S1 (fun e he => h e (List.mem_cons_of_mem _ he)) i1 (by simp at hl ⊢; omega)
    refine ⟨acc', S', ?_, i', by simp at l ⊢; omega⟩
    rw [compL_step (by unfold gd; trivial) h1 h2 h3 (by simp at hl; omega), e]
def lcR (c : Bool) (r : RE (List D)) : RE D := match r with
  | .ok acc S2 => if c then .ok (.loc S2.length) (S2 ++ [.lst acc]) else .ok (.lst acc) S2
  | _ => .no
@[simp] theorem lcR_f : lcR false (.ok acc S) = .ok (.lst acc) S := rfl
@[simp] theorem lcR_t : lcR true (.ok acc S) = .ok (.loc S.length) (S ++ [.lst acc]) := rfl
@[simp] theorem fLc_ap {c : Bool} {fi : FI} {vs : List Nat} : fLc c fi tg tt te vs ρ S = (fi ρ S).bnd fun p S1 => lcR c (compL tg tt te p.2 (wipeR ρ vs) p.1 [] S1) := rfl
@[simp] theorem fYes_ap : fYes ρ S = .ok true S := rfl
@[simp] theorem gAll_lst {bs : List Bool} : gAll [.lst (bs.map .bl)] S = .ok (.bl (bs.all id)) S := by
  have : ∀ bs : List Bool, blsOf (bs.map .bl) = some bs := by
    intro bs
    induction bs with
    | nil => rfl
    | cons b bs ih => simp [blsOf, ih]
  show (match (some (bs.map D.bl)).bind blsOf with
    | some bs => RE.ok (D.bl (bs.all id)) S
    | none => .no) = _
  simp [this]
end
/-- an exception in hand, asked -/
@[simp] theorem fIsE_ap {a : Addr} {b : Bool} {i : Nat} {ρ : FEnv} {S : Store} (h : ρ[i]? = some (some (.exn a))) : fIsE a b (fVar i) ρ S = .ok (.bl b) S := by
  have e : fVar i ρ S = .ok (.exn a) S := by
    unfold fVar; rw [h]
  unfold fIsE
  rw [e]
  simp
section
variable {es : List Str} {sub : Str → Bool} {i : Nat} {c : Str → Addr → FS} {ρ : FEnv} {S : Store} {d : D}
@[simp] theorem clr_rt : (RS.rt d S).clr i = .rt d S := rfl
@[simp] theorem clr_nx : (RS.nx ρ S).clr i = .nx (ρ.set i none) S := rfl
@[simp] theorem noX_rt : (RS.rt d S).noX = .rt d S := rfl
@[simp] theorem noX_nx : (RS.nx ρ S).noX = .nx ρ S := rfl
end
end Kw
namespace Kw
open PySem PySem.Spec PyProof.Rows L2
abbrev Cl := Value × Option Nat × (Addr → Value → Option Addr → TS)
/-- the ends after a clause whose name stands in slot i -/
def gone (i : Nat) (D : Ends) : Ends := { nx := fun z G => D.nx (z.set i none) G, rt := D.rt, bk := fun z G => D.bk (z.set i none) G, ct := fun z G => D.ct (z.set i none) G }
def hit (o : Option Nat) (ts : TS) (D : Ends) (a : Addr) (σ : L2.St) (H : Hp) : Prop := match o with
  | none => ts D σ H
  | some i => ts (gone i D) (σ.set i (some (.ref a))) H
/-- what the clauses wish of an exception -/
def wCls (K : PySem.W.Frag) (Wout : WX) (D : Ends) : List Cl → WX
  | [] => Wout
  | (c, o, ts) :: r => fun cls d σ H => ∃ b, PySem.W.exmOne K cls c = some b ∧ (b = true → ∀ a, H a = none → hit o (ts a cls d) D a σ H) ∧ (b = false → wCls K Wout D r cls d σ H)
def SuOk (X : Cx) (suite : List Stmt) (ts : Addr → Value → Option Addr → TS) : Prop :=
  ∀ (a : Addr) (oe : Obj) (cls : Value) (d : Option Addr) (pn : List (Addr × Obj)), Zc cls d oe → (∃ vs, oe.data = .fields vs) → PSs (X.suite a ((a, oe) :: pn)) suite (ts a cls d)
inductive ClsOk (X : Cx) : List ExceptHandler → List Cl → Prop
  | nil : ClsOk X [] []
  | plain {x : Str} {c : Value} {ts : Addr → Value → Option Addr → TS} {b₀ : Stmt} {su : List Stmt} {np q : Pos} {hds : List ExceptHandler} {l : List Cl} (nm : Names X x c) (k : SuOk X (b₀ :: su) ts) (r : ClsOk X hds l) :
      ClsOk X (.ExceptHandler (some (.Name x np)) none (b₀ :: su) q :: hds) ((c, none, ts) :: l)
  | named {x n : Str} {i : Nat} {c : Value} {ts : Addr → Value → Option Addr → TS} {b₀ : Stmt} {su : List Stmt} {np q : Pos} {hds : List ExceptHandler} {l : List Cl} (hi : X.N[i]? = some n) (hln : X.env.kindOf n = some .local) (nm : Names X x c) (k : SuOk X (b₀ :: su) ts) (r : ClsOk X hds l) :
      ClsOk X (.ExceptHandler (some (.Name x np)) (some n) (b₀ :: su) q :: hds) ((c, some i, ts) :: l)
section
variable {X : Cx} {body : List Stmt} {h₀ : ExceptHandler} {hds : List ExceptHandler} {l : List Cl} {pos : Pos} {tb : WX → TS} {Wout : WX}
theorem try_cls (stk : X.stack = X.env :: X.outer) (frm : X.env.frame = some X.env.locals) (hN : X.N.Nodup) (tk : Takes X Wout)
    (hb : ∀ (W' : WX) (pn : List (Addr × Obj)) (xe : Value → Shared → Prop), Takes (X.tr pn xe) W' → PassesOwn (model X.prog X.w) X.A X.env xe → PSs (X.tr pn xe) body (tb W'))
    (hh : ClsOk X (h₀ :: hds) l) : PS X (.Try body (h₀ :: hds) [] [] pos) (fun D σ H => tb (wCls X.K Wout D l) D σ H) := by
  refine ⟨fun pins s σ H D I pre => ?_⟩
  have ok := I.ok
  have frs0 : X.A.frames = some (X.env :: X.outer) := ok.frames.trans (congrArg some stk)
  let XE0 : Value → Shared → Prop := fun e s₁ => wpAny (model X.prog X.w) X.A (noteFrame e X.env) (fun _ s₂ => wpAny (model X.prog X.w) X.A (setFlight e none) (fun _ s₃ => wpAny (model X.prog X.w) X.A (handleBy e X.env (h₀ :: hds)) (SP X pins D) X.xe s₃) X.xe s₂) X.xe s₁
  have caught : Takes (X.tr (X.pn ++ pins) XE0) (wCls X.K Wout D l) := by
    rintro u s' ⟨a, B, sI, pins', σ', H', cls, d, rfl, J', nb, up, sky, na, os, ag, w⟩
    have J : Inv X pins σ' H' sI := J'.ofTry ok
    have sky' : Sky B (X.env :: X.outer) a (Zc cls d) X.env.locals s'.heap := stk ▸ sky
    show wpAny (model X.prog X.w) X.A (noteFrame (.ref a) X.env) _ _ _
    refine Sky.land Zc.steady frs0 frm sky' fun g3 fl3 u3 => ?_
    have J3 : Inv X pins σ' H' { s' with heap := g3 } := J.landed nb fl3.1 (up.trans u3) os ag
    obtain ⟨o3, v3, at3, z3, d3⟩ := fl3.there
    have off : ∀ {g : Heap} {o : Obj} {vs : Array Value}, g.FunFrames B (X.env :: X.outer) → g.get? a = some o → o.data = .fields vs → a ∉ frs (X.env :: X.outer) := by
      intro g o vs ff at_ dd hm
      obtain ⟨_, o', at', nd⟩ := ff.mem hm
      cases at_.symm.trans at'
      exact nd _ dd
    have n0 := off fl3.2.2.1 at3 d3
    have n1 : a ≠ X.env.locals := by
      rintro rfl
      exact n0 (List.mem_filterMap.mpr ⟨X.env, List.mem_cons_self, frm⟩)
    have n2 : a ∉ X.fs := by
      intro hm
      obtain ⟨e, he, q⟩ := List.mem_filterMap.mp hm
      exact n0 (List.mem_filterMap.mpr ⟨e, .tail _ he, q⟩)
    have S3 := J3.suite at3 d3 na n1 n2
    have LT : PySem.W.Looks (model X.prog X.w) g3 (typeOf (.ref a)) cls := fun A Q E s k q => wpAny_typeOf_ref (k _ _ at3) (z3.1.symm ▸ q)
    have go : ∀ {hs' : List ExceptHandler} {l' : List Cl}, ClsOk X hs' l' → wCls X.K Wout D l' cls d σ' H' → wpAny (model X.prog X.w) X.A (handleBy (.ref a) X.env hs') (SP X pins D) X.xe { s' with heap := g3 } := by
      intro hs' l' hk
      have ask : ∀ {x : Str} {c : Value} {np : Pos}, Names X x c → ∀ {Q E : Value → Shared → Prop}, Q c { s' with heap := g3 } → wpAny (model X.prog X.w) (X.A.mark (some (.ref a))) (eval (.Name x np) X.env) (fun v s => Q v s) E { s' with heap := g3 } := by
        rintro x c np ⟨hg, hdb, hm | ⟨hm, hv, hnn⟩⟩ Q E q
        · exact ld_glob (X := X.suite a ((a, o3) :: (X.pn ++ pins))) S3 hg hm q hdb
        · exact ld_blt (X := X.suite a ((a, o3) :: (X.pn ++ pins))) S3 hg hm hv q hnn hdb
      induction hk with
      | nil =>
        intro w
        refine wpAny_handleBy_nil ?_
        obtain ⟨_, _, _, oe, vs, T, oT, ts', he, hz, hd, h1, hr⟩ := id fl3
        unfold PySem.passOn
        refine wpAny_bind (wpAny_field he hd h1 ?_)
        rw [if_neg (by simp)]
        have up4 : wpAny (model X.prog X.w) X.A (setFlight (.ref a) X.env.frame) (fun _ s4 => wpAny (model X.prog X.w) X.A (throw (.ref a) : Sem Flow) (SP X pins D) X.xe s4) X.xe { s' with heap := g3 } := by
          rw [frm]
          exact HandSPX.setFlight_upZ fl3 fun g4 hg4 u4 => wpAny_throw (tk _ _ ⟨a, B, sI, pins, σ', H', cls, d, rfl, J, nb, (up.trans u3).trans u4, .inr (.inr (stk.symm ▸ hg4)), na, os, ag, w⟩)
        first
          | exact wpAny_bind (wpAny_pure (wpAny_bind up4))
          | exact wpAny_bind up4
      | @plain x c ts b₀ su np q hds2 l2 nm k r ih =>
        rintro ⟨b, hb1, yes, no⟩
        refine wpAny_handleBy_cons (codeAny_handlers_test ?_) (by intro z; cases z)
        refine ask nm ((PySem.W.exm_one (M := model X.prog X.w) J3.kIn LT hb1).here ?_)
        cases b with
        | false => exact ih (no rfl)
        | true =>
          refine codeAny_handlers_suite (HandSPX.lands_againZ fl3 fun g4 fl4 u4 => ?_)
          have J4 : Inv X pins σ' H' { s' with heap := g4 } := J.landed nb fl4.1 ((up.trans u3).trans u4) os ag
          obtain ⟨o4, v4, at4, z4, d4⟩ := fl4.there
          have S4 := J4.suite at4 d4 na n1 n2
          refine wpAny_mono ((k a o4 cls d (X.pn ++ pins) z4 ⟨_, d4⟩).run [] _ _ H' _ S4 (yes rfl a na)) (fun f s6 hsp => ?_) (fun _ _ z => False.elim z)
          cases f with
          | ret u => obtain ⟨v6, σ6, H6, S6, r6, q6⟩ := hsp; exact ⟨_, _, _, S6.unsuite ok, r6, q6⟩
          | _ => obtain ⟨σ6, H6, S6, q6⟩ := hsp; exact ⟨_, _, S6.unsuite ok, q6⟩
      | @named x n i c ts b₀ su np q hds2 l2 hi hln nm k r ih =>
        rintro ⟨b, hb1, yes, no⟩
        refine wpAny_handleBy_cons (codeAny_handlers_test ?_) (by intro z; cases z)
        refine ask nm ((PySem.W.exm_one (M := model X.prog X.w) J3.kIn LT hb1).here ?_)
        cases b with
        | false => exact ih (no rfl)
        | true =>
          refine codeAny_handlers_suite_as (HandSPX.lands_againZ fl3 fun g4 fl4 u4 => ?_)
          have J4 : Inv X pins σ' H' { s' with heap := g4 } := J.landed nb fl4.1 ((up.trans u3).trans u4) os ag
          obtain ⟨o4, v4, at4, z4, d4⟩ := fl4.there
          have S4 := J4.suite at4 d4 na n1 n2
          refine store_ok (X := X.suite a ((a, o4) :: (X.pn ++ pins))) (v := .ref a) S4 hN hi (.inl hln) rfl (fun s5 S5 => ?_) (.inr hln)
          refine wpAny_mono ((k a o4 cls d (X.pn ++ pins) z4 ⟨_, d4⟩).run [] s5 _ H' _ S5 (yes rfl a na)) (fun f s6 hsp => ?_) (fun _ _ z => False.elim z)
          have out : ∀ {σ6 : L2.St} {H6 : Hp} {Q : Shared → Prop}, Inv (X.suite a ((a, o4) :: (X.pn ++ pins))) [] σ6 H6 s6 → (∀ s7, Inv X pins (σ6.set i none) H6 s7 → Q s7) → wpAny (model X.prog X.w) X.A (do bindName X.env n .none; unbindBehindTheSuite X.env n q) (fun _ s7 => Q s7) X.xe s6 :=
            fun S6 hq => gone_ok (S6.unsuite ok) hN hi hln hq
          cases f with
          | ret u => obtain ⟨v6, σ6, H6, S6, r6, q6⟩ := hsp; exact out S6 fun s7 J7 => ⟨_, _, _, J7, r6, q6⟩
          | _ => obtain ⟨σ6, H6, S6, q6⟩ := hsp; exact out S6 fun s7 J7 => ⟨_, _, J7, q6⟩
    exact go hh w
  refine wpAny_Try_except (wpAny_mono ((hb _ (X.pn ++ pins) XE0 caught PassesOwn.looking).run [] s σ H D (I.toTry _) pre) (fun f s1 hsp => ?_) (fun e s1 he => he))
  cases f with
  | next => obtain ⟨σ', H', J', q⟩ := hsp; exact wpAny_execs_nil ⟨σ', H', J'.ofTry ok, q⟩
  | ret u => obtain ⟨v, σ', H', J', r, q⟩ := hsp; exact ⟨v, σ', H', J'.ofTry ok, r, q⟩
  | _ => obtain ⟨σ', H', J', q⟩ := hsp; exact ⟨σ', H', J'.ofTry ok, q⟩
end
abbrev ClF := (Str → Bool) × Option Nat × (Str → Addr → FS)
def clRun (o : Option Nat) (c : Addr → FS) (ρ : FEnv) (S : Store) (a : Addr) : RS := match o with
  | none => (c a ρ S).noX
  | some i => ((c a (ρ.set i (some (.exn a))) S).clr i).noX
noncomputable def clsR (x : Ex) (ρ : FEnv) (S : Store) : List ClF → RS
  | [] => .ex x ρ S
  | (sub, o, c) :: r => if sub x.cls then aInd (clRun o (c x.cls) ρ S) else clsR x ρ S r
/-- es: the classes that may come -/
noncomputable def sTryC (es : List Str) (cs : List ClF) (b : FS) : FS := fun ρ S => match b ρ S with
  | .ex x ρ' S' => if x.cls ∈ es ∧ x.ns = [] then clsR x ρ' S' cs else .no
  | r => r
def SuF [Wo] (X : Cx) (es : List Str) (suite : List Stmt) (c : Str → Addr → FS) : Prop :=
  ∀ (y : Str), y ∈ es → ∀ (a : Addr) (oe : Obj) (pn : List (Addr × Obj)) (C : Addr), X.mg y = some (.ref C) → Zc (.ref C) none oe → (∃ vs, oe.data = .fields vs) → PSs (X.suite a ((a, oe) :: pn)) suite (tS (X.suite a ((a, oe) :: pn)) W0 (c y a))
inductive ClsF [Wo] (X : Cx) (es : List Str) : List ExceptHandler → List ClF → Prop
  | nil : ClsF X es [] []
  | plain {x : Str} {sub : Str → Bool} {c : Str → Addr → FS} {b₀ : Stmt} {su : List Stmt} {np q : Pos} {hds : List ExceptHandler} {l : List ClF} (h : CatF X.K X.mg es x sub) (hg : Gl X x) (k : SuF X es (b₀ :: su) c) (r : ClsF X es hds l) (hd : (x == ("__debug__" : Str)) = false := by decide) :
      ClsF X es (.ExceptHandler (some (.Name x np)) none (b₀ :: su) q :: hds) ((sub, none, c) :: l)
  | named {x n : Str} {i : Nat} {sub : Str → Bool} {c : Str → Addr → FS} {b₀ : Stmt} {su : List Stmt} {np q : Pos} {hds : List ExceptHandler} {l : List ClF} (h : CatF X.K X.mg es x sub) (hg : Gl X x) (hi : X.N[i]? = some n) (hln : X.env.kindOf n = some .local) (k : SuF X es (b₀ :: su) c) (r : ClsF X es hds l) (hd : (x == ("__debug__" : Str)) = false := by decide) :
      ClsF X es (.ExceptHandler (some (.Name x np)) (some n) (b₀ :: su) q :: hds) ((sub, some i, c) :: l)
section
variable {X : Cx} {W : WX} {es : List Str}
def tsOf [Wo] (X : Cx) (es : List Str) (c : Str → Addr → FS) : Addr → Value → Option Addr → TS := fun a cls d D σ H => ∃ y C, y ∈ es ∧ X.mg y = some (.ref C) ∧ cls = .ref C ∧ d = none ∧ tS X W0 (c y a) D σ H
theorem SuF.su [Wo] {suite : List Stmt} {c : Str → Addr → FS} (k : SuF X es suite c) : SuOk X suite (tsOf X es c) := by
  intro a oe cls d pn hz hd
  refine ⟨fun pins s σ H D I h => ?_⟩
  obtain ⟨y, C, hy, hyC, rfl, rfl, t⟩ := h
  exact (k y hy a oe pn C hyC hz hd).run pins s σ H D I t
theorem EndS.nox [Wo] {K : PySem.W.Frag} {mg : Str → Option Value} {w : Wd} {H : Hp} {D : Ends} {r : RS} (h : EndS K mg w H r.noX D W) : EndS K mg w H r D W0 := by
  cases r with
  | ex x ρ S => exact h.elim
  | _ => exact h
theorem ClsF.go [Wo] {hds : List ExceptHandler} {cs : List ClF} (h : ClsF X es hds cs) (hk : ∀ y ∈ es, ExcK X.K X.mg y) : ∃ l, ClsOk X hds l ∧ ∀ (D : Ends) (w : Wd) (x : Ex) (ρ : FEnv) (S : Store) (σ : L2.St) (H : Hp) (cy : Value) (od : Option Addr), x.cls ∈ es → x.ns = [] → Sto X.K X.mg w S H → EnvR X.K X.mg w H ρ σ → ExR X.K X.mg w H x cy od →
    EndS X.K X.mg w H (clsR x ρ S cs) D W → wCls X.K W D l cy od σ H := by
  have ex0 : ∀ {w : Wd} {H : Hp} {x : Ex} {cy : Value} {od : Option Addr}, x.cls ∈ es → x.ns = [] → ExR X.K X.mg w H x cy od → ∃ C, X.mg x.cls = some (.ref C) ∧ cy = .ref C ∧ od = none := by
    intro w H x cy od hx hn ex
    obtain ⟨gy, hr⟩ := ex
    obtain ⟨C, gC, _⟩ := hk _ hx
    cases gC.symm.trans gy
    refine ⟨C, gC, rfl, ?_⟩
    rcases hr with ⟨_, _, z⟩ | ⟨d, vs, z, _⟩
    · exact z
    · exact absurd hn z
  induction h with
  | nil =>
    refine ⟨[], .nil, fun D w x ρ S σ H cy od hx hn s en ex h => ?_⟩
    exact h w H σ cy od Ext.refl s en ex
  | @plain x sub c b₀ su np q hds l hc hg k r hd ih =>
    obtain ⟨cv, nm, hx1⟩ := hc.names hg hd
    obtain ⟨l', ok', go'⟩ := ih
    refine ⟨(cv, none, tsOf X es c) :: l', .plain nm k.su ok', fun D w x ρ S σ H cy od hx hn s en ex h => ?_⟩
    obtain ⟨C, gC, rfl, rfl⟩ := ex0 hx hn ex
    refine ⟨sub x.cls, hx1 _ hx _ gC, fun hs a na => ?_, fun hs => ?_⟩
    · have h2 : EndS X.K X.mg w H (aInd (clRun none (c x.cls) ρ S)) D W := by
        have h' := h
        unfold clsR at h'
        rw [if_pos hs] at h'
        exact h'
      by_cases hno : aInd (clRun none (c x.cls) ρ S) = .no
      · rw [hno] at h2; exact h2.elim
      · rw [← aInd_at a rfl hno] at h2
        exact ⟨x.cls, C, hx, gC, rfl, rfl, w, ρ, S, s, en, h2.nox⟩
    · have h2 : EndS X.K X.mg w H (clsR x ρ S l) D W := by
        have h' := h
        unfold clsR at h'
        rw [if_neg (by rw [hs]; decide)] at h'
        exact h'
      exact go' D w x ρ S σ H _ _ hx hn s en ex h2
  | @named x n i sub c b₀ su np q hds l hc hg hi hln k r hd ih =>
    obtain ⟨cv, nm, hx1⟩ := hc.names hg hd
    obtain ⟨l', ok', go'⟩ := ih
    refine ⟨(cv, some i, tsOf X es c) :: l', .named hi hln nm k.su ok', fun D w x ρ S σ H cy od hx hn s en ex h => ?_⟩
    obtain ⟨C, gC, rfl, rfl⟩ := ex0 hx hn ex
    refine ⟨sub x.cls, hx1 _ hx _ gC, fun hs a na => ?_, fun hs => ?_⟩
    · have h2 : EndS X.K X.mg w H (aInd (clRun (some i) (c x.cls) ρ S)) D W := by
        have h' := h
        unfold clsR at h'
        rw [if_pos hs] at h'
        exact h'
      by_cases hno : aInd (clRun (some i) (c x.cls) ρ S) = .no
      · rw [hno] at h2; exact h2.elim
      · rw [← aInd_at a rfl hno] at h2
        exact ⟨x.cls, C, hx, gC, rfl, rfl, w, ρ.set i (some (.exn a)), S, s, en.set (by unfold Rp; rfl), EndS.clr h2⟩
    · have h2 : EndS X.K X.mg w H (clsR x ρ S l) D W := by
        have h' := h
        unfold clsR at h'
        rw [if_neg (by rw [hs]; decide)] at h'
        exact h'
      exact go' D w x ρ S σ H _ _ hx hn s en ex h2
theorem q_tryC [Wo] {body : List Stmt} {h₀ : ExceptHandler} {hds : List ExceptHandler} {cs : List ClF} {pos : Pos} {fb : FS} (stk : X.stack = X.env :: X.outer) (frm : X.env.frame = some X.env.locals) (hN : X.N.Nodup) (tk : Takes X W) (hk : ∀ y ∈ es, ExcK X.K X.mg y)
    (hb : ∀ (W' : WX) (pn : List (Addr × Obj)) (xe : Value → Shared → Prop), Takes (X.tr pn xe) W' → PassesOwn (model X.prog X.w) X.A X.env xe → PSs (X.tr pn xe) body (tS (X.tr pn xe) W' fb))
    (hc : ClsF X es (h₀ :: hds) cs) : PS X (.Try body (h₀ :: hds) [] [] pos) (tS X W (sTryC es cs fb)) := by
  obtain ⟨l, okl, go⟩ := hc.go (W := W) hk
  refine PS.wk (try_cls (tb := fun W' => tS X W' fb) stk frm hN tk (fun W' pn xe t o => hb W' pn xe t o) okl) fun D σ H ⟨w, ρ, S, s, en, h⟩ => ?_
  refine ⟨w, ρ, S, s, en, ?_⟩
  unfold sTryC at h
  cases hbb : fb ρ S with
  | ex y ρ' S' =>
    rw [hbb] at h
    simp only at h
    split at h
    · rename_i hm
      intro w' H' σ' cy od e s' en' ex
      exact go D w' y ρ' S' σ' H' cy od hm.1 hm.2 s' en' ex (h.on e)
    · exact h.elim
  | _ => rw [hbb] at h; exact h
end
end Kw
namespace Kw
open PySem PySem.Spec PyProof.Rows L2
def rIsET (K : PySem.W.Frag) (C a : Addr) : List V → Hp → VK → Prop := fun xs H Q => ∃ (tp : Addr) (cs : List V) (us : List Value) (b : Bool), xs = [.ref a, .ref tp] ∧ H tp = some (.tup cs) ∧ Paired ClsV cs us ∧ PySem.W.kitAny K (.ref C) us = some b ∧ Q (.bl b) H
theorem call_isET {X : Cx} {a C : Addr} {oe : Obj} {pn : List (Addr × Obj)} (F : ExcC X.K C) (hz : Zc (.ref C) none oe) (hf : ∃ vs, oe.data = .fields vs) : CallR (X.suite a ((a, oe) :: pn)) (.builtin "isinstance") (rIsET X.K C a) := by
  intro pins s σ H xs us Q I r h
  obtain ⟨tp, cs, ws, b, rfl, hT, k, e, q⟩ := h
  obtain ⟨u1, u2, rfl, r1, r2⟩ := vals2 r
  cases (show u2 = Value.ref tp from r2)
  cases (show u1 = Value.ref a from r1)
  obtain ⟨hget, _⟩ := I.pin (a, oe) (List.mem_append.mpr (.inl List.mem_cons_self))
  obtain ⟨vs, hv⟩ := hf
  have J : PySem.W.InstAt s.heap a oe C none := by
    obtain ⟨c1, c2, c3, c4⟩ := oe
    obtain ⟨h1, h2⟩ := hz
    dsimp only at h1 h2 hv
    subst h1 h2 hv
    exact ⟨hget, rfl, rfl, trivial⟩
  obtain ⟨_, its, rv, o, h1, h2, n, h3⟩ := (show ObjOk X.prog X.w H s.heap tp (.tup cs) from I.hok tp _ hT)
  have e3 := ClsV.all k rv
  subst e3
  obtain ⟨oc, od, dt, sl⟩ := o
  dsimp only at h2 h3
  subst h2 h3
  exact PySem.W.kia_tup (PySem.W.handS_kitx_exc F.hg F.hk F.hs F.hd F.ha F.hn F.ht F.hm) I.kIn J h1 e (fun z => nomatch z) fun tk => ⟨.bl b, H, I.kept (t' := tk) fun _ _ z => z, rfl, q⟩
section
variable {X : Cx} {W : WX} {o : Expr} {fe : FE} {a : Addr} {oe : Obj} {pn : List (Addr × Obj)} {y x1 x2 : Str} {C : Addr} {b1 b2 : Bool} {p p1 p2 pos tpos : Pos} {k : Nat}
theorem q_isET [Wo] (hy : ExcK X.K X.mg y) (hyC : X.mg y = some (.ref C)) (h1 : IsxO X.K X.mg y x1 b1) (h2 : IsxO X.K X.mg y x2 b2) (hz : Zc (.ref C) none oe) (hf : ∃ vs, oe.data = .fields vs)
    (hg : Gl X "isinstance") (hm : X.mg "isinstance" = none) (hg1 : Gl X x1) (hg2 : Gl X x2) (ho : PE (X.suite a ((a, oe) :: pn)) o (tF (X.suite a ((a, oe) :: pn)) W fe)) (hd1 : (x1 == ("__debug__" : Str)) = false := by decide) (hd2 : (x2 == ("__debug__" : Str)) = false := by decide)
    (s1 : starEach [o, .Tuple [.Name x1 p1, .Name x2 p2] k tpos] X.env = (false, eval o X.env) :: starEach [.Tuple [.Name x1 p1, .Name x2 p2] k tpos] X.env := by rfl)
    (s2 : starEach [.Tuple [.Name x1 p1, .Name x2 p2] k tpos] X.env = (false, eval (.Tuple [.Name x1 p1, .Name x2 p2] k tpos) X.env) :: starEach [] X.env := by rfl)
    (s3 : starEach [.Name x1 p1, .Name x2 p2] X.env = (false, eval (.Name x1 p1) X.env) :: starEach [.Name x2 p2] X.env := by rfl) (s4 : starEach [.Name x2 p2] X.env = (false, eval (.Name x2 p2) X.env) :: starEach [] X.env := by rfl)
    (hpl : (backTo pos (starEach [.Tuple [.Name x1 p1, .Name x2 p2] k tpos] X.env)).any (·.1) = false := by rfl) :
    PE (X.suite a ((a, oe) :: pn)) (.Call (.Name "isinstance" p) [o, .Tuple [.Name x1 p1, .Name x2 p2] k tpos] [] pos) (tF (X.suite a ((a, oe) :: pn)) W (fIsE a (b1 || b2) fe)) := by
  obtain ⟨C1, m1, k1⟩ := hy
  obtain ⟨C2, B1, m2, m3, k2⟩ := h1
  obtain ⟨C3, B2, m4, m5, k3⟩ := h2
  cases hyC.symm.trans m1
  cases hyC.symm.trans m2
  cases hyC.symm.trans m4
  have n1 : PE (X.suite a ((a, oe) :: pn)) (.Name x1 p1) (tC (.ref B1)) := pe_glob hg1 m3 rfl hd1
  have n2 : PE (X.suite a ((a, oe) :: pn)) (.Name x2 p2) (tC (.ref B2)) := pe_glob hg2 m5 rfl hd2
  have tup := pe_tup (x1 := k) (pos := tpos) (pa_cons n1 (pa_cons n2 pa_nil s4) s3)
  refine PE.wk (pe_callB (call_isET k1 hz hf) hg hm (by decide +kernel) (pa_cons ho (pa_cons tup pa_nil s2) s1) (by decide) (by decide) s1 hpl) fun σ H Q ⟨w, ρ, S, s, en, h⟩ => ?_
  refine ⟨w, ρ, S, s, en, (End.bind (R := fun w H => Rp X.K X.mg w H) h).imp ?_ (fun _ _ _ z => z)⟩
  rintro v H1 ⟨w1, S1, d, e1, s1', r1, h3⟩
  cases d with
  | exn a' =>
    simp only at h3
    split at h3
    · rename_i ea
      subst ea
      have ev : v = .ref a' := by unfold Rp at r1; exact r1
      refine ⟨by rw [sizeLine_eq]; simp, fun q np => ?_⟩
      refine ⟨q, [.ref B1, .ref B2], [.ref B1, .ref B2], b1 || b2, by rw [ev], upd_same, .cons (.own B1) (.cons (.own B2) .nil), ?_, ?_⟩
      · cases b1 <;> cases b2 <;> simp [PySem.W.kitAny, k2, k3]
      · exact h3 w1 _ _ (Ext.new np) (s1'.beside np) rp_b
    · exact h3.elim
  | _ => exact h3.elim
end
def fSM (g : D → List D → Store → RE D) (o : FE) (a : FA) : FE := fun ρ S => (o ρ S).bnd fun x S1 => match x with
  | .str z => (a ρ S1).bnd fun ds S2 => g (.str z) ds S2
  | _ => .no
def strsOf : List D → Option (List Str)
  | [] => some []
  | .str z :: r => (strsOf r).map (z :: ·)
  | _ => none
def gJoin (x : D) (ds : List D) (S : Store) : RE D := match x, ds with
  | .str a, [y] => (match (seqL S y).bind strsOf with
    | some ys => if (ys.map (·.length)).sum + ys.length * a.length ≤ 16777216 then .ok (.str (Txt.join a ys)) S else .no
    | none => .no)
  | _, _ => .no
section
variable {K : PySem.W.Frag} {mg : Str → Option Value} {w : Wd} {H : Hp}
theorem strs_at : ∀ {ds : List D} {vs : List V} {ys : List Str}, RpL K mg w H ds vs → strsOf ds = some ys → vs = ys.map V.str
  | [], vs, ys, r, h => by cases h; unfold RpL at r; exact r
  | d :: ds, vs, ys, r, h => by
    cases d with
    | str z =>
      unfold RpL at r
      obtain ⟨v, t, rfl, r1, r2⟩ := r
      cases h1 : strsOf ds with
      | none => simp [strsOf, h1] at h
      | some zs =>
        simp [strsOf, h1] at h
        subst h
        rw [rp_str r1, strs_at r2 h1]; rfl
    | _ => simp [strsOf] at h
theorem join_v [Wo] : MtV K mg (fun x xs H Q => ∃ a p, ∃ ys : List Str, x = .str a ∧ xs = [.ref p] ∧ (SqL K H p (ys.map V.str) ∨ SqT K H p (ys.map V.str)) ∧ (ys.map (·.length)).sum + ys.length * a.length ≤ 16777216 ∧ Q (.str (Txt.join a ys)) H) gJoin := by
  intro w S H x xs d ds Q E s r1 r2 h
  unfold gJoin at h
  split at h
  · rename_i a y
    split at h
    · rename_i ys hy
      split at h
      · rename_i hl
        obtain ⟨v, rfl, r3⟩ := r2.one_inv
        obtain ⟨zs, h1, h2⟩ := Option.bind_eq_some_iff.mp hy
        obtain ⟨p, vs, e2, t2, q2⟩ := seqL_at s r3 h1
        have e3 := strs_at q2 h2
        subst e3
        exact ⟨a, p, ys, rp_str r1, by rw [e2], .inl t2, hl, h.ret s rp_s⟩
      · exact h.elim
    · exact h.elim
  · exact h.elim
end
section
variable {X : Cx} {W : WX} {o e : Expr} {es : List Expr} {fo : FE} {fs : FA} {name : Str} {apos cpos : Pos} {id : String} {r : V → List V → Hp → VK → Prop} {g : D → List D → Store → RE D}
theorem q_smth [Wo] (slot : Slot "str" name id) (hty : typeOf (.builtin id) = pure (.type "method_descriptor")) (hm : MtR X id r) (hv : MtV X.K X.mg r g) (ho : PE X o (tF X W fo)) (ha : PA X (e :: es) (tA X W fs))
    (hbase : attributeBase o name X.env (eval o X.env) = eval o X.env := by rfl)
    (hfw : ((backTo cpos (starEach (e :: es) X.env)).all (fun x => !x.1) && (backToKw cpos (keywordEach [] X.env)).all (fun x => x.1.isSome) && decide ((e :: es).length + ([] : List Keyword).length + (if ([] : List Keyword).isEmpty then 0 else 1) < 30)) = true := by rfl)
    (hln : (apos.endLine == cpos.line) = true := by rfl) (hs : starEach (e :: es) X.env = (false, eval e X.env) :: starEach es X.env := by rfl) (hpl : (backTo cpos (starEach es X.env)).any (·.1) = false := by rfl) :
    PE X (.Call (.Attribute o name apos) (e :: es) [] cpos) (tF X W (fSM g fo fs)) :=
  PE.wk (pe_bm PySem.F.plainAttrs_str slot hty hm ho ha hbase hfw hln hs hpl) fun σ H Q ⟨w, ρ, S, s, en, h⟩ => by
    refine ⟨w, ρ, S, s, en, (End.bind (R := fun w H => Rp X.K X.mg w H) h).imp ?_ (fun _ _ _ z => z)⟩
    rintro x H1 ⟨w1, S1, d, e1, s1, r1, h1⟩
    cases d with
    | str z =>
      refine ⟨by rw [rp_str r1]; rfl, w1, ρ, S1, s1, en.ext e1, (End.bind (R := fun w H => RpL X.K X.mg w H) h1).imp ?_ (fun _ _ _ z => z)⟩
      rintro us H2 ⟨w2, S2, ds, e3, s2, r2, h2⟩
      exact hv w2 S2 H2 x us (.str z) ds Q _ s2 (Rp.ext e3 _ _ r1) r2 h2
    | _ => exact h1.elim
end
end Kw
namespace Kw
open PySem PySem.Spec PyProof.Rows L2
def revS (z : Str) : Str := ⟨((Builtin.Str.strSliceIndices none none (-1) z.length).filterMap (z.cps[·]?)).toArray⟩
theorem revIx_length (n : Nat) : (Builtin.Str.strSliceIndices none none (-1) n).length ≤ n := by
  unfold Builtin.Str.strSliceIndices sliceRange
  simp only [show ¬ ((-1 : Int) > 0) by decide, if_false, List.length_map, List.length_range]
  repeat' split
  all_goals simp
  all_goals omega
theorem revS_length (z : Str) : (revS z).length ≤ z.length := by
  show (List.filterMap _ _).toArray.size ≤ _
  rw [List.size_toArray]
  exact Nat.le_trans (List.length_filterMap_le _ _) (revIx_length _)
def keyP : Key → PyData
  | .inl i => .int i
  | .inr x => .str x
mutual
/-- a value as data that is shown -/
inductive Rs (K : PySem.W.Frag) (H : Hp) (b : Bool) : V → PyData → Prop
  | non : Rs K H b .non .none
  | bl (c : Bool) : Rs K H b (.bl c) (.bool c)
  | int (i : Int) : Rs K H b (.int i) (.int i)
  | str (x : Str) : Rs K H b (.str x) (.str x)
  | lst {a : Addr} {xs : List V} {ds : List PyData} : SqL K H a xs → (b = true → a ≠ sysModules) → RsL K H b xs ds → Rs K H b (.ref a) (.list ds)
  | tup {a : Addr} {xs : List V} {ds : List PyData} : SqT K H a xs → RsL K H b xs ds → Rs K H b (.ref a) (.tuple ds)
  | dic {a : Addr} {kvs : List (Key × V)} {ps : List (PyData × PyData)} : H a = some (.dK kvs) → RsV K H b kvs ps → Rs K H b (.ref a) (.dict ps)
inductive RsL (K : PySem.W.Frag) (H : Hp) (b : Bool) : List V → List PyData → Prop
  | nil : RsL K H b [] []
  | cons {v : V} {vs : List V} {d : PyData} {ds : List PyData} : Rs K H b v d → RsL K H b vs ds → RsL K H b (v :: vs) (d :: ds)
inductive RsV (K : PySem.W.Frag) (H : Hp) (b : Bool) : List (Key × V) → List (PyData × PyData) → Prop
  | nil : RsV K H b [] []
  | cons {k : Key} {v : V} {r : List (Key × V)} {d : PyData} {ps : List (PyData × PyData)} : Rs K H b v d → RsV K H b r ps → RsV K H b ((k, v) :: r) ((keyP k, d) :: ps)
end
mutual
/-- no list in it -/
def noLs : PyData → Bool
  | .list _ => false
  | .tuple ds => noLsL ds
  | .dict kvs => noLsV kvs
  | _ => true
def noLsL : List PyData → Bool
  | [] => true
  | d :: ds => noLs d && noLsL ds
def noLsV : List (PyData × PyData) → Bool
  | [] => true
  | (_, d) :: ps => noLs d && noLsV ps
end
section
variable {X : Cx} {pins : List (Addr × Obj)} {σ : L2.St} {H : Hp} {s : Shared} {b : Bool}
mutual
theorem Rs.reads (I : Inv X pins σ H s) : ∀ (d : PyData) (v : V) (u : Value), Rs X.K H b v d → RelV v u → ∃ as, Reads s.heap u d as ∧ (noLs d = true ∨ b = true → sysModules ∉ as)
  | .none, _, _, .non, r => by cases r; exact ⟨[], .none, fun _ z => nomatch z⟩
  | .bool b, _, _, .bl _, r => by cases r; exact ⟨[], .bool b, fun _ z => nomatch z⟩
  | .int i, _, _, .int _, r => by obtain ⟨t, rfl⟩ := r; exact ⟨[], .int i t, fun _ z => nomatch z⟩
  | .str x, _, _, .str _, r => by obtain ⟨t, rfl⟩ := r; exact ⟨[], .str x t, fun _ z => nomatch z⟩
  | .list ds, _, _, .lst (a := a) hs hne ha, r => by
    cases r
    obtain ⟨its, rv, ⟨o, n, ho, hc, _, hd⟩, _⟩ := I.list hs
    obtain ⟨as, hr, hn⟩ := RsL.reads I ds _ its ha rv
    refine ⟨_, .list ho hc hd hr, fun z => ?_⟩
    have hb : b = true := by
      rcases z with z | z
      · simp [noLs] at z
      · exact z
    intro y
    rcases List.mem_cons.mp y with y | y
    · exact hne hb y.symm
    · exact hn (.inr hb) y
  | .tuple ds, _, _, .tup hs ha, r => by
    cases r
    obtain ⟨its, rv, ⟨o, ho, hc, n, hd⟩, _⟩ := I.tuple hs
    obtain ⟨as, hr, hn⟩ := RsL.reads I ds _ its ha rv
    exact ⟨_, .tuple ho hc hd hr, fun z => hn (by simpa [noLs] using z)⟩
  | .dict ps, _, _, .dic (a := a) (kvs := kvs) hs hv, r => by
    cases r
    obtain ⟨_, sm, vs, kv, o, es, ep, ho, hc, hd, hk, hp, _⟩ := dk_of I.hok hs
    obtain ⟨h1, bs, h2, hn⟩ := RsV.reads I ps kvs vs es.toList hv kv hp
    refine ⟨_, .dict (as := []) (bs := bs) ho hc.1 hd h1 h2, fun z y => ?_⟩
    rcases List.mem_append.mp y with y | y
    · have : sysModules = a := by simpa using y
      rw [this] at sm
      simp at sm
    · exact hn (by simpa [noLs] using z) y
theorem RsL.reads (I : Inv X pins σ H s) : ∀ (ds : List PyData) (vs : List V) (us : List Value), RsL X.K H b vs ds → Vals vs us → ∃ as, ReadsAll s.heap us ds as ∧ (noLsL ds = true ∨ b = true → sysModules ∉ as)
  | [], _, _, .nil, r => by cases r; exact ⟨_, .nil, fun _ z => nomatch z⟩
  | d :: ds, _, _, .cons h1 h2, r => by
    cases r with
    | cons r1 r2 =>
      obtain ⟨as, q1, n1⟩ := Rs.reads I d _ _ h1 r1
      obtain ⟨bs, q2, n2⟩ := RsL.reads I ds _ _ h2 r2
      refine ⟨_, .cons q1 q2, fun z y => ?_⟩
      simp only [noLsL, Bool.and_eq_true] at z
      rcases List.mem_append.mp y with y | y
      · exact n1 (z.imp (·.1) id) y
      · exact n2 (z.imp (·.2) id) y
theorem RsV.reads (I : Inv X pins σ H s) : ∀ (ps : List (PyData × PyData)) (kvs : List (Key × V)) (vs : List (Key × Value)) (es : List DictEntry), RsV X.K H b kvs ps → KV kvs vs → Pairs (mixKind X.prog X.w) es vs → ReadsAll s.heap (es.map (·.key)) (ps.map (·.1)) [] ∧ ∃ bs, ReadsAll s.heap (es.map (·.val)) (ps.map (·.2)) bs ∧ (noLsV ps = true ∨ b = true → sysModules ∉ bs)
  | [], _, _, _, .nil, r, q => by cases r; cases q; exact ⟨.nil, [], .nil, fun _ z => nomatch z⟩
  | (_, d) :: ps, _, _, _, .cons (k := k) h1 h2, r, q => by
    cases r with
    | cons r1 r2 =>
      cases q with
      | cons q1 q2 q3 =>
        obtain ⟨e1, e2⟩ := r1
        obtain ⟨a1, bs, a2, a3⟩ := RsV.reads I ps _ _ _ h2 r2 q3
        obtain ⟨as, b1, b2⟩ := Rs.reads I d _ _ h1 e2
        refine ⟨?_, as ++ bs, ?_, fun z y => ?_⟩
        · rw [← e1] at q1
          have hk : ∀ v, keyIs k v = true → Reads s.heap v (keyP k) [] := fun v hv => by
            rcases keyIs_shape hv with ⟨i, t, rfl, rfl⟩ | ⟨x, t, rfl, rfl⟩
            · exact .int i t
            · exact .str x t
          exact ReadsAll.cons (hk _ q1) a1
        · rw [List.map_cons, List.map_cons, q2]
          exact .cons b1 a2
        · simp only [noLsV, Bool.and_eq_true] at z
          rcases List.mem_append.mp y with y | y
          · exact b2 (z.imp (·.1) id) y
          · exact a3 (z.imp (·.2) id) y
end
end
section
variable {K : PySem.W.Frag} {mg : Str → Option Value} {w : Wd} {H : Hp} {S : Store} {b : Bool}
theorem RsV.zip : ∀ {ks : List Key} {vs : List V} {ps : List PyData}, RsL K H b vs ps → RsV K H b (ks.zip vs) ((ks.map keyP).zip ps)
  | [], _, _, _ => .nil
  | _ :: _, _, _, .nil => .nil
  | _ :: _, _, _, .cons h1 h2 => .cons h1 (RsV.zip h2)
theorem Fp.ne {a : Addr} {xs : List V} (t : Fp K w H a xs) (h1 : sysModules ∈ w.hd) (h2 : K.lookup sysModules = none) : a ≠ sysModules := by
  intro e
  subst e
  rcases t with ⟨o, _, off⟩ | ⟨o, its, n, h, _⟩
  · exact off.2 h1
  · rw [h2] at h; cases h
end
end Kw
namespace Kw
open PySem PySem.Spec PyProof.Rows L2
theorem turned_pick (l : List Value) : ((List.range l.length).filterMap fun (m : Nat) => l.toArray[(((l.length : Int) - 1) + (m : Int) * (-1)).toNat]?) = l.reverse := by
  apply List.ext_getElem?
  intro i
  have key : ∀ (n : Nat), n ≤ l.length → ((List.range n).filterMap fun (m : Nat) => l.toArray[(((l.length : Int) - 1) + (m : Int) * (-1)).toNat]?) = l.reverse.take n := by
    intro n
    induction n with
    | zero => intro _; simp
    | succ n ih =>
      intro hn
      rw [List.range_succ, List.filterMap_append, ih (by omega), List.take_add_one]
      congr 1
      have e1 : (((l.length : Int) - 1) + (n : Int) * (-1)).toNat = l.length - 1 - n := by omega
      have e2 : l.reverse[n]? = some (l[l.length - 1 - n]'(by omega)) := by
        rw [List.getElem?_reverse (by omega), List.getElem?_eq_getElem (by omega)]
      rw [e2]
      simp only [List.filterMap_cons, List.filterMap_nil]
      rw [e1]
      have e3 : l.toArray[l.length - 1 - n]? = some (l[l.length - 1 - n]'(by omega)) := by
        rw [List.getElem?_toArray, List.getElem?_eq_getElem (by omega)]
      rw [e3]; rfl
  rw [key l.length (Nat.le_refl _), List.take_of_length_le (by simp)]
theorem tup_turned {prog : Program} {w : World} {A : Around} {E : Value → Shared → Prop} {s : Shared} {t sl : Addr} {its : List Value} {tk : Tok} {Q : Value → Shared → Prop} (ht : IsTup s.heap t its.toArray) (hs : s.heap.IsSliceOf sl .none .none (.int (-1) tk)) (hz : its.length ≤ sizeLine)
    (h : Q (.ref s.heap.objs.size) { s with heap := s.heap.push { cls := .type "tuple", data := .seq its.reverse.toArray } }) : wpAny (model prog w) A (getItem (.ref t) (.ref sl)) Q E s := by
  have fits : sizeOk (.seq its.reverse.toArray) := by
    show its.reverse.toArray.size ≤ sizeLine
    rw [List.size_toArray, List.length_reverse]; exact hz
  obtain ⟨so, so1, so2, so3⟩ := id hs
  have tyS : s.TypeIs (.ref sl) "slice" := ⟨so, so1, so2⟩
  have bnd : Builtin.Slice.sliceAdjust none none (-1) (its.toArray.size : Int) = ((its.length : Int) - 1, -1) := by
    rw [List.size_toArray]; rfl
  have plc : Builtin.Slice.slicePlaces ((its.length : Int) - 1) (-1) (-1) = its.length := by
    unfold Builtin.Slice.slicePlaces
    have h0 : ¬ ((-1 : Int) > 0) := by decide
    simp only [h0, if_false]
    split
    · have e : ((its.length : Int) - 1 - -1 - 1) / (- -1) + 1 = (its.length : Int) := by
        rw [show (- -1 : Int) = 1 by decide, Int.ediv_one]; omega
      rw [e]; simp
    · have : its.length = 0 := by omega
      rw [this]; rfl
  unfold getItem
  try with_reducible refine wpAny_holding ?_
  first | refine wpAny_bind (wpAny_pure ?_) | skip
  refine wpAny_bind (wpAny_sequenceKey ht.typeIs (by decide) (wpAny_bind (wpAny_callSpecial?_slot (name := Str.ofString "__getitem__") ht.typeIs PyProof.Rows.slot_tuple_getitem (wpAny_call_entry PyProof.Rows.slot_tuple_getitem ht.typeIs entry_tuple_getitem ?_ (args_tuple_getitem _ _)))))
  show wpAny _ _ (Builtin.Tuple.tupleItemsOf (.ref t) >>= _) _ _ s
  refine wpAny_bind (tupleItemsOf_ ht (wpAny_bind (wpAny_typeOf tyS ?_)))
  rw [if_pos (by decide)]
  refine wpAny_bind ?_
  unfold Builtin.Slice.sliceApplied Builtin.Slice.sliceFields
  refine wpAny_bind (wpAny_bind (wpAny_field so1 so3 (x := .none) rfl (wpAny_bind (wpAny_field so1 so3 (x := .none) rfl (wpAny_bind (wpAny_field so1 so3 (x := .int (-1) tk) rfl (wpAny_pure (wpAny_bind (slicePart_int ?_)))))))))
  show wpAny _ _ (if ((-1 : Int) == 0) = true then _ else _) _ _ s
  rw [if_neg (by decide)]
  refine wpAny_bind (slicePart_none (wpAny_bind (slicePart_none (wpAny_bind (wpAny_pure ?_)))))
  show wpAny _ _ (match Builtin.Slice.sliceAdjust none none (-1) (its.toArray.size : Int) with | (lo, hi) => pure (lo, (-1 : Int), Builtin.Slice.slicePlaces lo hi (-1))) _ _ s
  rw [bnd]
  show wpAny _ _ (pure ((its.length : Int) - 1, (-1 : Int), Builtin.Slice.slicePlaces ((its.length : Int) - 1) (-1) (-1))) _ _ s
  rw [plc]
  refine wpAny_pure ?_
  have no : ¬ (((((its.length : Int) - 1)) == 0 && (-1 : Int) == 1 && its.length == its.toArray.size) = true) := by simp
  show wpAny _ _ (if ((((its.length : Int) - 1)) == 0 && (-1 : Int) == 1 && its.length == its.toArray.size) = true then _ else _) _ _ s
  rw [if_neg no, turned_pick]
  first
    | exact wpAny_bind (m := Builtin.Tuple.tupleExact _) (wpAny_newObj_type (wpAny_pure ⟨_, rfl, wpAny_pure h⟩) fits)
    | exact wpAny_bind (m := Builtin.Tuple.tupleExact _) (wpAny_newObj_type (wpAny_bind (wpAny_pure (wpAny_pure ⟨_, rfl, wpAny_pure h⟩))) fits)
    | exact wpAny_bind (wpAny_bind (m := Builtin.Tuple.tupleExact _) (wpAny_newObj_type (wpAny_pure (wpAny_pure ⟨_, rfl, wpAny_pure h⟩)) fits))
    | exact wpAny_bind (wpAny_bind (m := Builtin.Tuple.tupleExact _) (wpAny_newObj_type (wpAny_pure ⟨_, rfl, wpAny_pure h⟩) fits))
/-- a text, a tuple, a list turned round -/
def gTurn (x : D) (S : Store) : RE D := match x with
  | .str z => if z.length ≤ 16777216 then .ok (.str (revS z)) S else .no
  | .tup ds => .ok (.tup ds.reverse) S
  | x => (match seqL S x with
    | some ds => .ok (.lst ds.reverse) S
    | none => .no)
section
variable {K : PySem.W.Frag} {mg : Str → Option Value} {w : Wd} {H : Hp}
theorem RpL.rev : ∀ {ds : List D} {vs : List V}, RpL K mg w H ds vs → RpL K mg w H ds.reverse vs.reverse
  | [], vs, r => by unfold RpL at r; subst r; simp; exact RpL.nil
  | d :: ds, vs, r => by
    unfold RpL at r
    obtain ⟨v, t, rfl, r1, r2⟩ := r
    rw [List.reverse_cons, List.reverse_cons]
    exact RpL.append (RpL.rev r2) (RpL.one r1)
end
def rTurn (K : PySem.W.Frag) : V → Hp → VK → Prop := fun x H Q => (∃ z, x = .str z ∧ z.length ≤ 16777216 ∧ Q (.str (revS z)) H) ∨ (∃ a xs, x = .ref a ∧ SqT K H a xs ∧ ∀ p, H p = none → Q (.ref p) (upd H p (.tup xs.reverse))) ∨ (∃ a xs, x = .ref a ∧ SqL K H a xs ∧ ∀ p, H p = none → Q (.ref p) (upd H p (.lst xs.reverse)))
section
variable {X : Cx} {W : WX} {e : Expr} {fe : FE}
theorem q_turn [Wo] {k : Nat} {p1 p2 p3 pos : Pos} (he : PE X e (tF X W fe)) : PE X (.Subscript e (.Slice none none (some (.UnaryOp .USub (.Constant (.int 1) k p1) p2)) p3) pos) (tF X W (f1 gTurn fe)) := by
  refine ⟨fun pins s σ H Q I ⟨w, ρ, S, st, en, h⟩ => Subscript_ (thn (he.run pins s σ H (fun x H1 => rTurn X.K x H1 Q) I ⟨w, ρ, S, st, en, (End.bind (R := fun w H => Rp X.K X.mg w H) h).imp ?_ (fun _ _ _ z => z)⟩) ?_)⟩
  · rintro x H1 ⟨w1, S1, d, e1, s1, r1, h1⟩
    unfold gTurn at h1
    split at h1
    · rename_i z
      split at h1
      · rename_i hz; exact .inl ⟨z, rp_str r1, hz, h1.ret s1 rp_s⟩
      · exact h1.elim
    · obtain ⟨a, xs, rfl, t1, q1⟩ := tup_at r1
      refine .inr (.inl ⟨a, xs, rfl, t1, fun p np => ?_⟩)
      refine h1 w1 _ _ (Ext.new np) (s1.beside np) ?_
      show Rp _ _ _ _ _ _
      unfold Rp
      exact ⟨p, _, rfl, .inl ⟨upd_same, s1.new np⟩, RpL.ext (Ext.new np) _ _ (RpL.rev q1)⟩
    · split at h1
      · rename_i ds hds
        obtain ⟨a, xs, rfl, t1, q1⟩ := seqL_at s1 r1 hds
        exact .inr (.inr ⟨a, xs, rfl, t1, fun p np => newLst s1 (RpL.rev q1) np h1⟩)
      · exact h1.elim
  · rintro v s1 ⟨x, H1, I1, r1, hx⟩
    have hst : PO X (some (.UnaryOp .USub (.Constant (.int 1) k p1) p2)) (tPart (tUn (rU fun i => .int (-i)) (tC (.int 1)))) := po_some (pe_un un_neg pe_int)
    refine wpAny_Slice (thn (po_none.run pins s1 σ H1 (fun o H2 => o = none ∧ H2 = H1) I1 ⟨rfl, rfl⟩) fun vl s2 ⟨l, H2, I2, pl, el, e2⟩ => ?_)
    subst el e2
    refine thn (po_none.run pins s2 σ H2 (fun o H3 => o = none ∧ H3 = H2) I2 ⟨rfl, rfl⟩) fun vu s3 ⟨u, H3, I3, pu, eu, e3⟩ => ?_
    subst eu e3
    refine thn (hst.run pins s3 σ H3 (fun o H4 => o = some (-1) ∧ H4 = H3) I3 ⟨1, rfl, -1, rfl, rfl, rfl⟩) fun vs s4 ⟨o, H4, I4, ps, eo, e4⟩ => ?_
    subst eo e4
    have I5 : Inv X pins σ H4 { s4 with heap := s4.heap.push { cls := .type "slice", data := .fields #[vl, vu, vs] } } := I4.kept (t' := s4.toks) fun b ob q => Heap.get?_push_of_some _ q
    have pl0 := pl
    have pu0 := pu
    have ps0 := ps
    obtain ⟨l, rfl, hl⟩ := IsPart.raw pl
    obtain ⟨u, rfl, hu⟩ := IsPart.raw pu
    obtain ⟨t3, rfl, ht3⟩ := IsPart.raw ps
    obtain rfl : l = none := by cases l <;> simp_all
    obtain rfl : u = none := by cases u <;> simp_all
    obtain ⟨tk, rfl⟩ : ∃ tk, t3 = some (-1, tk) := by
      cases t3 with
      | none => simp at ht3
      | some p => exact ⟨p.2, by simp at ht3; rw [← ht3]⟩
    show wpAny (model X.prog X.w) X.A (subscriptTail e (.Slice none none (some (.UnaryOp .USub (.Constant (.int 1) k p1) p2)) p3) v (.ref s4.heap.objs.size)) (EP X pins σ Q) X.xe { s4 with heap := s4.heap.push { cls := .type "slice", data := .fields #[_, _, _] } }
    rcases hx with ⟨z, rfl, hz, q⟩ | ⟨a, xs, rfl, hq, q⟩ | ⟨a, xs, rfl, hq, q⟩
    · obtain ⟨t, rfl⟩ := r1
      refine tail_any (ops := [.str z t, .ref s4.heap.objs.size]) (typeIs_str _ _ _) (PySem.F.slot_str_getitem.lookup) ?_ (by with_unfolding_all rfl)
      refine wpAny_getItem_str_slice (l := none) (u := none) (st := some (-1, tk)) ⟨_, Heap.get?_push_size _ rfl, rfl, rfl⟩ rfl ?_
      have hl := revS_length z
      refine ⟨?_, .str _, H4, I5.tok _, ⟨_, rfl⟩, q⟩
      show (revS z).length ≤ sizeLine
      rw [sizeLine_eq]; omega
    · obtain rfl : v = Value.ref a := r1
      obtain ⟨its, r, ht, hz⟩ := I5.tuple hq
      refine tail_any (ops := [.ref a, .ref s4.heap.objs.size]) ht.typeIs (PyProof.Rows.slot_tuple_getitem.lookup) ?_ (by with_unfolding_all rfl)
      refine tup_turned ht (Heap.IsSliceOf.new _ _ _ _) (by rw [← r.length]; exact hz) ?_
      refine ⟨.ref _, _, I5.laid (t' := s4.toks) (o := .tup xs.reverse) (fun b ob q => Heap.get?_push_of_some _ q) (Nat.le_refl _) ?_, rfl, q _ (I5.hok.fresh (Nat.le_refl _))⟩
      exact ⟨by rw [List.length_reverse]; exact hz, _, r.reverse, IsTup.new _ _⟩
    · obtain rfl : v = Value.ref a := r1
      obtain ⟨its, r, ht, hz⟩ := I5.list hq
      have hlen := r.length
      refine tail_any (ops := [.ref a, .ref s4.heap.objs.size]) ht.isList.typeIs (PySem.slot_list_getitem.lookup) ?_ (by with_unfolding_all rfl)
      refine wpAny_getItem_list_slice ht.isList (Heap.IsSliceOf.new _ _ _ _) pl0 pu0 ps0 (by decide) ?_ (by rw [List.size_toArray]; omega)
      rw [PySem.W.krv_pick]
      refine ⟨.ref _, _, I5.laid (t' := s4.toks) (o := .lst xs.reverse) (fun b ob q => Heap.get?_push_of_some _ q) (Nat.le_refl _) ?_, rfl, q _ (I5.hok.fresh (Nat.le_refl _))⟩
      exact ⟨by rw [List.length_reverse]; exact hz, _, 0, r.reverse, Heap.get?_push_size _ rfl⟩
end
@[simp] theorem gTurn_tup {ds : List D} {S : Store} : gTurn (.tup ds) S = .ok (.tup ds.reverse) S := rfl
end Kw
namespace Kw
open PySem PySem.Spec PyProof.Rows L2
end Kw
namespace Kw
open PySem PySem.Spec PyProof.Rows L2
end Kw
namespace Kw
open PySem PySem.Spec PySem.Calls PyProof.Rows L2
theorem DpAll.length {K : PySem.W.Frag} {H : Hp} : ∀ {vs : List V} {ds : List PyData}, DpAll K H vs ds → vs.length = ds.length
  | _, _, .nil => rfl
  | _, _, .cons _ t => by simp [DpAll.length t]
section
variable {X : Cx}
theorem RpL.zip {K : PySem.W.Frag} {mg : Str → Option Value} {w : Wd} {H : Hp} : ∀ {ds : List D} {vs : List V}, RpL K mg w H ds vs → ∀ b ∈ ds.zip vs, Rp K mg w H b.1 b.2
  | [], vs, h, b, hb => by simp at hb
  | d :: ds, vs, h, b, hb => by
    unfold RpL at h
    obtain ⟨v, r, rfl, h1, h2⟩ := h
    rcases List.mem_cons.mp hb with rfl | hb
    · exact h1
    · exact RpL.zip h2 b hb
end
end Kw
namespace Kw
open PySem PySem.Spec PySem.Calls PyProof.Rows L2
/-- a code object, its table, the name that the table's code objects bear -/
abbrev Tb := Addr × Addr × Str
def tbP (cs : List Tb) : List Addr := cs.map fun p => p.2.1
section
variable {K : PySem.W.Frag} {mg : Str → Option Value} {cs : List Tb} {H : Hp} {a : Addr} {ns : List Int}
/-- what is known of the law at the top's heap -/
structure TopOk (K : PySem.W.Frag) (mg : Str → Option Value) (cs : List Tb) (h : Heap) : Prop where
  sysk : K.lookup sysModules = none
  at_ : ∀ p ∈ cs, h.get? p.2.1 = some { cls := .none, data := .fields #[] }
  look : ∀ p ∈ cs, K.lookup p.2.1 = none
  code : ∀ p ∈ cs, PySem.W.CodeHd h p.1 p.2.1
  nodup : (tbP cs).Nodup
  tin : ∀ p ∈ cs, PySem.W.tabIn K p.2.2 = some (p.1, p.2.1)
theorem TopOk.none {h : Heap} (hk : K.lookup sysModules = none) : TopOk K mg [] h := ⟨hk, fun _ z => (nomatch z), fun _ z => (nomatch z), fun _ z => (nomatch z), List.nodup_nil, fun _ z => (nomatch z)⟩
end
end Kw
namespace Kw
open PySem PySem.Spec PySem.Calls PyProof.Rows L2
end Kw
namespace Kw
open PySem PySem.Spec PySem.Calls PyProof.Rows L2
/-- a, b = a list -/
def gUl (n : Nat) (gs : FGs) : FG := fun d ρ S => match d with
  | .lst ds => if ds.length = n then gs ds ρ S else none
  | _ => none
@[simp] theorem gUl_ap {n : Nat} {gs : FGs} {ds : List D} {ρ : FEnv} {S : Store} : gUl n gs (.lst ds) ρ S = if ds.length = n then gs ds ρ S else none := rfl
end Kw
namespace Kw
open PySem PySem.Spec PySem.Calls PyProof.Rows L2
end Kw
namespace Kw
open PySem PySem.Spec PySem.Calls PyProof.Rows L2
end Kw
namespace Kw
open PySem PySem.Spec PySem.Calls PyProof.Rows L2
def getGR (kvs : List (Str × D)) (y : D) (S : Store) : RE D := match y with
  | .str z => (match kvs.lookup z with
    | some d => .ok d S
    | none => .ok .non S)
  | _ => .no
def getO (o : Option D) (S : Store) : RE D := match o with
  | some d => .ok d S
  | none => .ok .non S
@[simp] theorem getO_some {d : D} {S : Store} : getO (some d) S = .ok d S := rfl
@[simp] theorem getO_none {S : Store} : getO none S = .ok .non S := rfl
@[simp] theorem getGR_str {z : Str} {kvs : List (Str × D)} {S : Store} : getGR kvs (.str z) S = getO (kvs.lookup z) S := rfl
end Kw
namespace Kw
open PySem PySem.Spec PyProof.Rows L2
end Kw
namespace Kw
open PySem PySem.Spec PyProof.Rows L2
end Kw
namespace Kw
open PySem PySem.Spec PyProof.Rows L2
abbrev Cl2 := List Value × Option Nat × (Addr → Value → Option Addr → TS)
def wCls2 (K : PySem.W.Frag) (Wout : WX) (D : Ends) : List Cl2 → WX
  | [] => Wout
  | (cs, o, ts) :: r => fun cls d σ H => ∃ b, PySem.W.exmAny K cls cs = some b ∧ (b = true → ∀ a, H a = none → hit o (ts a cls d) D a σ H) ∧ (b = false → wCls2 K Wout D r cls d σ H)
inductive ClsOk2 [Wo] (X : Cx) : List ExceptHandler → List Cl2 → Prop
  | nil : ClsOk2 X [] []
  | plain {x : Str} {c : Value} {ts : Addr → Value → Option Addr → TS} {b₀ : Stmt} {su : List Stmt} {np q : Pos} {hds : List ExceptHandler} {l : List Cl2} (nm : Names X x c) (k : SuOk X (b₀ :: su) ts) (r : ClsOk2 X hds l) :
      ClsOk2 X (.ExceptHandler (some (.Name x np)) none (b₀ :: su) q :: hds) (([c], none, ts) :: l)
  | two {x y : Str} {c d : Value} {ts : Addr → Value → Option Addr → TS} {b₀ : Stmt} {su : List Stmt} {np np2 tp q : Pos} {kk : Nat} {hds : List ExceptHandler} {l : List Cl2} (nm : Names X x c) (nm2 : Names X y d) (k : SuOk X (b₀ :: su) ts) (r : ClsOk2 X hds l) :
      ClsOk2 X (.ExceptHandler (some (.Tuple [.Name x np, .Name y np2] kk tp)) none (b₀ :: su) q :: hds) (([c, d], none, ts) :: l)
inductive ClsF2 [Wo] (X : Cx) (es : List Str) : List ExceptHandler → List ClF → Prop
  | nil : ClsF2 X es [] []
  | plain {x : Str} {sub : Str → Bool} {c : Str → Addr → FS} {b₀ : Stmt} {su : List Stmt} {np q : Pos} {hds : List ExceptHandler} {l : List ClF} (h : CatF X.K X.mg es x sub) (hg : Gl X x) (k : SuF X es (b₀ :: su) c) (r : ClsF2 X es hds l) (hd : (x == ("__debug__" : Str)) = false := by decide) :
      ClsF2 X es (.ExceptHandler (some (.Name x np)) none (b₀ :: su) q :: hds) ((sub, none, c) :: l)
  | two {x y : Str} {sub sub2 : Str → Bool} {c : Str → Addr → FS} {b₀ : Stmt} {su : List Stmt} {np np2 tp q : Pos} {kk : Nat} {hds : List ExceptHandler} {l : List ClF} (h : CatF X.K X.mg es x sub) (h2 : CatF X.K X.mg es y sub2) (hg : Gl X x) (hg2 : Gl X y) (k : SuF X es (b₀ :: su) c) (r : ClsF2 X es hds l) (hd : (x == ("__debug__" : Str)) = false := by decide) (hd2 : (y == ("__debug__" : Str)) = false := by decide) :
      ClsF2 X es (.ExceptHandler (some (.Tuple [.Name x np, .Name y np2] kk tp)) none (b₀ :: su) q :: hds) ((fun z => sub z || sub2 z, none, c) :: l)
section
variable {X : Cx} {W : WX} {es : List Str}
theorem exmAny_one {K : PySem.W.Frag} {cls c : Value} {b : Bool} (h : PySem.W.exmOne K cls c = some b) : PySem.W.exmAny K cls [c] = some b := by
  simp [PySem.W.exmAny, h]
theorem exmAny_two {K : PySem.W.Frag} {cls c d : Value} {b b2 : Bool} (h : PySem.W.exmOne K cls c = some b) (h2 : PySem.W.exmOne K cls d = some b2) : PySem.W.exmAny K cls [c, d] = some (b || b2) := by
  simp [PySem.W.exmAny, h, h2]
theorem ClsF2.go [Wo] {hds : List ExceptHandler} {cs : List ClF} (h : ClsF2 X es hds cs) (hk : ∀ y ∈ es, ExcK X.K X.mg y) : ∃ l, ClsOk2 X hds l ∧ ∀ (D : Ends) (w : Wd) (x : Ex) (ρ : FEnv) (S : Store) (σ : L2.St) (H : Hp) (cy : Value) (od : Option Addr), x.cls ∈ es → x.ns = [] → Sto X.K X.mg w S H → EnvR X.K X.mg w H ρ σ → ExR X.K X.mg w H x cy od →
    EndS X.K X.mg w H (clsR x ρ S cs) D W → wCls2 X.K W D l cy od σ H := by
  have ex0 : ∀ {w : Wd} {H : Hp} {x : Ex} {cy : Value} {od : Option Addr}, x.cls ∈ es → x.ns = [] → ExR X.K X.mg w H x cy od → ∃ C, X.mg x.cls = some (.ref C) ∧ cy = .ref C ∧ od = none := by
    intro w H x cy od hx hn ex
    obtain ⟨gy, hr⟩ := ex
    obtain ⟨C, gC, _⟩ := hk _ hx
    cases gC.symm.trans gy
    refine ⟨C, gC, rfl, ?_⟩
    rcases hr with ⟨_, _, z⟩ | ⟨d, vs, z, _⟩
    · exact z
    · exact absurd hn z
  have yes : ∀ {sub : Str → Bool} {c : Str → Addr → FS} {l : List ClF} {D : Ends} {w : Wd} {x : Ex} {ρ : FEnv} {S : Store} {σ : L2.St} {H : Hp} {C : Addr}, x.cls ∈ es → X.mg x.cls = some (.ref C) → Sto X.K X.mg w S H → EnvR X.K X.mg w H ρ σ → EndS X.K X.mg w H (clsR x ρ S ((sub, none, c) :: l)) D W → sub x.cls = true → ∀ a, H a = none → hit none (tsOf X es c a (.ref C) none) D a σ H := by
    intro sub c l D w x ρ S σ H C hx gC s en h hs a na
    have h2 : EndS X.K X.mg w H (aInd (clRun none (c x.cls) ρ S)) D W := by
      have h' := h
      unfold clsR at h'
      rw [if_pos hs] at h'
      exact h'
    by_cases hno : aInd (clRun none (c x.cls) ρ S) = .no
    · rw [hno] at h2; exact h2.elim
    · rw [← aInd_at a rfl hno] at h2
      exact ⟨x.cls, C, hx, gC, rfl, rfl, w, ρ, S, s, en, h2.nox⟩
  have noo : ∀ {sub : Str → Bool} {c : Str → Addr → FS} {l : List ClF} {D : Ends} {w : Wd} {x : Ex} {ρ : FEnv} {S : Store} {H : Hp}, EndS X.K X.mg w H (clsR x ρ S ((sub, none, c) :: l)) D W → sub x.cls = false → EndS X.K X.mg w H (clsR x ρ S l) D W := by
    intro sub c l D w x ρ S H h hs
    have h' := h
    unfold clsR at h'
    rw [if_neg (by rw [hs]; decide)] at h'
    exact h'
  induction h with
  | nil =>
    refine ⟨[], .nil, fun D w x ρ S σ H cy od hx hn s en ex h => ?_⟩
    exact h w H σ cy od Ext.refl s en ex
  | @plain x sub c b₀ su np q hds l hc hg k r hd ih =>
    obtain ⟨cv, nm, hx1⟩ := hc.names hg hd
    obtain ⟨l', ok', go'⟩ := ih
    refine ⟨([cv], none, tsOf X es c) :: l', .plain nm k.su ok', fun D w x ρ S σ H cy od hx hn s en ex h => ?_⟩
    obtain ⟨C, gC, rfl, rfl⟩ := ex0 hx hn ex
    exact ⟨sub x.cls, exmAny_one (hx1 _ hx _ gC), fun hs a na => yes hx gC s en h hs a na, fun hs => go' D w x ρ S σ H _ _ hx hn s en ex (noo h hs)⟩
  | @two x y sub sub2 c b₀ su np np2 tp q kk hds l hc hc2 hg hg2 k r hd hd2 ih =>
    obtain ⟨cv, nm, hx1⟩ := hc.names hg hd
    obtain ⟨cv2, nm2, hx2⟩ := hc2.names hg2 hd2
    obtain ⟨l', ok', go'⟩ := ih
    refine ⟨([cv, cv2], none, tsOf X es c) :: l', .two nm nm2 k.su ok', fun D w x ρ S σ H cy od hx hn s en ex h => ?_⟩
    obtain ⟨C, gC, rfl, rfl⟩ := ex0 hx hn ex
    exact ⟨sub x.cls || sub2 x.cls, exmAny_two (hx1 _ hx _ gC) (hx2 _ hx _ gC), fun hs a na => yes hx gC s en h hs a na, fun hs => go' D w x ρ S σ H _ _ hx hn s en ex (noo h hs)⟩
end
end Kw
namespace Kw
open PySem PySem.Spec PyProof.Rows L2
/-- classes that are asked for, by their names -/
inductive IsL (X : Cx) (ys : List Str) : List Expr → (Str → Bool) → Prop
  | nil : IsL X ys [] fun _ => false
  | cons {x : Str} {p : Pos} {es : List Expr} {sub sub2 : Str → Bool} (hg : Gl X x) (h : ∀ y ∈ ys, IsxO X.K X.mg y x (sub y)) (t : IsL X ys es sub2) (hd : (x == ("__debug__" : Str)) = false := by decide)
      (hs : starEach (.Name x p :: es) X.env = (false, eval (.Name x p) X.env) :: starEach es X.env := by rfl) : IsL X ys (.Name x p :: es) fun y => sub y || sub2 y
theorem IsL.get {X : Cx} {ys : List Str} {es : List Expr} {sub : Str → Bool} (h : IsL X ys es sub) (hne : ys ≠ []) : ∃ Bs : List Addr, es.length = Bs.length ∧ PA X es (fun _ H Q => Q (Bs.map V.ref) H) ∧ Paired ClsV (Bs.map V.ref) (Bs.map Value.ref) ∧ ∀ y ∈ ys, ∀ C, X.mg y = some (.ref C) → PySem.W.kitAny X.K (.ref C) (Bs.map Value.ref) = some (sub y) := by
  induction h with
  | nil => exact ⟨[], rfl, pa_nil, .nil, fun _ _ _ _ => rfl⟩
  | @cons x p es sub sub2 hg h t hd hs ih =>
    obtain ⟨Bs, l, pa, pr, k⟩ := ih
    obtain ⟨y0, hy0⟩ := List.exists_mem_of_ne_nil ys hne
    obtain ⟨C0, B, _, mB, _⟩ := h y0 hy0
    have n1 : PE X (.Name x p) (tC (.ref B)) := pe_glob hg mB rfl hd
    refine ⟨B :: Bs, by simp [l], pa_cons n1 pa hs, .cons (.own B) pr, fun y hy C hC => ?_⟩
    obtain ⟨C1, B1, m1, m2, e⟩ := h y hy
    cases hC.symm.trans m1
    cases mB.symm.trans m2
    have := k y hy C hC
    show PySem.W.kitAny X.K (.ref C) (.ref B :: Bs.map Value.ref) = _
    unfold PySem.W.kitAny
    rw [e]
    cases hs2 : sub y with
    | true => simp [hs2]
    | false => simpa [hs2] using this
end Kw
namespace Kw
open PySem PySem.Spec PyProof.Rows L2
end Kw
namespace PySem
end PySem
namespace PySem.W
open PySem PySem.Spec PySem.Calls PyProof.Rows
end PySem.W
namespace Kw
open PySem PySem.Spec PySem.Calls PyProof.Rows L2
end Kw
namespace L2
open PySem PySem.Spec PyProof.Rows
end L2
namespace Kw
open PySem PySem.Spec PySem.Calls PyProof.Rows L2
end Kw
namespace Kw
open PySem PySem.Spec PySem.Calls PyProof.Rows L2
section
variable {K : PySem.W.Frag} {mg : Str → Option Value} {P : Program} {w0 : World} {w : Wd} {H : Hp} {h : Heap}
mutual
/-- a tree that is a key lies there as one -/
theorem key_at (ok : HOk P w0 H h) (kin : K.In h) : ∀ (d : D) (k : NestedKey) (v : V) (u : Value), keyOf d = some k → Rp K mg w H d v → RelV v u → NestedIs h k u
  | .non, k, v, u, e, r, q => by
    simp only [keyOf, Option.some.injEq] at e; unfold Rp at r; subst e r
    obtain rfl : u = Value.none := q
    exact .none
  | .bl _, _, _, _, e, _, _ => by simp [keyOf] at e
  | .int i, k, v, u, e, r, q => by
    simp only [keyOf, Option.some.injEq] at e; unfold Rp at r; subst e r
    obtain ⟨t, rfl⟩ : ∃ t, u = Value.int i t := q
    exact .int _ _
  | .str x, k, v, u, e, r, q => by
    simp only [keyOf, Option.some.injEq] at e; unfold Rp at r; subst e r
    obtain ⟨t, rfl⟩ : ∃ t, u = Value.str x t := q
    exact .text _ _
  | .tup ds, k, v, u, e, r, q => by
    simp only [keyOf, Option.map_eq_some_iff] at e
    obtain ⟨ks, e1, rfl⟩ := e
    unfold Rp at r
    obtain ⟨a, xs, rfl, t, rl⟩ := r
    obtain rfl : u = Value.ref a := q
    rcases t with ⟨t, _⟩ | ⟨o, its, n, lk, hc, hd, _, vs⟩
    · obtain ⟨_, its, vs, o, g1, g2, n, g3⟩ := ok a _ t
      exact .tup g1 g2 g3 (by simpa using keys_at ok kin ds ks xs its e1 rl vs)
    · exact .tup (kin a o lk) hc hd (keys_at ok kin ds ks xs its.toList e1 rl vs)
  | .lst _, _, _, _, e, _, _ => by simp [keyOf] at e
  | .dic _ _, _, _, _, e, _, _ => by simp [keyOf] at e
  | .ins _ _ _, _, _, _, e, _, _ => by simp [keyOf] at e
  | .loc _, _, _, _, e, _, _ => by simp [keyOf] at e
  | .glo _, _, _, _, e, _, _ => by simp [keyOf] at e
  | .fls _, _, _, _, e, _, _ => by simp [keyOf] at e
  | .exn _, _, _, _, e, _, _ => by simp [keyOf] at e
  | .exo _ _ _, _, _, _, e, _, _ => by simp [keyOf] at e
  | .lam _ _ _, _, _, _, e, _, _ => by simp [keyOf] at e
theorem keys_at (ok : HOk P w0 H h) (kin : K.In h) : ∀ (ds : List D) (ks : List NestedKey) (vs : List V) (us : List Value), keysOf ds = some ks → RpL K mg w H ds vs → Vals vs us → NestedAll h ks us
  | [], ks, vs, us, e, r, q => by
    simp only [keysOf, Option.some.injEq] at e; unfold RpL at r; subst e r
    cases q; exact .nil
  | d :: ds, ks, vs, us, e, r, q => by
    simp only [keysOf] at e
    split at e
    · rename_i k rk h1 h2
      cases e
      unfold RpL at r
      obtain ⟨v, r', rfl, r1, r2⟩ := r
      cases q with
      | cons q1 q2 => exact .cons (key_at ok kin d k v _ h1 r1 q1) (keys_at ok kin ds rk r' _ h2 r2 q2)
    · cases e
end
end
def isTupK : NestedKey → Bool | .tup _ => true | _ => false
def isNumK : NestedKey → Bool | .num _ => true | _ => false
def numK : NestedKey → Int | .num i => i | _ => 0
def vad : Value → Addr | .ref a => a | _ => 0
theorem tupK_ref {h : Heap} {k : NestedKey} {u : Value} (n : NestedIs h k u) (e : isTupK k = true) : u = .ref (vad u) := by
  cases n <;> first | rfl | cases e
/-- x is the key k, wherever the abstract heap lies -/
def KyH (P : Program) (w0 : World) (K : PySem.W.Frag) (H : Hp) (k : NestedKey) (x : V) : Prop := ∀ h, HOk P w0 H h → K.In h → ∀ u, RelV x u → NestedIs h k u
structure DcH (X : Cx) (H : Hp) (a : Addr) (es : DEnt) : Prop where
  at_ : H a = some (DctO X.w a es)
  ky : ∀ e ∈ es, KyH X.prog X.w X.K H e.1 e.2.1
  dp : ∀ e ∈ es, e.1.depth ≤ 8
  nk : ∀ e ∈ es, isNumK e.1 = true → e.2.1 = .int (numK e.1)
  nd : (es.map (·.1)).Nodup
section
variable {X : Cx} {pins : List (Addr × Obj)} {σ : L2.St} {H : Hp} {s : Shared} {a : Addr} {es : DEnt} {k : NestedKey} {x : V} {u : Value} {A : Around} {E : Value → Shared → Prop}
theorem DcH.typeIs (I : Inv X pins σ H s) (D : DcH X H a es) : s.TypeIs (.ref a) "dict" := by
  obtain ⟨⟨_, _, _, o, _, _, g, x, _⟩, _⟩ := (show ObjOk X.prog X.w H s.heap a (DctO X.w a es) from I.hok a _ D.at_)
  exact ⟨o, g, x.1⟩
theorem DcH.ne (I : Inv X pins σ H s) (D : DcH X H a es) : (a == sysModules) = false := by
  obtain ⟨⟨n, _⟩, _⟩ := (show ObjOk X.prog X.w H s.heap a (DctO X.w a es) from I.hok a _ D.at_)
  exact n
end
end Kw
namespace Kw
open PySem PySem.Spec PySem.Calls PyProof.Rows L2
section
variable {X : Cx} {w : Wd} {S : Store} {H : Hp} {n : Nat} {a : Addr} {es : DEnt} {ks : List NestedKey} {ds : List D}
theorem ky_of {d : D} {k : NestedKey} {x : V} (hk : keyOf d = some k) (r : Rp X.K X.mg w H d x) : KyH X.prog X.w X.K H k x := fun h ok kin u q => key_at ok kin d k x u hk r q
end
end Kw
namespace Kw
open PySem PySem.Spec PySem.Calls PyProof.Rows L2
section
variable {K : PySem.W.Frag} {mg : Str → Option Value} {w : Wd} {H : Hp} {S : Store}
/-- what was hidden becomes a cell -/
theorem Sto.bare [Wo] {C : Addr} {h0 : List Addr} {c : Cell} (s : Sto K mg w S H) (e : w.hd = C :: h0) (hnh : C ∉ h0) (hne : C ≠ sysModules) :
    Mv w H ⟨w.φ ++ [some C], h0⟩ H ∧ (CellR K mg ⟨w.φ ++ [some C], h0⟩ H c w.φ.length → Sto K mg ⟨w.φ ++ [some C], h0⟩ (S ++ [c]) H) := by
  have hCin : C ∈ w.hd := by rw [e]; exact List.mem_cons_self
  have hout : some C ∉ w.φ := (s.ap C hCin).2
  have ph : ∀ (n : Nat) a, (w.φ ++ [some C])[n]? = some (some a) → (w.φ[n]? = some (some a) ∧ n < w.φ.length) ∨ (n = w.φ.length ∧ a = C) := fun n a hk => by
    by_cases hl : n < w.φ.length
    · rw [List.getElem?_append_left hl] at hk; exact .inl ⟨hk, hl⟩
    · have hl' : w.φ.length ≤ n := Nat.le_of_not_lt hl
      rw [List.getElem?_append_right hl'] at hk
      have : n - w.φ.length = 0 := by
        cases e : n - w.φ.length with
        | zero => rfl
        | succ j => rw [e] at hk; simp at hk
      rw [this] at hk; simp at hk
      exact .inr ⟨by omega, hk.symm⟩
  have m : Mv w H ⟨w.φ ++ [some C], h0⟩ H := ⟨fun a o h n => by
    have hn : a ≠ C := fun z => by subst z; exact n.2 hCin
    refine ⟨h, fun z => ?_, fun z => n.2 (by rw [e]; exact List.mem_cons_of_mem _ z)⟩
    rcases List.mem_append.mp (show some a ∈ w.φ ++ [some C] from z) with z | z
    · exact n.1 z
    · simp at z; exact hn z, by show _ ≤ (w.φ ++ [some C]).length; rw [List.length_append]; omega, fun n a h l => by
    rcases ph n a h with z | z
    · exact z.1
    · omega⟩
  refine ⟨m, fun hcell => ⟨by show (w.φ ++ [some C]).length = _; rw [List.length_append, List.length_append, s.len]; rfl, fun i j a q1 q2 => ?_, fun a ha => ?_, fun n cc hc => ?_⟩⟩
  · rcases ph i a q1 with ⟨z1, z2⟩ | ⟨z1, z2⟩ <;> rcases ph j a q2 with ⟨y1, y2⟩ | ⟨y1, y2⟩
    · exact s.nd i j a z1 y1
    · subst y2; exact absurd (List.mem_of_getElem? z1) hout
    · subst z2; exact absurd (List.mem_of_getElem? y1) hout
    · omega
  · have ha' : a ∈ w.hd := by rw [e]; exact List.mem_cons_of_mem _ ha
    refine ⟨(s.ap a ha').1, fun z => ?_⟩
    rcases List.mem_append.mp (show some a ∈ w.φ ++ [some C] from z) with z | z
    · exact (s.ap a ha').2 z
    · simp at z; subst z; exact hnh ha
  · by_cases hl : n < S.length
    · rw [List.getElem?_append_left hl] at hc
      have c0 := s.cell n cc hc
      have gl : (w.φ ++ [some C])[n]? = w.φ[n]? := List.getElem?_append_left (s.len ▸ hl)
      unfold CellR at c0 ⊢
      split at c0
      · obtain ⟨b, ys, h2, h3, h4⟩ := c0; exact ⟨b, ys, gl.trans h2, h3, RpL.mv m _ _ h4⟩
      · obtain ⟨b, ys, o', h2, h3, h4⟩ := c0; exact ⟨b, ys, o', gl.trans h2, h3, RpL.mv m _ _ h4⟩
      · exact gl.trans c0
      · obtain ⟨c1, P, ht, t1, t2⟩ := c0; exact ⟨c1, P, ht, gl.trans t1, TabW.mv m rfl t2⟩
      · obtain ⟨y1, y2, y3, ⟨φ, y4, y6⟩, y5⟩ := c0
        refine ⟨gl.trans y1, ?_, fun z => ?_, ⟨φ, y4, y6⟩, y5⟩
        · rw [e] at y2
          rcases List.mem_cons.mp y2 with z | z
          · exact absurd z.symm hne
          · exact z
        · rcases List.mem_append.mp (show some sysModules ∈ w.φ ++ [some C] from z) with z | z
          · exact y3 z
          · simp at z; exact hne z.symm
      · exact ⟨gl.trans c0.1, EnvR.mv m c0.2⟩
      · obtain ⟨b, C1, dx, vs', h2, h3, h4, h5, h6⟩ := c0; exact ⟨b, C1, dx, vs', gl.trans h2, h3, h4, h5, RpL.mv m _ _ h6⟩
      · obtain ⟨b, es, h2, h3, h4, h5, h6, h7⟩ := c0; exact ⟨b, es, gl.trans h2, h3, h4, h5, dct_mv m h6, RpL.mv m _ _ h7⟩
    · have hl' : S.length ≤ n := Nat.le_of_not_lt hl
      rw [List.getElem?_append_right hl'] at hc
      have e0 : n - S.length = 0 := by
        cases e : n - S.length with
        | zero => rfl
        | succ j => rw [e] at hc; simp at hc
      rw [e0] at hc; simp at hc; subst hc
      have en' : n = w.φ.length := by rw [s.len]; omega
      subst en'
      exact hcell
end
end Kw
namespace Kw
open PySem PySem.Spec PySem.Calls PyProof.Rows L2
end Kw
namespace Kw
open PySem PySem.Spec PySem.Calls PyProof.Rows L2
end Kw
namespace Kw
open PySem PySem.Spec PySem.Calls PyProof PyProof.Rows L2
section
variable {X : Cx}
def gAddF (x y : D) (S : Store) : RE D := match x, y with
  | .lst xs, .fls ys => mkLst (xs ++ ys) S
  | _, _ => .no
end
@[simp] theorem gAddF_ap {xs ys : List D} {S : Store} : gAddF (.lst xs) (.fls ys) S = mkLst (xs ++ ys) S := rfl
end Kw
namespace Kw
open PySem PySem.Spec PySem.Calls PyProof.Rows L2
end Kw
namespace Kw
open PySem PySem.Spec PyProof.Rows L2
/-- each k-th item from i on -/
def pickS {α : Type} (l : List α) (i k : Nat) : List α := (List.range l.length).filterMap fun m => l[i + m * k]?
section
variable {X : Cx} {W : WX} {e sx : Expr} {lo : Option Expr} {te : TE} {tl th : TO} {pos p2 : Pos} {fa : FE} {fl fk : FO}
def gStep (x : D) (lo st : Option Int) (S : Store) : RE D := match x, lo, st with
  | .tup ds, some i, some k => if 0 ≤ i ∧ 2 ≤ k then .ok (.tup (pickS ds i.toNat k.toNat)) S else .no
  | _, _, _ => .no
def fStep (a : FE) (l k : FO) : FE := fun ρ S => (a ρ S).bnd fun x S1 => (l ρ S1).bnd fun lo S2 => (k ρ S2).bnd fun st S3 => gStep x lo st S3
end
@[simp] theorem fStep_ap {a : FE} {l k : FO} {ρ : FEnv} {S : Store} : fStep a l k ρ S = (a ρ S).bnd fun x S1 => (l ρ S1).bnd fun lo S2 => (k ρ S2).bnd fun st S3 => gStep x lo st S3 := rfl
end Kw
namespace Kw
open PySem PySem.Spec PyProof.Rows L2
/-- zip of two tuples -/
def fiZT (f : FA) : FI := fun ρ S => (f ρ S).bnd fun ds S1 => match ds with
  | [.tup xs, .tup ys] => .ok (zipD xs ys, none) S1
  | _ => .no
@[simp] theorem fiZT_ap {f : FA} {ρ : FEnv} {S : Store} : fiZT f ρ S = (f ρ S).bnd fun ds S1 => match ds with
  | [.tup xs, .tup ys] => .ok (zipD xs ys, none) S1
  | _ => .no := rfl
end Kw
namespace Kw
open PySem PySem.Spec PySem.Calls PyProof.Rows L2
end Kw
namespace Kw
open PySem PySem.Spec PySem.Calls PyProof.Rows L2
section
variable {prog : Program} {w : World} {A : Around} {E : Value → Shared → Prop} {s : Shared}
theorem mayTell_mix {a : Addr} {k : NestedKey} {stored : List Value} {Q : Bool → Shared → Prop} (hk : NestedIs s.heap k (.ref a)) (dk : k.depth ≤ 8) (hst : ∀ v ∈ stored, ∃ x t, v = .str x t) (h : Q false s) : wpAny (model prog w) A (tableMayTell (.ref a) stored) Q E s := by
  unfold tableMayTell
  split
  · exact wpAny_pure h
  · refine wpAny_bind (quiet_key k _ 8 s hk dk A E _ ?_)
    simp only [Bool.not_true, Bool.false_eq_true, if_false]
    refine wpAny_bind ?_
    refine wpAny_forIn_list _ (fun rest r s' => s' = s ∧ r = (none, ()) ∧ ∀ v ∈ rest, ∃ x t, v = .str x t) _ ?_ ?_ _ _ ⟨rfl, rfl, hst⟩
    · rintro x rest r s' ⟨rfl, rfl, hr⟩
      obtain ⟨z, t, rfl⟩ := hr x List.mem_cons_self
      refine wpAny_bind (QuietAt.byValue (n := 8) (s := s') (v := .str z t) rfl A E _ ?_)
      simp only [Bool.not_true, Bool.false_eq_true, if_false]
      exact wpAny_pure ⟨rfl, rfl, fun v hv => hr v (List.mem_cons_of_mem _ hv)⟩
    · rintro r s' ⟨rfl, rfl, _⟩
      exact wpAny_pure h
theorem dictFind_mix {d a : Addr} {o : Obj} {es : Array DictEntry} {ep : Nat} {k : NestedKey} {Q : Option Nat → Shared → Prop} (hu : A.units + 8 < cLine) (hk : NestedIs s.heap k (.ref a)) (dk : k.depth ≤ 8) (ht : isTupK k = true)
    (ho : s.heap.get? d = some o) (hd : o.data = .dict es ep) (he : ∀ e ∈ es, ∃ x t, e.key = .str x t) (h : Q none s) : wpAny (model prog w) A (dictFind d (.ref a) (k.hash w)) Q E s := by
  have hany : ¬ (es.any fun e => e.key == Value.ref a && e.hash != k.hash w) = true := by
    rw [← Array.any_toList, List.any_eq_true]
    rintro ⟨e, hin, hc⟩
    obtain ⟨x, t, hx⟩ := he e (Array.mem_toList_iff.mp hin)
    rw [hx] at hc
    simp only [Bool.and_eq_true] at hc
    have := hc.1
    revert this
    simp
  have hst : ∀ v ∈ (placesWithHash es.size (fun i => es[i]?.map (·.hash)) (k.hash w)).filterMap (fun i => es[i]?.map (·.key)), ∃ x t, v = .str x t := by
    intro v hv
    obtain ⟨i, _, hi⟩ := List.mem_filterMap.mp hv
    cases hei : es[i]? with
    | none => rw [hei] at hi; cases hi
    | some e =>
      rw [hei] at hi
      obtain rfl : e.key = v := by simpa using hi
      exact he e (Array.mem_of_getElem? hei)
  unfold dictFind
  try with_reducible refine wpAny_holding ?_
  refine wpAny_bind (wpAny_dictEntries ho hd ?_)
  dsimp only
  rw [if_neg (show ¬ ((Value.ref a :: (placesWithHash es.size (fun i => es[i]?.map (·.hash)) (k.hash w)).filterMap (fun i => es[i]?.map (·.key))).all carriedByValue) = true by simp [carriedByValue])]
  rw [if_neg hany]
  by_cases hone : (((placesWithHash es.size (fun i => es[i]?.map (·.hash)) (k.hash w)).filterMap (fun i => es[i]?.map (·.key))) == [Value.ref a]) = true <;>
  (first | rw [if_pos hone] | rw [if_neg hone]) <;> (first | refine wpAny_bind (wpAny_pure ?_) | refine wpAny_bind (mayTell_mix hk dk hst ?_)) <;> (
    rw [if_neg (by simp)]
    refine wpAny_bind ?_
    refine wpAny_forIn_list _ (fun rest b s' => s' = s ∧ b = (none, none)) _ ?_ ?_ _ _ ⟨rfl, rfl⟩
    · rintro x rest b s' ⟨rfl, rfl⟩
      cases hex : es[x]? with
      | none =>
        dsimp only
        exact wpAny_pure ⟨rfl, rfl⟩
      | some e =>
        obtain ⟨z, t, hz⟩ := he e (Array.mem_of_getElem? hex)
        dsimp only
        by_cases hh : (e.hash == k.hash w) = true
        · rw [if_pos hh]
          have hq : NestedKey.beq (.text z) k = false := by
            revert ht
            cases k <;> simp [isTupK, NestedKey.beq]
          have eq := eqAt_key (.text z) k A s' _ _ (NestedIs.text z t) hk (by simp only [NestedKey.depth]; omega)
          rw [hq] at eq
          refine wpAny_bind (wpAny_dictEpoch ho hd (wpAny_bind ?_))
          rw [hz]
          refine eq prog w E _ (wpAny_bind (wpAny_dictEpoch ho hd ?_))
          show wpAny _ _ (if (ep != ep) = true then _ else _) _ E _
          rw [if_neg (by simp)]
          simp only [Bool.false_eq_true, if_false]
          refine wpAny_bind (wpAny_rule ?_)
          first
            | exact wpAny_pure ⟨rfl, rfl⟩
            | exact wpAny_bind (wpAny_pure (wpAny_pure ⟨rfl, rfl⟩))
        · rw [if_neg hh]
          exact wpAny_pure ⟨rfl, rfl⟩
    · rintro b s' ⟨rfl, rfl⟩
      exact wpAny_pure h)
theorem dictGet_mix {d a : Addr} {o : Obj} {es : Array DictEntry} {ep : Nat} {k : NestedKey} {Q : Option Value → Shared → Prop} (hu : A.units + 8 < cLine) (hk : NestedIs s.heap k (.ref a)) (dk : k.depth ≤ 8) (ht : isTupK k = true)
    (ho : s.heap.get? d = some o) (hd : o.data = .dict es ep) (he : ∀ e ∈ es, ∃ x t, e.key = .str x t) (h : Q none { s with toks := s.toks + k.draws }) : wpAny (model prog w) A (dictGet d (.ref a)) Q E s := by
  unfold dictGet
  try with_reducible refine wpAny_holding ?_
  refine wpAny_bind (pyHash_key k _ A s _ hk (by omega) (wpAny_bind (dictFind_mix (s := { s with toks := s.toks + k.draws }) hu hk dk ht ho hd he ?_)))
  exact wpAny_pure h
theorem in_mix {d a : Addr} {o : Obj} {es : Array DictEntry} {ep : Nat} {k : NestedKey} {Q : Value → Shared → Prop} (hu : A.units + 200 < cLine) (hk : NestedIs s.heap k (.ref a)) (dk : k.depth ≤ 8) (ht : isTupK k = true) (hs : (d == sysModules) = false) (hT : s.TypeIs (.ref d) "dict")
    (ho : s.heap.get? d = some o) (hd : o.data = .dict es ep) (he : ∀ e ∈ es, ∃ x t, e.key = .str x t) (neg : Bool) (h : Q (.bool neg) { s with toks := s.toks + k.draws }) : wpAny (model prog w) A (compareOp (if neg then .NotIn else .In) (.ref a) (.ref d)) Q E s := by
  have key : ∀ {Q' : Bool → Shared → Prop}, Q' false { s with toks := s.toks + k.draws } → wpAny (model prog w) A (contains (.ref d) (.ref a)) Q' E s := fun {Q'} h => by
    refine wpAny_contains_slot hT F.slot_dict_contains ?_
    refine call_meetsIn F.slot_dict_contains hT F.entry_dict_contains (F.args_dict_contains_2 _ _) (S := fun A' R s' => A' = A ∧ s' = s ∧ R (.ok (.ret (.bool false))) { s with toks := s.toks + k.draws }) (fun A' R s' hS => ?_) ⟨rfl, rfl, wpAny_truthy_bool h⟩
    obtain ⟨rfl, rfl, hq⟩ := hS
    show wpAny _ _ (dictGet d (.ref a) >>= _) _ _ _
    refine wpAny_bind (dictGet_mix (by rw [Around.in1_units]; omega) hk dk ht ho hd he ?_)
    show wpAny _ _ (Builtin.Dict.pendingKey? d (.ref a) >>= _) _ _ _
    exact wpAny_bind (wpAny_pendingKey_other hs (wpAny_pure hq))
  cases neg with
  | false =>
    show wpAny _ _ (do return .bool (← contains (.ref d) (.ref a))) Q E s
    exact wpAny_bind (key (wpAny_pure h))
  | true =>
    show wpAny _ _ (do return .bool (!(← contains (.ref d) (.ref a)))) Q E s
    exact wpAny_bind (key (wpAny_pure h))
end
/-- x in d, d a module's dict under texts; x may be a tuple -/
def gInMx (neg : Bool) (n : Str) (kvs : List (Str × D)) (x y : D) (S : Store) : RE D := match x, y with
  | .str z, .glo m => if m = n then .ok (.bl (xor neg (kvs.lookup z).isSome)) S else .no
  | .tup ds, .glo m => if m = n then (match keyOf (.tup ds) with
    | some k => if k.depth ≤ 8 then .ok (.bl neg) S else .no
    | none => .no) else .no
  | _, _ => .no
section
variable {X : Cx} {W : WX} {a b e : Expr} {fa fb : FE} {pos : Pos} {x : Str} {kvs : List (Str × D)}
/-- a tuple in d -/
def rInT (X : Cx) (a : Addr) (neg : Bool) : R2 := fun x' y H Q => ∃ k, y = .ref a ∧ KyH X.prog X.w X.K H k x' ∧ isTupK k = true ∧ k.depth ≤ 8 ∧ Q (.bl neg) H
theorem op_inT {neg : Bool} {a : Addr} {es : Array DictEntry} {n : Nat} (D : KDict X.K X.w a es n) (hu : X.A.units + 200 < cLine) : OpR X (compareOp (if neg then .NotIn else .In)) (rInT X a neg) := by
  intro pins s σ H x y v u Q I rx ry h
  obtain ⟨k, rfl, ky, hk, dk, q⟩ := h
  obtain rfl : u = Value.ref a := ry
  have nk := ky _ I.hok I.kIn v rx
  have ev := tupK_ref nk hk
  rw [ev] at nk ⊢
  have hT := kd_type D I
  refine in_mix (o := ⟨.type "dict", none, .dict es n, #[]⟩) hu nk dk hk D.low hT (I.kIn _ _ D.at_) rfl (fun e he => ?_) neg ⟨.bl neg, H, I.tok _, rfl, q⟩
  obtain ⟨z, t, h1, _⟩ := D.lit.all e (Array.mem_toList_iff.mpr he)
  exact ⟨z, t, h1⟩
theorem op_inMx [Wo] {neg : Bool} (hu : X.A.units + 200 < cLine) (h : GD X.K X.w.params X.mg x kvs) : ∃ r, OpR X (compareOp (if neg then .NotIn else .In)) r ∧ OpV X.K X.mg r (gInMx neg x kvs) := by
  obtain ⟨r, h1, h2⟩ := op_inG (neg := neg) (op := if neg then .NotIn else .In) rfl h
  obtain ⟨a, es, n, m, l, k, s, f⟩ := h
  have D : KDict X.K X.w a es n := ⟨l, k, s⟩
  refine ⟨fun x' y H Q => r x' y H Q ∨ rInT X a neg x' y H Q, h1.or (op_inT D hu), fun w S H x' y d e Q E st r1 r2 h => ?_⟩
  cases d <;> try exact h.elim
  · exact .inl (h2 w S H x' y _ e Q E st r1 r2 (by cases e <;> exact h))
  · rename_i ds
    cases e <;> try exact h.elim
    rename_i m'
    simp only [gInMx] at h
    split at h
    case isFalse => exact h.elim
    rename_i em
    subst em
    split at h
    case h_2 => exact h.elim
    rename_i q hq
    split at h
    case isFalse => exact h.elim
    rename_i dq
    have ht : isTupK q = true := by
      simp only [keyOf, Option.map_eq_some_iff] at hq
      obtain ⟨_, _, rfl⟩ := hq
      rfl
    unfold Rp at r2
    obtain ⟨b, e1, e2⟩ := r2
    rw [m] at e2; cases e2
    exact .inr ⟨q, e1, ky_of hq r1, ht, dq, h.ret st rp_b⟩
theorem qt_ninMx [Wo] (hu : X.A.units + 200 < cLine) (h : GD X.K X.w.params X.mg x kvs) (ha : PE X a (tF X W fa)) (hb : PE X b (tF X W fb)) (hm : behindInMarks .NotIn b = false := by rfl) : PT X (.Compare a [.NotIn] [b] pos) (tT X W (fB (f2 (gInMx true x kvs) fa fb))) := by
  obtain ⟨r, h1, h2⟩ := op_inMx (neg := true) hu h
  exact qt_cmp h1 h2 ha hb hm
end
end Kw
namespace Kz
open PySem PySem.Spec PyProof.Rows L2 Kw
def topS (i : Nat) : Stmt := PySem.Challenge.pw_kindswap_k03_texts_of_no_kind.main.body.getD i (.Pass ⟨0, 0, 0, 0⟩)
inductive Fn where
  | f_is_from
  | f_inner_of
  | f_is_kind
  | f_sure_kind
  | f_plain_text
  | f_kind_text
  | f_closed
  | f_read_kind
  | f__law_cell_at
  | f__law_well
  | f__law_draw
  | f__law_one
  | f__law_kind
  | f__law_kind_in
  | f__law_spoilt
  | f__law_read
  | f__law_right
  | f_law
abbrev s_is_from : Stmt := topS 10
theorem sc_is_from : FnScope ["thing", "low", "high"] ["thing", "low", "high"] (defScope s_is_from) := ⟨rfl, rfl, rfl, by decide +kernel, rfl, by decide +kernel, by decide +kernel⟩
abbrev s_inner_of : Stmt := topS 11
theorem sc_inner_of : FnScope ["thing"] ["thing"] (defScope s_inner_of) := ⟨rfl, rfl, rfl, by decide +kernel, rfl, by decide +kernel, by decide +kernel⟩
abbrev s_is_kind : Stmt := topS 12
theorem sc_is_kind : FnScope ["thing", "left", "inner"] ["thing"] (defScope s_is_kind) := ⟨rfl, rfl, rfl, by decide +kernel, rfl, by decide +kernel, by decide +kernel⟩
abbrev s_sure_kind : Stmt := topS 13
theorem sc_sure_kind : FnScope ["thing"] ["thing"] (defScope s_sure_kind) := ⟨rfl, rfl, rfl, by decide +kernel, rfl, by decide +kernel, by decide +kernel⟩
abbrev s_plain_text : Stmt := topS 14
theorem sc_plain_text : FnScope ["kind"] ["kind"] (defScope s_plain_text) := ⟨rfl, rfl, rfl, by decide +kernel, rfl, by decide +kernel, by decide +kernel⟩
abbrev s_kind_text : Stmt := topS 15
theorem sc_kind_text : FnScope ["kind"] ["kind"] (defScope s_kind_text) := ⟨rfl, rfl, rfl, by decide +kernel, rfl, by decide +kernel, by decide +kernel⟩
abbrev s_closed : Stmt := topS 16
theorem sc_closed : FnScope ["things"] ["things"] (defScope s_closed) := ⟨rfl, rfl, rfl, by decide +kernel, rfl, by decide +kernel, by decide +kernel⟩
abbrev s_read_kind : Stmt := topS 17
theorem sc_read_kind : FnScope ["text", "things", "sign"] ["text"] (defScope s_read_kind) := ⟨rfl, rfl, rfl, by decide +kernel, rfl, by decide +kernel, by decide +kernel⟩
abbrev s__law_cell_at : Stmt := topS 19
theorem sc__law_cell_at : FnScope ["_law_script", "_law_k"] ["_law_script", "_law_k"] (defScope s__law_cell_at) := ⟨rfl, rfl, rfl, by decide +kernel, rfl, by decide +kernel, by decide +kernel⟩
abbrev s__law_well : Stmt := topS 20
theorem sc__law_well : FnScope ["_law_cell"] ["_law_cell"] (defScope s__law_well) := ⟨rfl, rfl, rfl, by decide +kernel, rfl, by decide +kernel, by decide +kernel⟩
abbrev s__law_draw : Stmt := topS 21
theorem sc__law_draw : FnScope ["_law_well_here", "_law_below", "_law_number", "_law_found"] ["_law_well_here", "_law_below"] (defScope s__law_draw) := ⟨rfl, rfl, rfl, by decide +kernel, rfl, by decide +kernel, by decide +kernel⟩
abbrev s__law_one : Stmt := topS 22
theorem sc__law_one : FnScope ["_law_well_here", "_law_some"] ["_law_well_here", "_law_some"] (defScope s__law_one) := ⟨rfl, rfl, rfl, by decide +kernel, rfl, by decide +kernel, by decide +kernel⟩
abbrev s__law_kind : Stmt := topS 23
theorem sc__law_kind : FnScope ["_law_well_here", "_law_leaves", "_law_first", "_law_word"] ["_law_well_here", "_law_leaves"] (defScope s__law_kind) := ⟨rfl, rfl, rfl, by decide +kernel, rfl, by decide +kernel, by decide +kernel⟩
abbrev s__law_kind_in : Stmt := topS 24
theorem sc__law_kind_in : FnScope ["_law_text", "_law_row", "_law_sign", "_law_last"] ["_law_text"] (defScope s__law_kind_in) := ⟨rfl, rfl, rfl, by decide +kernel, rfl, by decide +kernel, by decide +kernel⟩
abbrev s__law_spoilt : Stmt := topS 25
theorem sc__law_spoilt : FnScope ["_law_well_here", "_law_text", "_law_at", "_law_to", "_law_sign", "_law_way"] ["_law_well_here", "_law_text"] (defScope s__law_spoilt) := ⟨rfl, rfl, rfl, by decide +kernel, rfl, by decide +kernel, by decide +kernel⟩
abbrev s__law_read : Stmt := topS 26
theorem sc__law_read : FnScope ["_law_text", "e"] ["_law_text"] (defScope s__law_read) := ⟨rfl, rfl, rfl, by decide +kernel, rfl, by decide +kernel, by decide +kernel⟩
abbrev s__law_right : Stmt := topS 27
theorem sc__law_right : FnScope ["_law_well_here", "_law_text", "_law_turn", "_law_some", "_law_one_here", "_law_odd", "_law_due", "_law_found", "_law_k"] ["_law_well_here"] (defScope s__law_right) := ⟨rfl, rfl, rfl, by decide +kernel, rfl, by decide +kernel, by decide +kernel⟩
abbrev s_law : Stmt := topS 28
theorem sc_law : FnScope ["_law_script", "_law_cell"] ["_law_script"] (defScope s_law) := ⟨rfl, rfl, rfl, by decide +kernel, rfl, by decide +kernel, by decide +kernel⟩
def kv_MARKS : List (Str × D) := [("both", D.str "*"), ("from", D.str ">")]
def kv_SIGNS : List (Str × D) := [("*", D.str "both"), (">", D.str "from")]
def excs : List Str := ["NoKind", "NoText"]
def isxT : List (Str × Str) := ([("NoKind", "NoKind"), ("NoKind", "SwapError"), ("NoKind", "ValueError"), ("NoText", "NoText"), ("NoText", "SwapError"), ("NoText", "ValueError")] : List (Str × Str))
def isx (y x : Str) : Bool := isxT.any fun p => p.1 == y && p.2 == x
noncomputable def b_is_from (cl : Fn → FF) : FS :=
  (sRet (fAndV (fIsi "int" (fVar 0)) (fAndV (fNotV (fIsi "bool" (fVar 0))) (fChain (gCmp fun i j => decide (i ≤ j)) (gCmp fun i j => decide (i ≤ j)) (fVar 1) (fVar 0) (fVar 2)))))
noncomputable def b_inner_of (cl : Fn → FF) : FS :=
  (sSeq (sIf (fOr (fNot (fTru (fIsi "tuple" (fVar 0)))) (fOr (fB (f2 gEq (fArg gLen (fCons (fVar 0) fNil)) (fC (.int 0)))) (fNot (fTru (fIsi "str" (f2 gIx (fVar 0) (fC (.int 0)))))))) (sRet (fC .non)) sNil)
  (sSeq (sIf (fB (f2 gEq (f2 gIx (fVar 0) (fC (.int 0))) (fC (.str "base")))) (sRet (fIf (fAnd (fB (f2 gEq (fArg gLen (fCons (fVar 0) fNil)) (fC (.int 2)))) (fTru (fArg (cl .f_is_from) (fCons (f2 gIx (fVar 0) (fC (.int 1))) (fCons (fC (.int 0)) (fCons (f2 gSub (fArg gLen (fCons (fC (.str "abcdefgh")) fNil)) (fC (.int 1))) fNil)))))) (fArg mkLst fNil) (fC .non))) sNil)
  (sSeq (sIf (fB (f2 gEq (f2 gIx (fVar 0) (fC (.int 0))) (fC (.str "unit")))) (sRet (fIf (fB (f2 gEq (fArg gLen (fCons (fVar 0) fNil)) (fC (.int 1)))) (fArg mkLst fNil) (fC .non))) sNil)
  (sRet (fIf (fAnd (fB (f2 (gInG false "MARKS" kv_MARKS) (f2 gIx (fVar 0) (fC (.int 0))) (fC (.glo "MARKS")))) (fB (f2 gEq (fArg gLen (fCons (fVar 0) fNil)) (fC (.int 3))))) (fArg (gList false) (fCons (fSl (gSl false) (fVar 0) (fSome (fC (.int 1))) fNone) fNil)) (fC .non))))))
noncomputable def l_is_kind_0 (cl : Fn → FF) : FS :=
  (sSeq (sSet 2 (fArg (cl .f_inner_of) (fCons (fMth gPop0 (fVar 1) fNil) fNil)))
  (sSeq (sIf (fB (f2 (gIs false) (fVar 2) (fC .non))) (sRet (fC (.bl false))) sNil)
  (sExp (fMth gExtend (fVar 1) (fCons (fVar 2) fNil)))))
noncomputable def b_is_kind (cl : Fn → FF) : FS :=
  (sSeq (sSet 1 (fArg mkCel (fCons (fVar 0) fNil)))
  (sSeq (sWhile (fB (f2 gNe (fVar 1) (fArg mkLst fNil))) (l_is_kind_0 cl))
  (sRet (fC (.bl true)))))
noncomputable def b_sure_kind (cl : Fn → FF) : FS :=
  (sIf (fNot (fTru (fArg (cl .f_is_kind) (fCons (fVar 0) fNil)))) (sRaise "NoKind") sNil)
noncomputable def b_plain_text (cl : Fn → FF) : FS :=
  (sSeq (sIf (fB (f2 gEq (f2 gIx (fVar 0) (fC (.int 0))) (fC (.str "base")))) (sRet (f2 gIx (fC (.str "abcdefgh")) (f2 gIx (fVar 0) (fC (.int 1))))) sNil)
  (sSeq (sIf (fB (f2 gEq (f2 gIx (fVar 0) (fC (.int 0))) (fC (.str "unit")))) (sRet (fC (.str "1"))) sNil)
  (sRet (f2 (gAdd false) (f2 (gAdd false) (f2 (gAdd false) (f2 (gAdd false) (fC (.str "(")) (fArg (cl .f_plain_text) (fCons (f2 gIx (fVar 0) (fC (.int 1))) fNil))) (f2 (gIxG "MARKS" kv_MARKS) (fC (.glo "MARKS")) (f2 gIx (fVar 0) (fC (.int 0))))) (fArg (cl .f_plain_text) (fCons (f2 gIx (fVar 0) (fC (.int 2))) fNil))) (fC (.str ")"))))))
noncomputable def b_kind_text (cl : Fn → FF) : FS :=
  (sSeq (sExp (fArg (cl .f_sure_kind) (fCons (fVar 0) fNil)))
  (sRet (fArg (cl .f_plain_text) (fCons (fVar 0) fNil))))
noncomputable def b_closed (cl : Fn → FF) : FS :=
  (sSeq (sIf (fOr (fB (f2 (gCmp fun i j => decide (i < j)) (fArg gLen (fCons (fVar 0) fNil)) (fC (.int 4)))) (fOr (fB (f2 gNe (f2 gIx (fVar 0) (f1 gNeg (fC (.int 4)))) (fC (.str "(")))) (fB (f2 (gInMx true "SIGNS" kv_SIGNS) (f2 gIx (fVar 0) (f1 gNeg (fC (.int 2)))) (fC (.glo "SIGNS")))))) (sRaise "NoText") sNil)
  (sSeq (sIf (fOr (fNot (fTru (fIsi "tuple" (f2 gIx (fVar 0) (f1 gNeg (fC (.int 3))))))) (fNot (fTru (fIsi "tuple" (f2 gIx (fVar 0) (f1 gNeg (fC (.int 1)))))))) (sRaise "NoText") sNil)
  (sRet (f2 (gAdd true) (fSl (gSl false) (fVar 0) fNone (fSome (f1 gNeg (fC (.int 4))))) (fArg mkLst (fCons (fArg mkTup (fCons (f2 (gIxG "SIGNS" kv_SIGNS) (fC (.glo "SIGNS")) (f2 gIx (fVar 0) (f1 gNeg (fC (.int 2))))) (fCons (f2 gIx (fVar 0) (f1 gNeg (fC (.int 3)))) (fCons (f2 gIx (fVar 0) (f1 gNeg (fC (.int 1)))) fNil)))) fNil))))))
noncomputable def l_read_kind_0 (cl : Fn → FF) : FS :=
  (sIf (fB (f2 (gIn false) (fVar 2) (fC (.str "abcdefgh")))) (sExp (fMth gAppend (fVar 1) (fCons (fArg mkTup (fCons (fC (.str "base")) (fCons (fStrIx (fC (.str "abcdefgh")) (fVar 2)) fNil))) fNil))) (sIf (fB (f2 gEq (fVar 2) (fC (.str "1")))) (sExp (fMth gAppend (fVar 1) (fCons (fArg mkTup (fCons (fC (.str "unit")) fNil)) fNil))) (sIf (fB (f2 gEq (fVar 2) (fC (.str ")")))) (sSet 1 (fArg (cl .f_closed) (fCons (fVar 1) fNil))) (sIf (fOr (fB (f2 gEq (fVar 2) (fC (.str "(")))) (fB (f2 (gInG false "SIGNS" kv_SIGNS) (fVar 2) (fC (.glo "SIGNS"))))) (sExp (fMth gAppend (fVar 1) (fCons (fVar 2) fNil))) (sRaise "NoText")))))
noncomputable def b_read_kind (cl : Fn → FF) : FS :=
  (sSeq (sIf (fNot (fTru (fIsi "str" (fVar 0)))) (sRaise "NoText") sNil)
  (sSeq (sSet 1 (fArg mkCel fNil))
  (sSeq (sFor (fiS (fVar 0)) (gN 2) (l_read_kind_0 cl))
  (sSeq (sIf (fOr (fB (f2 gNe (fArg gLen (fCons (fVar 1) fNil)) (fC (.int 1)))) (fNot (fTru (fIsi "tuple" (f2 gIx (fVar 1) (fC (.int 0))))))) (sRaise "NoText") sNil)
  (sRet (f2 gIx (fVar 1) (fC (.int 0))))))))
noncomputable def b__law_cell_at (cl : Fn → FF) : FS :=
  (sSeq (sIf (fB (f2 (gCmp fun i j => decide (i < j)) (fVar 1) (fArg gLen (fCons (fVar 0) fNil)))) (sRet (f2 gIx (fVar 0) (fVar 1))) sNil)
  (sRet (fC (.int 0))))
noncomputable def b__law_well (cl : Fn → FF) : FS :=
  (sRet (fArg mkCel (fCons (f2 (gMul false) (fVar 0) (fArg gInt (fCons (f2 (gCmp fun i j => decide (j ≤ i)) (fVar 0) (f2 gPow (fC (.int 10)) (fC (.int 18)))) fNil))) (fCons (f2 gMod (fVar 0) (fC (.int 2147483629))) (fCons (fC (.int 0)) fNil)))))
noncomputable def b__law_draw (cl : Fn → FF) : FS :=
  (sSeq (sIf (fB (f2 (gCmp fun i j => decide (j < i)) (f2 gIx (fVar 0) (fC (.int 0))) (fC (.int 0)))) (sSeq (sSet 3 (f2 gMod (f2 gIx (fVar 0) (fC (.int 0))) (fVar 1)))
  (sSeq (sAsg (f2 gDiv (f2 gIx (fVar 0) (fC (.int 0))) (fVar 1)) (gSb (fVar 0) (fC (.int 0))))
  (sRet (fVar 3)))) sNil)
  (sSeq (sAsg (f2 (gAdd false) (f2 gIx (fVar 0) (fC (.int 2))) (fC (.int 1))) (gSb (fVar 0) (fC (.int 2))))
  (sSeq (sSet 2 (f2 gMod (f2 (gMul false) (f2 (gAdd false) (f2 (gAdd false) (f2 gIx (fVar 0) (fC (.int 1))) (f2 (gMul false) (fC (.int 86969)) (f2 gIx (fVar 0) (fC (.int 2))))) (fC (.int 1))) (fC (.int 48271))) (fC (.int 2147483629))))
  (sSeq (sSet 2 (f2 gMod (f2 (gMul false) (fVar 2) (f2 (gAdd false) (f2 (gAdd false) (f2 gDiv (fVar 2) (fC (.int 1013))) (fC (.int 69623))) (f2 gIx (fVar 0) (fC (.int 2))))) (fC (.int 2147483587))))
  (sRet (f2 gMod (f2 gDiv (f2 gMod (f2 (gMul false) (fVar 2) (f2 (gAdd false) (f2 gDiv (fVar 2) (fC (.int 2003))) (fC (.int 40692)))) (fC (.int 2147483563))) (fC (.int 3))) (fVar 1)))))))
noncomputable def b__law_one (cl : Fn → FF) : FS :=
  (sRet (f2 gIx (fVar 1) (fArg (cl .f__law_draw) (fCons (fVar 0) (fCons (fArg gLen (fCons (fVar 1) fNil)) fNil)))))
noncomputable def b__law_kind (cl : Fn → FF) : FS :=
  (sSeq (sIf (fB (f2 (gCmp fun i j => decide (i < j)) (fVar 1) (fC (.int 2)))) (sRet (fArg (cl .f__law_one) (fCons (fVar 0) (fCons (fArg mkLst (fCons (fArg mkTup (fCons (fC (.str "base")) (fCons (fArg (cl .f__law_draw) (fCons (fVar 0) (fCons (fC (.int 3)) fNil))) fNil))) (fCons (fArg mkTup (fCons (fC (.str "base")) (fCons (fArg (cl .f__law_draw) (fCons (fVar 0) (fCons (fC (.int 8)) fNil))) fNil))) (fCons (fArg mkTup (fCons (fC (.str "base")) (fCons (fC (.int 0)) fNil))) (fCons (fArg mkTup (fCons (fC (.str "unit")) fNil)) fNil))))) fNil)))) sNil)
  (sSeq (sSet 2 (f2 (gAdd false) (fC (.int 1)) (fArg (cl .f__law_draw) (fCons (fVar 0) (fCons (f2 gSub (fVar 1) (fC (.int 1))) fNil)))))
  (sSeq (sSet 3 (fArg (cl .f__law_one) (fCons (fVar 0) (fCons (fArg mkLst (fCons (fC (.str "both")) (fCons (fC (.str "from")) fNil))) fNil))))
  (sRet (fArg mkTup (fCons (fVar 3) (fCons (fArg (cl .f__law_kind) (fCons (fVar 0) (fCons (fVar 2) fNil))) (fCons (fArg (cl .f__law_kind) (fCons (fVar 0) (fCons (f2 gSub (fVar 1) (fVar 2)) fNil))) fNil))))))))
noncomputable def l__law_kind_in_0 (cl : Fn → FF) : FS :=
  (sSeq (sExp (fMth gAppend (fVar 1) (fCons (fVar 2) fNil)))
  (sIf (fB (f2 gEq (fVar 2) (fC (.str "1")))) (sAsg (fArg mkTup (fCons (fC (.str "unit")) fNil)) (gSb (fVar 1) (f1 gNeg (fC (.int 1))))) (sIf (fB (f2 (gIn false) (fVar 2) (fC (.str "abcdefgh")))) (sAsg (fArg mkTup (fCons (fC (.str "base")) (fCons (fStrIx (fC (.str "abcdefgh")) (fVar 2)) fNil))) (gSb (fVar 1) (f1 gNeg (fC (.int 1))))) (sIf (fB (f2 gEq (fVar 2) (fC (.str ")")))) (sSeq (sSet 3 (fSl (gSl false) (fVar 1) (fSome (f1 gNeg (fC (.int 5)))) fNone))
  (sSeq (sIf (fOr (fB (f2 (gCmp fun i j => decide (i < j)) (fArg gLen (fCons (fVar 3) fNil)) (fC (.int 5)))) (fOr (fB (f2 gNe (f2 gIx (fVar 3) (fC (.int 0))) (fC (.str "(")))) (fB (f2 (gIn true) (f2 gIx (fVar 3) (fC (.int 2))) (fArg mkLst (fCons (fC (.str "*")) (fCons (fC (.str ">")) fNil))))))) (sRet (fC .non)) sNil)
  (sSeq (sIf (fOr (fTru (fIsi "str" (f2 gIx (fVar 3) (fC (.int 1))))) (fTru (fIsi "str" (f2 gIx (fVar 3) (fC (.int 3)))))) (sRet (fC .non)) sNil)
  (sSet 1 (f2 (gAdd true) (fSl (gSl false) (fVar 1) fNone (fSome (f1 gNeg (fC (.int 5))))) (fArg mkLst (fCons (fArg mkTup (fCons (f2 gIx (fArg mkLst (fCons (fC (.str "both")) (fCons (fC (.str "from")) fNil))) (fArg gInt (fCons (f2 gEq (f2 gIx (fVar 3) (fC (.int 2))) (fC (.str ">"))) fNil))) (fCons (f2 gIx (fVar 3) (fC (.int 1))) (fCons (f2 gIx (fVar 3) (fC (.int 3))) fNil)))) fNil))))))) (sIf (fB (f2 (gIn true) (fVar 2) (fC (.str "(*>")))) (sRet (fC .non)) sNil)))))
noncomputable def b__law_kind_in (cl : Fn → FF) : FS :=
  (sSeq (sSet 1 (fArg mkCel fNil))
  (sSeq (sFor (fiS (fVar 0)) (gN 2) (l__law_kind_in_0 cl))
  (sSeq (sIf (fOr (fB (f2 gNe (fArg gLen (fCons (fVar 1) fNil)) (fC (.int 1)))) (fTru (fIsi "str" (f2 gIx (fVar 1) (fC (.int 0)))))) (sRet (fC .non)) sNil)
  (sRet (f2 gIx (fVar 1) (fC (.int 0)))))))
noncomputable def b__law_spoilt (cl : Fn → FF) : FS :=
  (sSeq (sSet 2 (fArg (cl .f__law_draw) (fCons (fVar 0) (fCons (f2 (gAdd false) (fArg gLen (fCons (fVar 1) fNil)) (fC (.int 1))) fNil))))
  (sSeq (sSet 3 (fArg (cl .f__law_draw) (fCons (fVar 0) (fCons (f2 (gAdd false) (fArg gLen (fCons (fVar 1) fNil)) (fC (.int 1))) fNil))))
  (sSeq (sSet 4 (fArg (cl .f__law_one) (fCons (fVar 0) (fCons (fArg mkLst (fCons (fC (.str "a")) (fCons (fC (.str "h")) (fCons (fC (.str "i")) (fCons (fC (.str "1")) (fCons (fC (.str "2")) (fCons (fC (.str "(")) (fCons (fC (.str ")")) (fCons (fC (.str "*")) (fCons (fC (.str ">")) (fCons (fC (.str " ")) (fCons (fC (.str "A")) (fCons (fC (.str "")) (fCons (fC (.str "((")) (fCons (fC (.str "()")) (fCons (fC (.str "(a*b)")) (fCons (fC (.str "<")) (fCons (fC (.str "\n")) fNil)))))))))))))))))) fNil))))
  (sSeq (sSet 5 (fArg (cl .f__law_draw) (fCons (fVar 0) (fCons (fC (.int 8)) fNil))))
  (sSeq (sIf (fB (f2 gEq (fVar 5) (fC (.int 0)))) (sRet (f2 (gAdd false) (fSl (gSl false) (fVar 1) fNone (fSome (fVar 2))) (fSl (gSl false) (fVar 1) (fSome (f2 (gAdd false) (fVar 2) (fC (.int 1)))) fNone))) sNil)
  (sSeq (sIf (fB (f2 gEq (fVar 5) (fC (.int 1)))) (sRet (f2 (gAdd false) (f2 (gAdd false) (fSl (gSl false) (fVar 1) fNone (fSome (fVar 2))) (f2 (gMul false) (fSl (gSl false) (fVar 1) (fSome (fVar 2)) (fSome (f2 (gAdd false) (fVar 2) (fC (.int 1))))) (fC (.int 2)))) (fSl (gSl false) (fVar 1) (fSome (f2 (gAdd false) (fVar 2) (fC (.int 1)))) fNone))) sNil)
  (sSeq (sIf (fB (f2 gEq (fVar 5) (fC (.int 2)))) (sRet (f2 (gAdd false) (f2 (gAdd false) (fSl (gSl false) (fVar 1) fNone (fSome (fVar 2))) (fVar 4)) (fSl (gSl false) (fVar 1) (fSome (f2 (gAdd false) (fVar 2) (fC (.int 1)))) fNone))) sNil)
  (sSeq (sIf (fB (f2 gEq (fVar 5) (fC (.int 3)))) (sRet (f2 (gAdd false) (f2 (gAdd false) (fSl (gSl false) (fVar 1) fNone (fSome (fVar 2))) (fVar 4)) (fSl (gSl false) (fVar 1) (fSome (fVar 2)) fNone))) sNil)
  (sSeq (sIf (fB (f2 gEq (fVar 5) (fC (.int 4)))) (sRet (f2 (gAdd false) (f2 (gAdd false) (fSl (gSl false) (fVar 1) fNone (fSome (fVar 2))) (f1 gTurn (fSl (gSl false) (fVar 1) (fSome (fVar 2)) (fSome (f2 (gAdd false) (fVar 2) (fC (.int 2))))))) (fSl (gSl false) (fVar 1) (fSome (f2 (gAdd false) (fVar 2) (fC (.int 2)))) fNone))) sNil)
  (sSeq (sIf (fB (f2 gEq (fVar 5) (fC (.int 5)))) (sRet (f2 (gAdd false) (fSl (gSl false) (fVar 1) fNone (fSome (fArg gMin (fCons (fVar 2) (fCons (fVar 3) fNil))))) (fSl (gSl false) (fVar 1) (fSome (fArg gMax (fCons (fVar 2) (fCons (fVar 3) fNil)))) fNone))) sNil)
  (sSeq (sIf (fB (f2 gEq (fVar 5) (fC (.int 6)))) (sRet (f2 (gAdd false) (f2 (gAdd false) (f2 (gAdd false) (f2 (gAdd false) (fC (.str "(")) (fVar 1)) (fArg (cl .f__law_one) (fCons (fVar 0) (fCons (fArg mkLst (fCons (fC (.str "*")) (fCons (fC (.str ">")) (fCons (fC (.str "")) fNil)))) fNil)))) (fVar 1)) (fC (.str ")")))) sNil)
  (sRet (f2 (gAdd false) (fSl (gSl false) (fVar 1) (fSome (fVar 2)) fNone) (fSl (gSl false) (fVar 1) fNone (fSome (fVar 2))))))))))))))))
noncomputable def b__law_read (cl : Fn → FF) : FS :=
  (sTryC excs [((fun y => isx y "NoText"), some 1, (fun y a => (sRet (f2 gIx (fArg mkLst (fCons (fC (.str "other")) (fCons (fC (.str "no text")) fNil))) (fArg gInt (fCons (fAndV (fIsE a (isx y "ValueError") (fVar 1)) (fNotV (fIsE a (isx y "NoForm" || isx y "NoKind") (fVar 1)))) fNil)))))), ((fun y => isx y "SwapError"), none, (fun y a => (sRet (fC (.str "other")))))] (sRet (fArg (cl .f_read_kind) (fCons (fVar 0) fNil))))
noncomputable def l__law_right_0 (cl : Fn → FF) : FS :=
  (sSet 1 (fArg (cl .f__law_spoilt) (fCons (fVar 0) (fCons (fVar 1) fNil))))
noncomputable def l__law_right_1 (cl : Fn → FF) : FS :=
  (sSeq (sSet 7 (fArg (cl .f__law_read) (fCons (fVar 4) fNil)))
  (sIf (fOr (fAnd (fB (f2 (gIs false) (fVar 6) (fC .non))) (fB (f2 gNe (fVar 7) (fC (.str "no text"))))) (fAnd (fB (f2 (gIs true) (fVar 6) (fC .non))) (fOr (fB (f2 gNe (fVar 7) (fVar 6))) (fB (f2 gNe (fArg (cl .f_kind_text) (fCons (fVar 7) fNil)) (fVar 4)))))) (sRet (fC (.bl false))) sNil))
noncomputable def l__law_right_2 (cl : Fn → FF) : FS :=
  (sSeq (sSet 6 (fArg (cl .f__law_kind_in) (fCons (fVar 4) fNil)))
  (sFor (fiR1 (fCons (fC (.int 2)) fNil)) (gN 2) (l__law_right_1 cl)))
noncomputable def b__law_right (cl : Fn → FF) : FS :=
  (sSeq (sSet 1 (fArg (cl .f_kind_text) (fCons (fArg (cl .f__law_kind) (fCons (fVar 0) (fCons (f2 (gAdd false) (fC (.int 1)) (fArg (cl .f__law_draw) (fCons (fVar 0) (fCons (fC (.int 7)) fNil)))) fNil))) fNil)))
  (sSeq (sFor (fiR1 (fCons (fArg (cl .f__law_draw) (fCons (fVar 0) (fCons (fC (.int 3)) fNil))) fNil)) (gN 2) (l__law_right_0 cl))
  (sSeq (sSet 3 (fArg mkCel (fCons (fVar 1) (fCons (fSM gJoin (fC (.str "")) (fCons (fLc false (fiR1 (fCons (fArg (cl .f__law_draw) (fCons (fVar 0) (fCons (fC (.int 9)) fNil))) fNil)) (gN 8) fYes (fArg (cl .f__law_one) (fCons (fVar 0) (fCons (fArg mkLst (fCons (fC (.str "a")) (fCons (fC (.str "b")) (fCons (fC (.str "1")) (fCons (fC (.str "(")) (fCons (fC (.str ")")) (fCons (fC (.str "*")) (fCons (fC (.str ">")) fNil)))))))) fNil))) [8]) fNil)) fNil))))
  (sSeq (sExp (fMth gAppend (fVar 3) (fCons (f2 (gMul false) (fArg (cl .f__law_one) (fCons (fVar 0) (fCons (fArg mkLst (fCons (fC (.str "(")) (fCons (fC (.str ")")) (fCons (fC (.str "(a")) (fCons (fC (.str "a")) fNil))))) fNil))) (f2 (gAdd false) (fC (.int 1)) (fArg (cl .f__law_draw) (fCons (fVar 0) (fCons (fC (.int 90)) fNil))))) fNil)))
  (sSeq (sFor (fiL (fVar 3)) (gN 4) (l__law_right_2 cl))
  (sSeq (sSet 5 (fArg (cl .f__law_one) (fCons (fVar 0) (fCons (fArg mkLst (fCons (fC .non) (fCons (fC (.int 5)) (fCons (fArg mkLst (fCons (fVar 1) fNil)) (fCons (fArg mkTup (fCons (fVar 1) fNil)) (fCons (fC (.bl true)) (fCons (fArg mkTup (fCons (fC (.str "base")) (fCons (fC (.int 0)) fNil))) (fCons (fDic [] []) fNil)))))))) fNil))))
  (sRet (fAndV (f2 gEq (fArg (cl .f__law_read) (fCons (fVar 5) fNil)) (fC (.str "no text"))) (f2 gEq (fArg (cl .f__law_read) (fCons (fC (.str "")) fNil)) (fC (.str "no text")))))))))))
noncomputable def l_law_0 (cl : Fn → FF) : FS :=
  (sIf (fNot (fTru (fArg (cl .f__law_right) (fCons (fArg (cl .f__law_well) (fCons (fVar 1) fNil)) fNil)))) (sRet (fC (.bl false))) sNil)
noncomputable def b_law (cl : Fn → FF) : FS :=
  (sSeq (sFor (fiL (f2 (gAdd false) (fArg mkLst (fCons (fArg (cl .f__law_cell_at) (fCons (fVar 0) (fCons (fC (.int 0)) fNil))) fNil)) (fSl (gSl false) (fVar 0) (fSome (fC (.int 1))) (fSome (fC (.int 12)))))) (gN 1) (l_law_0 cl))
  (sRet (fC (.bl true))))
noncomputable def ev : Nat → Fn → FF
  | 0, _ => fun _ _ => .no
  | n + 1, .f_is_from => fnB 3 3 (b_is_from (ev n))
  | n + 1, .f_inner_of => fnB 1 1 (b_inner_of (ev n))
  | n + 1, .f_is_kind => fnC 1 3 (b_is_kind (ev n))
  | n + 1, .f_sure_kind => fnB 1 1 (b_sure_kind (ev n))
  | n + 1, .f_plain_text => fnB 1 1 (b_plain_text (ev n))
  | n + 1, .f_kind_text => fnB 1 1 (b_kind_text (ev n))
  | n + 1, .f_closed => fnB 1 1 (b_closed (ev n))
  | n + 1, .f_read_kind => fnC 1 3 (b_read_kind (ev n))
  | n + 1, .f__law_cell_at => fnB 2 2 (b__law_cell_at (ev n))
  | n + 1, .f__law_well => fnB 1 1 (b__law_well (ev n))
  | n + 1, .f__law_draw => fnB 2 4 (b__law_draw (ev n))
  | n + 1, .f__law_one => fnB 2 2 (b__law_one (ev n))
  | n + 1, .f__law_kind => fnB 2 4 (b__law_kind (ev n))
  | n + 1, .f__law_kind_in => fnC 1 4 (b__law_kind_in (ev n))
  | n + 1, .f__law_spoilt => fnB 2 6 (b__law_spoilt (ev n))
  | n + 1, .f__law_read => fnB 1 2 (b__law_read (ev n))
  | n + 1, .f__law_right => fnC 1 9 (b__law_right (ev n))
  | n + 1, .f_law => fnB 1 2 (b_law (ev n))
@[reducible] def calOf [Wo] (P : Program) (w : World) (K : PySem.W.Frag) (mg : Str → Option Value) (base : Heap) (k : Nat) (g : Fn) (f : FF) : Prop := match g with
  | .f_is_from => Cal P w K mg base k "is_from" f
  | .f_inner_of => Cal P w K mg base k "inner_of" f
  | .f_is_kind => Cal P w K mg base k "is_kind" f
  | .f_sure_kind => Cal P w K mg base k "sure_kind" f
  | .f_plain_text => Cal P w K mg base k "plain_text" f
  | .f_kind_text => Cal P w K mg base k "kind_text" f
  | .f_closed => Cal P w K mg base k "closed" f
  | .f_read_kind => Cal P w K mg base k "read_kind" f
  | .f__law_cell_at => Cal P w K mg base k "_law_cell_at" f
  | .f__law_well => Cal P w K mg base k "_law_well" f
  | .f__law_draw => Cal P w K mg base k "_law_draw" f
  | .f__law_one => Cal P w K mg base k "_law_one" f
  | .f__law_kind => Cal P w K mg base k "_law_kind" f
  | .f__law_kind_in => Cal P w K mg base k "_law_kind_in" f
  | .f__law_spoilt => Cal P w K mg base k "_law_spoilt" f
  | .f__law_read => Cal P w K mg base k "_law_read" f
  | .f__law_right => Cal P w K mg base k "_law_right" f
  | .f_law => Cal P w K mg base k "law" f
structure Txt (K : PySem.W.Frag) (P : Params) (mg : Str → Option Value) : Prop where
  t_is_from : TF K mg "is_from" s_is_from ["thing", "low", "high"]
  t_inner_of : TF K mg "inner_of" s_inner_of ["thing"]
  t_is_kind : TF K mg "is_kind" s_is_kind ["thing"]
  t_sure_kind : TF K mg "sure_kind" s_sure_kind ["thing"]
  t_plain_text : TF K mg "plain_text" s_plain_text ["kind"]
  t_kind_text : TF K mg "kind_text" s_kind_text ["kind"]
  t_closed : TF K mg "closed" s_closed ["things"]
  t_read_kind : TF K mg "read_kind" s_read_kind ["text"]
  t__law_cell_at : TF K mg "_law_cell_at" s__law_cell_at ["_law_script", "_law_k"]
  t__law_well : TF K mg "_law_well" s__law_well ["_law_cell"]
  t__law_draw : TF K mg "_law_draw" s__law_draw ["_law_well_here", "_law_below"]
  t__law_one : TF K mg "_law_one" s__law_one ["_law_well_here", "_law_some"]
  t__law_kind : TF K mg "_law_kind" s__law_kind ["_law_well_here", "_law_leaves"]
  t__law_kind_in : TF K mg "_law_kind_in" s__law_kind_in ["_law_text"]
  t__law_spoilt : TF K mg "_law_spoilt" s__law_spoilt ["_law_well_here", "_law_text"]
  t__law_read : TF K mg "_law_read" s__law_read ["_law_text"]
  t__law_right : TF K mg "_law_right" s__law_right ["_law_well_here"]
  m_ValueError : mg "ValueError" = none
  m_bool : mg "bool" = none
  m_int : mg "int" = none
  m_isinstance : mg "isinstance" = none
  m_len : mg "len" = none
  m_list : mg "list" = none
  m_max : mg "max" = none
  m_min : mg "min" = none
  m_range : mg "range" = none
  m_str : mg "str" = none
  m_tuple : mg "tuple" = none
  c_LETTERS : GC mg "LETTERS" (.str "abcdefgh")
  c_MARKS : GD K P mg "MARKS" kv_MARKS
  c_SIGNS : GD K P mg "SIGNS" kv_SIGNS
  c_UNIT : GC mg "UNIT" (.str "1")
  x_NoKind : ExcF K mg "NoKind"
  x_NoText : ExcF K mg "NoText"
  xk : ∀ y ∈ excs, ExcK K mg y
  c_NoText : CatF K mg excs "NoText" (fun y => isx y "NoText")
  c_SwapError : CatF K mg excs "SwapError" (fun y => isx y "SwapError")
  i_NoForm : ∀ y ∈ excs, IsxO K mg y "NoForm" (isx y "NoForm")
  i_NoKind : ∀ y ∈ excs, IsxO K mg y "NoKind" (isx y "NoKind")
  i_ValueError : ∀ y ∈ excs, IsxB K mg y "ValueError" (isx y "ValueError")
section
variable {P : Program} {w : World} {K : PySem.W.Frag} {mg : Str → Option Value} {base : Heap}
theorem ok_is_from {k : Nat} {cl : Fn → FF} [Wo] (T : Txt K w.params mg) (hW : Wo.ww = w) (C : ∀ g : Fn, g ≠ .f_law → calOf P w K mg base k g (cl g)) (f : Addr) (cdv : Value) (A : Around) (outer : List Env) (s : Shared) (H : Hp) (E : XK) (hr : RoomG k (A.deeper (envOfC "is_from" (defScope s_is_from) s.heap.objs.size f cdv))) :
    PSs (cxOf (L2.CX P w) P w K mg base ["thing", "low", "high"] "is_from" (defScope s_is_from) f cdv A outer s H E) (defBody s_is_from) (tS (cxOf (L2.CX P w) P w K mg base ["thing", "low", "high"] "is_from" (defScope s_is_from) f cdv A outer s H E) (fun c d _ H => E c d H) (b_is_from cl)) := by
  have tk : Takes (cxOf (L2.CX P w) P w K mg base ["thing", "low", "high"] "is_from" (defScope s_is_from) f cdv A outer s H E) (fun c d _ H => E c d H) := takes_of rfl rfl rfl rfl
  have nd := sc_is_from.nd
  exact (q_last (q_ret (q_and (q_isi rfl T.m_isinstance rfl T.m_int (by decide +kernel) (by decide) (q_var 0)) (q_and (q_not (q_isi rfl T.m_isinstance rfl T.m_bool (by decide +kernel) (by decide) (q_var 0))) (q_one (q_chain op_le (cmp_v _) op_le (cmp_v _) (q_var 1) (q_var 0) (q_var 2)))))))
theorem ok_inner_of {k : Nat} {cl : Fn → FF} [Wo] (T : Txt K w.params mg) (hW : Wo.ww = w) (C : ∀ g : Fn, g ≠ .f_law → calOf P w K mg base k g (cl g)) (f : Addr) (cdv : Value) (A : Around) (outer : List Env) (s : Shared) (H : Hp) (E : XK) (hr : RoomG k (A.deeper (envOfC "inner_of" (defScope s_inner_of) s.heap.objs.size f cdv))) :
    PSs (cxOf (L2.CX P w) P w K mg base ["thing"] "inner_of" (defScope s_inner_of) f cdv A outer s H E) (defBody s_inner_of) (tS (cxOf (L2.CX P w) P w K mg base ["thing"] "inner_of" (defScope s_inner_of) f cdv A outer s H E) (fun c d _ H => E c d H) (b_inner_of cl)) := by
  have tk : Takes (cxOf (L2.CX P w) P w K mg base ["thing"] "inner_of" (defScope s_inner_of) f cdv A outer s H E) (fun c d _ H => E c d H) := takes_of rfl rfl rfl rfl
  have nd := sc_inner_of.nd
  exact (q_seq (q_ifS (PW.pt (qw_or (qt_not (qt_tru (q_isi rfl T.m_isinstance rfl T.m_tuple (by decide +kernel) (by decide) (q_var 0)))) (qw_or (qt_cmp (op_eqU (by have z := hu2 hr; exact z)) eqP_v (q_callB call_len len_v rfl T.m_len PySem.boot_len (q_cons (q_var 0) q_nil)) q_int (nomark _)) (qw_one (qt_not (qt_tru (q_isi rfl T.m_isinstance rfl T.m_str (by decide +kernel) (by decide) (q_ix (q_var 0) q_int)))))))) (q_last (q_ret q_non)) q_snil)
    (q_seq (q_ifS (qt_cmp (op_eqU (by have z := hu2 hr; exact z)) eqP_v (q_ix (q_var 0) q_int) q_str (nomark _)) (q_last (q_ret (q_if (PW.pt (qw_and (qt_cmp (op_eqU (by have z := hu2 hr; exact z)) eqP_v (q_callB call_len len_v rfl T.m_len PySem.boot_len (q_cons (q_var 0) q_nil)) q_int (nomark _)) (qw_one (qt_tru (q_call (C .f_is_from (fun z => nomatch z)) hr tk rfl (q_cons (q_ix (q_var 0) q_int) (q_cons q_int (q_cons (q_op op_sub sub_v (q_callB call_len len_v rfl T.m_len PySem.boot_len (q_cons (q_gc T.c_LETTERS rfl) q_nil)) q_int) q_nil)))))))) (q_lst q_nil) q_non))) q_snil)
    (q_seq (q_ifS (qt_cmp (op_eqU (by have z := hu2 hr; exact z)) eqP_v (q_ix (q_var 0) q_int) q_str (nomark _)) (q_last (q_ret (q_if (qt_cmp (op_eqU (by have z := hu2 hr; exact z)) eqP_v (q_callB call_len len_v rfl T.m_len PySem.boot_len (q_cons (q_var 0) q_nil)) q_int (nomark _)) (q_lst q_nil) q_non))) q_snil)
    (q_last (q_ret (q_if (PW.pt (qw_and (qt_inG T.c_MARKS (q_ix (q_var 0) q_int) (q_gd T.c_MARKS rfl)) (qw_one (qt_cmp (op_eqU (by have z := hu2 hr; exact z)) eqP_v (q_callB call_len len_v rfl T.m_len PySem.boot_len (q_cons (q_var 0) q_nil)) q_int (nomark _))))) (q_callTy call_list_of list_v rfl T.m_list (by decide +kernel) (q_cons (q_slice (q_var 0) (q_some q_int) q_none) q_nil)) q_non))))))
theorem ok_is_kind {k : Nat} {cl : Fn → FF} [Wo] (T : Txt K w.params mg) (hW : Wo.ww = w) (C : ∀ g : Fn, g ≠ .f_law → calOf P w K mg base k g (cl g)) (f : Addr) (cdv : Value) (A : Around) (outer : List Env) (s : Shared) (H : Hp) (E : XK) (hr : RoomG k (A.deeper (envOfC "is_kind" (defScope s_is_kind) s.heap.objs.size f cdv))) :
    PSs (cxOf (L2.CX P w) P w K mg base ["thing", "left", "inner"] "is_kind" (defScope s_is_kind) f cdv A outer s H E) (defBody s_is_kind) (tS (cxOf (L2.CX P w) P w K mg base ["thing", "left", "inner"] "is_kind" (defScope s_is_kind) f cdv A outer s H E) (fun c d _ H => E c d H) (b_is_kind cl)) := by
  have tk : Takes (cxOf (L2.CX P w) P w K mg base ["thing", "left", "inner"] "is_kind" (defScope s_is_kind) f cdv A outer s H E) (fun c d _ H => E c d H) := takes_of rfl rfl rfl rfl
  have nd := sc_is_kind.nd
  exact (q_seq (q_set (i := 1) nd rfl (by first | exact Or.inl rfl | exact Or.inr rfl) (q_cel (q_cons (q_var 0) q_nil)))
    (q_seq (q_while (passes_of rfl) (qt_cmp (op_neU (by have z := hu2 hr; exact z)) neP_v (q_var 1) (q_lst q_nil) (nomark _)) (q_seq (q_set (i := 2) nd rfl (by first | exact Or.inl rfl | exact Or.inr rfl) (q_call (C .f_inner_of (fun z => nomatch z)) hr tk rfl (q_cons (q_mth0 PySem.F.slot_list_pop PySem.F.type_list_pop mt_pop pop0_v (q_var 1)) q_nil)))
    (q_seq (q_ifS (qt_cmp op_isU isU_v (q_var 2) q_non (nomark _)) (q_last (q_ret q_bl)) q_snil)
    (q_last (q_expr (q_mth PySem.F.slot_list_extend PySem.F.type_list_extend mt_extend extend_v (q_var 1) (q_cons (q_var 2) q_nil)))))))
    (q_last (q_ret q_bl))))
theorem ok_sure_kind {k : Nat} {cl : Fn → FF} [Wo] (T : Txt K w.params mg) (hW : Wo.ww = w) (C : ∀ g : Fn, g ≠ .f_law → calOf P w K mg base k g (cl g)) (f : Addr) (cdv : Value) (A : Around) (outer : List Env) (s : Shared) (H : Hp) (E : XK) (hr : RoomG k (A.deeper (envOfC "sure_kind" (defScope s_sure_kind) s.heap.objs.size f cdv))) :
    PSs (cxOf (L2.CX P w) P w K mg base ["thing"] "sure_kind" (defScope s_sure_kind) f cdv A outer s H E) (defBody s_sure_kind) (tS (cxOf (L2.CX P w) P w K mg base ["thing"] "sure_kind" (defScope s_sure_kind) f cdv A outer s H E) (fun c d _ H => E c d H) (b_sure_kind cl)) := by
  have tk : Takes (cxOf (L2.CX P w) P w K mg base ["thing"] "sure_kind" (defScope s_sure_kind) f cdv A outer s H E) (fun c d _ H => E c d H) := takes_of rfl rfl rfl rfl
  have nd := sc_sure_kind.nd
  exact (q_last (q_ifS (qt_not (qt_tru (q_call (C .f_is_kind (fun z => nomatch z)) hr tk rfl (q_cons (q_var 0) q_nil)))) (q_last (q_raise rfl tk T.x_NoKind rfl)) q_snil))
theorem ok_plain_text {k : Nat} {cl : Fn → FF} [Wo] (T : Txt K w.params mg) (hW : Wo.ww = w) (C : ∀ g : Fn, g ≠ .f_law → calOf P w K mg base k g (cl g)) (f : Addr) (cdv : Value) (A : Around) (outer : List Env) (s : Shared) (H : Hp) (E : XK) (hr : RoomG k (A.deeper (envOfC "plain_text" (defScope s_plain_text) s.heap.objs.size f cdv))) :
    PSs (cxOf (L2.CX P w) P w K mg base ["kind"] "plain_text" (defScope s_plain_text) f cdv A outer s H E) (defBody s_plain_text) (tS (cxOf (L2.CX P w) P w K mg base ["kind"] "plain_text" (defScope s_plain_text) f cdv A outer s H E) (fun c d _ H => E c d H) (b_plain_text cl)) := by
  have tk : Takes (cxOf (L2.CX P w) P w K mg base ["kind"] "plain_text" (defScope s_plain_text) f cdv A outer s H E) (fun c d _ H => E c d H) := takes_of rfl rfl rfl rfl
  have nd := sc_plain_text.nd
  exact (q_seq (q_ifS (qt_cmp (op_eqU (by have z := hu2 hr; exact z)) eqP_v (q_ix (q_var 0) q_int) q_str (nomark _)) (q_last (q_ret (q_ix (q_gc T.c_LETTERS rfl) (q_ix (q_var 0) q_int)))) q_snil)
    (q_seq (q_ifS (qt_cmp (op_eqU (by have z := hu2 hr; exact z)) eqP_v (q_ix (q_var 0) q_int) q_str (nomark _)) (q_last (q_ret (q_gc T.c_UNIT rfl))) q_snil)
    (q_last (q_ret (q_op op_addU addU_v (q_op op_addU addU_v (q_op op_addU addU_v (q_op op_addU addU_v q_str (q_call (C .f_plain_text (fun z => nomatch z)) hr tk rfl (q_cons (q_ix (q_var 0) q_int) q_nil))) (q_ixG T.c_MARKS (q_gd T.c_MARKS rfl) (q_ix (q_var 0) q_int))) (q_call (C .f_plain_text (fun z => nomatch z)) hr tk rfl (q_cons (q_ix (q_var 0) q_int) q_nil))) q_str)))))
theorem ok_kind_text {k : Nat} {cl : Fn → FF} [Wo] (T : Txt K w.params mg) (hW : Wo.ww = w) (C : ∀ g : Fn, g ≠ .f_law → calOf P w K mg base k g (cl g)) (f : Addr) (cdv : Value) (A : Around) (outer : List Env) (s : Shared) (H : Hp) (E : XK) (hr : RoomG k (A.deeper (envOfC "kind_text" (defScope s_kind_text) s.heap.objs.size f cdv))) :
    PSs (cxOf (L2.CX P w) P w K mg base ["kind"] "kind_text" (defScope s_kind_text) f cdv A outer s H E) (defBody s_kind_text) (tS (cxOf (L2.CX P w) P w K mg base ["kind"] "kind_text" (defScope s_kind_text) f cdv A outer s H E) (fun c d _ H => E c d H) (b_kind_text cl)) := by
  have tk : Takes (cxOf (L2.CX P w) P w K mg base ["kind"] "kind_text" (defScope s_kind_text) f cdv A outer s H E) (fun c d _ H => E c d H) := takes_of rfl rfl rfl rfl
  have nd := sc_kind_text.nd
  exact (q_seq (q_expr (q_call (C .f_sure_kind (fun z => nomatch z)) hr tk rfl (q_cons (q_var 0) q_nil)))
    (q_last (q_ret (q_call (C .f_plain_text (fun z => nomatch z)) hr tk rfl (q_cons (q_var 0) q_nil)))))
theorem ok_closed {k : Nat} {cl : Fn → FF} [Wo] (T : Txt K w.params mg) (hW : Wo.ww = w) (C : ∀ g : Fn, g ≠ .f_law → calOf P w K mg base k g (cl g)) (f : Addr) (cdv : Value) (A : Around) (outer : List Env) (s : Shared) (H : Hp) (E : XK) (hr : RoomG k (A.deeper (envOfC "closed" (defScope s_closed) s.heap.objs.size f cdv))) :
    PSs (cxOf (L2.CX P w) P w K mg base ["things"] "closed" (defScope s_closed) f cdv A outer s H E) (defBody s_closed) (tS (cxOf (L2.CX P w) P w K mg base ["things"] "closed" (defScope s_closed) f cdv A outer s H E) (fun c d _ H => E c d H) (b_closed cl)) := by
  have tk : Takes (cxOf (L2.CX P w) P w K mg base ["things"] "closed" (defScope s_closed) f cdv A outer s H E) (fun c d _ H => E c d H) := takes_of rfl rfl rfl rfl
  have nd := sc_closed.nd
  exact (q_seq (q_ifS (PW.pt (qw_or (qt_cmp op_lt (cmp_v _) (q_callB call_len len_v rfl T.m_len PySem.boot_len (q_cons (q_var 0) q_nil)) q_int (nomark _)) (qw_or (qt_cmp (op_neU (by have z := hu2 hr; exact z)) neP_v (q_ix (q_var 0) (q_neg q_int)) q_str (nomark _)) (qw_one (qt_ninMx (hu2 hr) T.c_SIGNS (q_ix (q_var 0) (q_neg q_int)) (q_gd T.c_SIGNS rfl)))))) (q_last (q_raise rfl tk T.x_NoText rfl)) q_snil)
    (q_seq (q_ifS (PW.pt (qw_or (qt_not (qt_tru (q_isi rfl T.m_isinstance rfl T.m_tuple (by decide +kernel) (by decide) (q_ix (q_var 0) (q_neg q_int))))) (qw_one (qt_not (qt_tru (q_isi rfl T.m_isinstance rfl T.m_tuple (by decide +kernel) (by decide) (q_ix (q_var 0) (q_neg q_int)))))))) (q_last (q_raise rfl tk T.x_NoText rfl)) q_snil)
    (q_last (q_ret (q_op op_addU addU_v (q_slice (q_var 0) q_none (q_some (q_neg q_int))) (q_lst (q_cons (q_tup (q_cons (q_ixG T.c_SIGNS (q_gd T.c_SIGNS rfl) (q_ix (q_var 0) (q_neg q_int))) (q_cons (q_ix (q_var 0) (q_neg q_int)) (q_cons (q_ix (q_var 0) (q_neg q_int)) q_nil)))) q_nil)))))))
theorem ok_read_kind {k : Nat} {cl : Fn → FF} [Wo] (T : Txt K w.params mg) (hW : Wo.ww = w) (C : ∀ g : Fn, g ≠ .f_law → calOf P w K mg base k g (cl g)) (f : Addr) (cdv : Value) (A : Around) (outer : List Env) (s : Shared) (H : Hp) (E : XK) (hr : RoomG k (A.deeper (envOfC "read_kind" (defScope s_read_kind) s.heap.objs.size f cdv))) :
    PSs (cxOf (L2.CX P w) P w K mg base ["text", "things", "sign"] "read_kind" (defScope s_read_kind) f cdv A outer s H E) (defBody s_read_kind) (tS (cxOf (L2.CX P w) P w K mg base ["text", "things", "sign"] "read_kind" (defScope s_read_kind) f cdv A outer s H E) (fun c d _ H => E c d H) (b_read_kind cl)) := by
  have tk : Takes (cxOf (L2.CX P w) P w K mg base ["text", "things", "sign"] "read_kind" (defScope s_read_kind) f cdv A outer s H E) (fun c d _ H => E c d H) := takes_of rfl rfl rfl rfl
  have nd := sc_read_kind.nd
  exact (q_seq (q_ifS (qt_not (qt_tru (q_isi rfl T.m_isinstance rfl T.m_str (by decide +kernel) (by decide) (q_var 0)))) (q_last (q_raise rfl tk T.x_NoText rfl)) q_snil)
    (q_seq (q_set (i := 1) nd rfl (by first | exact Or.inl rfl | exact Or.inr rfl) (q_cel q_nil))
    (q_seq (q_for (passes_of rfl) rfl (qi_str (q_var 0)) (q_gn (i := 2) nd rfl (by first | exact Or.inl rfl | exact Or.inr rfl)) (q_last (q_ifS (qt_cmp (op_inU (by have z := hu2 hr; exact z)) inU_v (q_var 2) (q_gc T.c_LETTERS rfl) (by rfl)) (q_last (q_expr (q_mth PySem.F.slot_list_append PySem.F.type_list_append mt_append append_v (q_var 1) (q_cons (q_tup (q_cons q_str (q_cons (q_strIx rfl tk (q_gc T.c_LETTERS rfl) (q_var 2)) q_nil))) q_nil)))) (q_last (q_ifS (qt_cmp (op_eqU (by have z := hu2 hr; exact z)) eqP_v (q_var 2) (q_gc T.c_UNIT rfl) (nomark _)) (q_last (q_expr (q_mth PySem.F.slot_list_append PySem.F.type_list_append mt_append append_v (q_var 1) (q_cons (q_tup (q_cons q_str q_nil)) q_nil)))) (q_last (q_ifS (qt_cmp (op_eqU (by have z := hu2 hr; exact z)) eqP_v (q_var 2) q_str (nomark _)) (q_last (q_set (i := 1) nd rfl (by first | exact Or.inl rfl | exact Or.inr rfl) (q_call (C .f_closed (fun z => nomatch z)) hr tk rfl (q_cons (q_var 1) q_nil)))) (q_last (q_ifS (PW.pt (qw_or (qt_cmp (op_eqU (by have z := hu2 hr; exact z)) eqP_v (q_var 2) q_str (nomark _)) (qw_one (qt_inG T.c_SIGNS (q_var 2) (q_gd T.c_SIGNS rfl))))) (q_last (q_expr (q_mth PySem.F.slot_list_append PySem.F.type_list_append mt_append append_v (q_var 1) (q_cons (q_var 2) q_nil)))) (q_last (q_raise rfl tk T.x_NoText rfl)))))))))))
    (q_seq (q_ifS (PW.pt (qw_or (qt_cmp (op_neU (by have z := hu2 hr; exact z)) neP_v (q_callB call_len len_v rfl T.m_len PySem.boot_len (q_cons (q_var 1) q_nil)) q_int (nomark _)) (qw_one (qt_not (qt_tru (q_isi rfl T.m_isinstance rfl T.m_tuple (by decide +kernel) (by decide) (q_ix (q_var 1) q_int))))))) (q_last (q_raise rfl tk T.x_NoText rfl)) q_snil)
    (q_last (q_ret (q_ix (q_var 1) q_int)))))))
theorem ok__law_cell_at {k : Nat} {cl : Fn → FF} [Wo] (T : Txt K w.params mg) (hW : Wo.ww = w) (C : ∀ g : Fn, g ≠ .f_law → calOf P w K mg base k g (cl g)) (f : Addr) (cdv : Value) (A : Around) (outer : List Env) (s : Shared) (H : Hp) (E : XK) (hr : RoomG k (A.deeper (envOfC "_law_cell_at" (defScope s__law_cell_at) s.heap.objs.size f cdv))) :
    PSs (cxOf (L2.CX P w) P w K mg base ["_law_script", "_law_k"] "_law_cell_at" (defScope s__law_cell_at) f cdv A outer s H E) (defBody s__law_cell_at) (tS (cxOf (L2.CX P w) P w K mg base ["_law_script", "_law_k"] "_law_cell_at" (defScope s__law_cell_at) f cdv A outer s H E) (fun c d _ H => E c d H) (b__law_cell_at cl)) := by
  have tk : Takes (cxOf (L2.CX P w) P w K mg base ["_law_script", "_law_k"] "_law_cell_at" (defScope s__law_cell_at) f cdv A outer s H E) (fun c d _ H => E c d H) := takes_of rfl rfl rfl rfl
  have nd := sc__law_cell_at.nd
  exact (q_seq (q_ifS (qt_cmp op_lt (cmp_v _) (q_var 1) (q_callB call_len len_v rfl T.m_len PySem.boot_len (q_cons (q_var 0) q_nil)) (nomark _)) (q_last (q_ret (q_ix (q_var 0) (q_var 1)))) q_snil)
    (q_last (q_ret q_int)))
theorem ok__law_well {k : Nat} {cl : Fn → FF} [Wo] (T : Txt K w.params mg) (hW : Wo.ww = w) (C : ∀ g : Fn, g ≠ .f_law → calOf P w K mg base k g (cl g)) (f : Addr) (cdv : Value) (A : Around) (outer : List Env) (s : Shared) (H : Hp) (E : XK) (hr : RoomG k (A.deeper (envOfC "_law_well" (defScope s__law_well) s.heap.objs.size f cdv))) :
    PSs (cxOf (L2.CX P w) P w K mg base ["_law_cell"] "_law_well" (defScope s__law_well) f cdv A outer s H E) (defBody s__law_well) (tS (cxOf (L2.CX P w) P w K mg base ["_law_cell"] "_law_well" (defScope s__law_well) f cdv A outer s H E) (fun c d _ H => E c d H) (b__law_well cl)) := by
  have tk : Takes (cxOf (L2.CX P w) P w K mg base ["_law_cell"] "_law_well" (defScope s__law_well) f cdv A outer s H E) (fun c d _ H => E c d H) := takes_of rfl rfl rfl rfl
  have nd := sc__law_well.nd
  exact (q_last (q_ret (q_cel (q_cons (q_op op_mulU mulU_v (q_var 0) (q_callTy call_int1 int_v rfl T.m_int (by decide +kernel) (q_cons (q_cmp op_ge (cmp_v _) (q_var 0) (q_op op_pow pow_v q_int q_int) (nomark _)) q_nil))) (q_cons (q_op op_mod mod_v (q_var 0) q_int) (q_cons q_int q_nil))))))
theorem ok__law_draw {k : Nat} {cl : Fn → FF} [Wo] (T : Txt K w.params mg) (hW : Wo.ww = w) (C : ∀ g : Fn, g ≠ .f_law → calOf P w K mg base k g (cl g)) (f : Addr) (cdv : Value) (A : Around) (outer : List Env) (s : Shared) (H : Hp) (E : XK) (hr : RoomG k (A.deeper (envOfC "_law_draw" (defScope s__law_draw) s.heap.objs.size f cdv))) :
    PSs (cxOf (L2.CX P w) P w K mg base ["_law_well_here", "_law_below", "_law_number", "_law_found"] "_law_draw" (defScope s__law_draw) f cdv A outer s H E) (defBody s__law_draw) (tS (cxOf (L2.CX P w) P w K mg base ["_law_well_here", "_law_below", "_law_number", "_law_found"] "_law_draw" (defScope s__law_draw) f cdv A outer s H E) (fun c d _ H => E c d H) (b__law_draw cl)) := by
  have tk : Takes (cxOf (L2.CX P w) P w K mg base ["_law_well_here", "_law_below", "_law_number", "_law_found"] "_law_draw" (defScope s__law_draw) f cdv A outer s H E) (fun c d _ H => E c d H) := takes_of rfl rfl rfl rfl
  have nd := sc__law_draw.nd
  exact (q_seq (q_ifS (qt_cmp op_gt (cmp_v _) (q_ix (q_var 0) q_int) q_int (nomark _)) (q_seq (q_set (i := 3) nd rfl (by first | exact Or.inl rfl | exact Or.inr rfl) (q_op op_mod mod_v (q_ix (q_var 0) q_int) (q_var 1)))
    (q_seq (q_asg (q_op op_fdivW div_v (q_ix (q_var 0) q_int) (q_var 1)) (q_gsb (W := W0) (q_var 0) q_int))
    (q_last (q_ret (q_var 3))))) q_snil)
    (q_seq (q_asg (q_op op_addU addU_v (q_ix (q_var 0) q_int) q_int) (q_gsb (W := W0) (q_var 0) q_int))
    (q_seq (q_set (i := 2) nd rfl (by first | exact Or.inl rfl | exact Or.inr rfl) (q_op op_mod mod_v (q_op op_mulU mulU_v (q_op op_addU addU_v (q_op op_addU addU_v (q_ix (q_var 0) q_int) (q_op op_mulU mulU_v q_int (q_ix (q_var 0) q_int))) q_int) q_int) q_int))
    (q_seq (q_set (i := 2) nd rfl (by first | exact Or.inl rfl | exact Or.inr rfl) (q_op op_mod mod_v (q_op op_mulU mulU_v (q_var 2) (q_op op_addU addU_v (q_op op_addU addU_v (q_op op_fdivW div_v (q_var 2) q_int) q_int) (q_ix (q_var 0) q_int))) q_int))
    (q_last (q_ret (q_op op_mod mod_v (q_op op_fdivW div_v (q_op op_mod mod_v (q_op op_mulU mulU_v (q_var 2) (q_op op_addU addU_v (q_op op_fdivW div_v (q_var 2) q_int) q_int)) q_int) q_int) (q_var 1))))))))
theorem ok__law_one {k : Nat} {cl : Fn → FF} [Wo] (T : Txt K w.params mg) (hW : Wo.ww = w) (C : ∀ g : Fn, g ≠ .f_law → calOf P w K mg base k g (cl g)) (f : Addr) (cdv : Value) (A : Around) (outer : List Env) (s : Shared) (H : Hp) (E : XK) (hr : RoomG k (A.deeper (envOfC "_law_one" (defScope s__law_one) s.heap.objs.size f cdv))) :
    PSs (cxOf (L2.CX P w) P w K mg base ["_law_well_here", "_law_some"] "_law_one" (defScope s__law_one) f cdv A outer s H E) (defBody s__law_one) (tS (cxOf (L2.CX P w) P w K mg base ["_law_well_here", "_law_some"] "_law_one" (defScope s__law_one) f cdv A outer s H E) (fun c d _ H => E c d H) (b__law_one cl)) := by
  have tk : Takes (cxOf (L2.CX P w) P w K mg base ["_law_well_here", "_law_some"] "_law_one" (defScope s__law_one) f cdv A outer s H E) (fun c d _ H => E c d H) := takes_of rfl rfl rfl rfl
  have nd := sc__law_one.nd
  exact (q_last (q_ret (q_ix (q_var 1) (q_call (C .f__law_draw (fun z => nomatch z)) hr tk rfl (q_cons (q_var 0) (q_cons (q_callB call_len len_v rfl T.m_len PySem.boot_len (q_cons (q_var 1) q_nil)) q_nil))))))
theorem ok__law_kind {k : Nat} {cl : Fn → FF} [Wo] (T : Txt K w.params mg) (hW : Wo.ww = w) (C : ∀ g : Fn, g ≠ .f_law → calOf P w K mg base k g (cl g)) (f : Addr) (cdv : Value) (A : Around) (outer : List Env) (s : Shared) (H : Hp) (E : XK) (hr : RoomG k (A.deeper (envOfC "_law_kind" (defScope s__law_kind) s.heap.objs.size f cdv))) :
    PSs (cxOf (L2.CX P w) P w K mg base ["_law_well_here", "_law_leaves", "_law_first", "_law_word"] "_law_kind" (defScope s__law_kind) f cdv A outer s H E) (defBody s__law_kind) (tS (cxOf (L2.CX P w) P w K mg base ["_law_well_here", "_law_leaves", "_law_first", "_law_word"] "_law_kind" (defScope s__law_kind) f cdv A outer s H E) (fun c d _ H => E c d H) (b__law_kind cl)) := by
  have tk : Takes (cxOf (L2.CX P w) P w K mg base ["_law_well_here", "_law_leaves", "_law_first", "_law_word"] "_law_kind" (defScope s__law_kind) f cdv A outer s H E) (fun c d _ H => E c d H) := takes_of rfl rfl rfl rfl
  have nd := sc__law_kind.nd
  exact (q_seq (q_ifS (qt_cmp op_lt (cmp_v _) (q_var 1) q_int (nomark _)) (q_last (q_ret (q_call (C .f__law_one (fun z => nomatch z)) hr tk rfl (q_cons (q_var 0) (q_cons (q_lst (q_cons (q_tup (q_cons q_str (q_cons (q_call (C .f__law_draw (fun z => nomatch z)) hr tk rfl (q_cons (q_var 0) (q_cons q_int q_nil))) q_nil))) (q_cons (q_tup (q_cons q_str (q_cons (q_call (C .f__law_draw (fun z => nomatch z)) hr tk rfl (q_cons (q_var 0) (q_cons q_int q_nil))) q_nil))) (q_cons (q_tup (q_cons q_str (q_cons q_int q_nil))) (q_cons (q_tup (q_cons q_str q_nil)) q_nil))))) q_nil))))) q_snil)
    (q_seq (q_set (i := 2) nd rfl (by first | exact Or.inl rfl | exact Or.inr rfl) (q_op op_addU addU_v q_int (q_call (C .f__law_draw (fun z => nomatch z)) hr tk rfl (q_cons (q_var 0) (q_cons (q_op op_sub sub_v (q_var 1) q_int) q_nil)))))
    (q_seq (q_set (i := 3) nd rfl (by first | exact Or.inl rfl | exact Or.inr rfl) (q_call (C .f__law_one (fun z => nomatch z)) hr tk rfl (q_cons (q_var 0) (q_cons (q_lst (q_cons q_str (q_cons q_str q_nil))) q_nil))))
    (q_last (q_ret (q_tup (q_cons (q_var 3) (q_cons (q_call (C .f__law_kind (fun z => nomatch z)) hr tk rfl (q_cons (q_var 0) (q_cons (q_var 2) q_nil))) (q_cons (q_call (C .f__law_kind (fun z => nomatch z)) hr tk rfl (q_cons (q_var 0) (q_cons (q_op op_sub sub_v (q_var 1) (q_var 2)) q_nil))) q_nil)))))))))
theorem ok__law_kind_in {k : Nat} {cl : Fn → FF} [Wo] (T : Txt K w.params mg) (hW : Wo.ww = w) (C : ∀ g : Fn, g ≠ .f_law → calOf P w K mg base k g (cl g)) (f : Addr) (cdv : Value) (A : Around) (outer : List Env) (s : Shared) (H : Hp) (E : XK) (hr : RoomG k (A.deeper (envOfC "_law_kind_in" (defScope s__law_kind_in) s.heap.objs.size f cdv))) :
    PSs (cxOf (L2.CX P w) P w K mg base ["_law_text", "_law_row", "_law_sign", "_law_last"] "_law_kind_in" (defScope s__law_kind_in) f cdv A outer s H E) (defBody s__law_kind_in) (tS (cxOf (L2.CX P w) P w K mg base ["_law_text", "_law_row", "_law_sign", "_law_last"] "_law_kind_in" (defScope s__law_kind_in) f cdv A outer s H E) (fun c d _ H => E c d H) (b__law_kind_in cl)) := by
  have tk : Takes (cxOf (L2.CX P w) P w K mg base ["_law_text", "_law_row", "_law_sign", "_law_last"] "_law_kind_in" (defScope s__law_kind_in) f cdv A outer s H E) (fun c d _ H => E c d H) := takes_of rfl rfl rfl rfl
  have nd := sc__law_kind_in.nd
  exact (q_seq (q_set (i := 1) nd rfl (by first | exact Or.inl rfl | exact Or.inr rfl) (q_cel q_nil))
    (q_seq (q_for (passes_of rfl) rfl (qi_str (q_var 0)) (q_gn (i := 2) nd rfl (by first | exact Or.inl rfl | exact Or.inr rfl)) (q_seq (q_expr (q_mth PySem.F.slot_list_append PySem.F.type_list_append mt_append append_v (q_var 1) (q_cons (q_var 2) q_nil)))
    (q_last (q_ifS (qt_cmp (op_eqU (by have z := hu2 hr; exact z)) eqP_v (q_var 2) q_str (nomark _)) (q_last (q_asg (q_tup (q_cons q_str q_nil)) (q_gsb (W := W0) (q_var 1) (q_neg q_int)))) (q_last (q_ifS (qt_cmp (op_inU (by have z := hu2 hr; exact z)) inU_v (q_var 2) q_str (by rfl)) (q_last (q_asg (q_tup (q_cons q_str (q_cons (q_strIx rfl tk q_str (q_var 2)) q_nil))) (q_gsb (W := W0) (q_var 1) (q_neg q_int)))) (q_last (q_ifS (qt_cmp (op_eqU (by have z := hu2 hr; exact z)) eqP_v (q_var 2) q_str (nomark _)) (q_seq (q_set (i := 3) nd rfl (by first | exact Or.inl rfl | exact Or.inr rfl) (q_slice (q_var 1) (q_some (q_neg q_int)) q_none))
    (q_seq (q_ifS (PW.pt (qw_or (qt_cmp op_lt (cmp_v _) (q_callB call_len len_v rfl T.m_len PySem.boot_len (q_cons (q_var 3) q_nil)) q_int (nomark _)) (qw_or (qt_cmp (op_neU (by have z := hu2 hr; exact z)) neP_v (q_ix (q_var 3) q_int) q_str (nomark _)) (qw_one (qt_cmp (op_notInU (by have z := hu2 hr; exact z)) inU_v (q_ix (q_var 3) q_int) (q_lst (q_cons q_str (q_cons q_str q_nil))) (by rfl)))))) (q_last (q_ret q_non)) q_snil)
    (q_seq (q_ifS (PW.pt (qw_or (qt_tru (q_isi rfl T.m_isinstance rfl T.m_str (by decide +kernel) (by decide) (q_ix (q_var 3) q_int))) (qw_one (qt_tru (q_isi rfl T.m_isinstance rfl T.m_str (by decide +kernel) (by decide) (q_ix (q_var 3) q_int)))))) (q_last (q_ret q_non)) q_snil)
    (q_last (q_set (i := 1) nd rfl (by first | exact Or.inl rfl | exact Or.inr rfl) (q_op op_addU addU_v (q_slice (q_var 1) q_none (q_some (q_neg q_int))) (q_lst (q_cons (q_tup (q_cons (q_ix (q_lst (q_cons q_str (q_cons q_str q_nil))) (q_callTy call_int1 int_v rfl T.m_int (by decide +kernel) (q_cons (q_cmp (op_eqU (by have z := hu2 hr; exact z)) eqP_v (q_ix (q_var 3) q_int) q_str (nomark _)) q_nil))) (q_cons (q_ix (q_var 3) q_int) (q_cons (q_ix (q_var 3) q_int) q_nil)))) q_nil)))))))) (q_last (q_ifS (qt_cmp (op_notInU (by have z := hu2 hr; exact z)) inU_v (q_var 2) q_str (by rfl)) (q_last (q_ret q_non)) q_snil))))))))))
    (q_seq (q_ifS (PW.pt (qw_or (qt_cmp (op_neU (by have z := hu2 hr; exact z)) neP_v (q_callB call_len len_v rfl T.m_len PySem.boot_len (q_cons (q_var 1) q_nil)) q_int (nomark _)) (qw_one (qt_tru (q_isi rfl T.m_isinstance rfl T.m_str (by decide +kernel) (by decide) (q_ix (q_var 1) q_int)))))) (q_last (q_ret q_non)) q_snil)
    (q_last (q_ret (q_ix (q_var 1) q_int))))))
theorem ok__law_spoilt {k : Nat} {cl : Fn → FF} [Wo] (T : Txt K w.params mg) (hW : Wo.ww = w) (C : ∀ g : Fn, g ≠ .f_law → calOf P w K mg base k g (cl g)) (f : Addr) (cdv : Value) (A : Around) (outer : List Env) (s : Shared) (H : Hp) (E : XK) (hr : RoomG k (A.deeper (envOfC "_law_spoilt" (defScope s__law_spoilt) s.heap.objs.size f cdv))) :
    PSs (cxOf (L2.CX P w) P w K mg base ["_law_well_here", "_law_text", "_law_at", "_law_to", "_law_sign", "_law_way"] "_law_spoilt" (defScope s__law_spoilt) f cdv A outer s H E) (defBody s__law_spoilt) (tS (cxOf (L2.CX P w) P w K mg base ["_law_well_here", "_law_text", "_law_at", "_law_to", "_law_sign", "_law_way"] "_law_spoilt" (defScope s__law_spoilt) f cdv A outer s H E) (fun c d _ H => E c d H) (b__law_spoilt cl)) := by
  have tk : Takes (cxOf (L2.CX P w) P w K mg base ["_law_well_here", "_law_text", "_law_at", "_law_to", "_law_sign", "_law_way"] "_law_spoilt" (defScope s__law_spoilt) f cdv A outer s H E) (fun c d _ H => E c d H) := takes_of rfl rfl rfl rfl
  have nd := sc__law_spoilt.nd
  exact (q_seq (q_set (i := 2) nd rfl (by first | exact Or.inl rfl | exact Or.inr rfl) (q_call (C .f__law_draw (fun z => nomatch z)) hr tk rfl (q_cons (q_var 0) (q_cons (q_op op_addU addU_v (q_callB call_len len_v rfl T.m_len PySem.boot_len (q_cons (q_var 1) q_nil)) q_int) q_nil))))
    (q_seq (q_set (i := 3) nd rfl (by first | exact Or.inl rfl | exact Or.inr rfl) (q_call (C .f__law_draw (fun z => nomatch z)) hr tk rfl (q_cons (q_var 0) (q_cons (q_op op_addU addU_v (q_callB call_len len_v rfl T.m_len PySem.boot_len (q_cons (q_var 1) q_nil)) q_int) q_nil))))
    (q_seq (q_set (i := 4) nd rfl (by first | exact Or.inl rfl | exact Or.inr rfl) (q_call (C .f__law_one (fun z => nomatch z)) hr tk rfl (q_cons (q_var 0) (q_cons (q_lst (q_cons q_str (q_cons q_str (q_cons q_str (q_cons q_str (q_cons q_str (q_cons q_str (q_cons q_str (q_cons q_str (q_cons q_str (q_cons q_str (q_cons q_str (q_cons q_str (q_cons q_str (q_cons q_str (q_cons q_str (q_cons q_str (q_cons q_str q_nil)))))))))))))))))) q_nil))))
    (q_seq (q_set (i := 5) nd rfl (by first | exact Or.inl rfl | exact Or.inr rfl) (q_call (C .f__law_draw (fun z => nomatch z)) hr tk rfl (q_cons (q_var 0) (q_cons q_int q_nil))))
    (q_seq (q_ifS (qt_cmp (op_eqU (by have z := hu2 hr; exact z)) eqP_v (q_var 5) q_int (nomark _)) (q_last (q_ret (q_op op_addU addU_v (q_slice (q_var 1) q_none (q_some (q_var 2))) (q_slice (q_var 1) (q_some (q_op op_addU addU_v (q_var 2) q_int)) q_none)))) q_snil)
    (q_seq (q_ifS (qt_cmp (op_eqU (by have z := hu2 hr; exact z)) eqP_v (q_var 5) q_int (nomark _)) (q_last (q_ret (q_op op_addU addU_v (q_op op_addU addU_v (q_slice (q_var 1) q_none (q_some (q_var 2))) (q_op op_mulU mulU_v (q_slice (q_var 1) (q_some (q_var 2)) (q_some (q_op op_addU addU_v (q_var 2) q_int))) q_int)) (q_slice (q_var 1) (q_some (q_op op_addU addU_v (q_var 2) q_int)) q_none)))) q_snil)
    (q_seq (q_ifS (qt_cmp (op_eqU (by have z := hu2 hr; exact z)) eqP_v (q_var 5) q_int (nomark _)) (q_last (q_ret (q_op op_addU addU_v (q_op op_addU addU_v (q_slice (q_var 1) q_none (q_some (q_var 2))) (q_var 4)) (q_slice (q_var 1) (q_some (q_op op_addU addU_v (q_var 2) q_int)) q_none)))) q_snil)
    (q_seq (q_ifS (qt_cmp (op_eqU (by have z := hu2 hr; exact z)) eqP_v (q_var 5) q_int (nomark _)) (q_last (q_ret (q_op op_addU addU_v (q_op op_addU addU_v (q_slice (q_var 1) q_none (q_some (q_var 2))) (q_var 4)) (q_slice (q_var 1) (q_some (q_var 2)) q_none)))) q_snil)
    (q_seq (q_ifS (qt_cmp (op_eqU (by have z := hu2 hr; exact z)) eqP_v (q_var 5) q_int (nomark _)) (q_last (q_ret (q_op op_addU addU_v (q_op op_addU addU_v (q_slice (q_var 1) q_none (q_some (q_var 2))) (q_turn (q_slice (q_var 1) (q_some (q_var 2)) (q_some (q_op op_addU addU_v (q_var 2) q_int))))) (q_slice (q_var 1) (q_some (q_op op_addU addU_v (q_var 2) q_int)) q_none)))) q_snil)
    (q_seq (q_ifS (qt_cmp (op_eqU (by have z := hu2 hr; exact z)) eqP_v (q_var 5) q_int (nomark _)) (q_last (q_ret (q_op op_addU addU_v (q_slice (q_var 1) q_none (q_some (q_callB (call_min2 rfl) min_v rfl T.m_min (by decide +kernel) (q_cons (q_var 2) (q_cons (q_var 3) q_nil))))) (q_slice (q_var 1) (q_some (q_callB (call_max2 rfl) max_v rfl T.m_max (by decide +kernel) (q_cons (q_var 2) (q_cons (q_var 3) q_nil)))) q_none)))) q_snil)
    (q_seq (q_ifS (qt_cmp (op_eqU (by have z := hu2 hr; exact z)) eqP_v (q_var 5) q_int (nomark _)) (q_last (q_ret (q_op op_addU addU_v (q_op op_addU addU_v (q_op op_addU addU_v (q_op op_addU addU_v q_str (q_var 1)) (q_call (C .f__law_one (fun z => nomatch z)) hr tk rfl (q_cons (q_var 0) (q_cons (q_lst (q_cons q_str (q_cons q_str (q_cons q_str q_nil)))) q_nil)))) (q_var 1)) q_str))) q_snil)
    (q_last (q_ret (q_op op_addU addU_v (q_slice (q_var 1) (q_some (q_var 2)) q_none) (q_slice (q_var 1) q_none (q_some (q_var 2)))))))))))))))))
theorem ok__law_read {k : Nat} {cl : Fn → FF} [Wo] (T : Txt K w.params mg) (hW : Wo.ww = w) (C : ∀ g : Fn, g ≠ .f_law → calOf P w K mg base k g (cl g)) (f : Addr) (cdv : Value) (A : Around) (outer : List Env) (s : Shared) (H : Hp) (E : XK) (hr : RoomG k (A.deeper (envOfC "_law_read" (defScope s__law_read) s.heap.objs.size f cdv))) :
    PSs (cxOf (L2.CX P w) P w K mg base ["_law_text", "e"] "_law_read" (defScope s__law_read) f cdv A outer s H E) (defBody s__law_read) (tS (cxOf (L2.CX P w) P w K mg base ["_law_text", "e"] "_law_read" (defScope s__law_read) f cdv A outer s H E) (fun c d _ H => E c d H) (b__law_read cl)) := by
  have tk : Takes (cxOf (L2.CX P w) P w K mg base ["_law_text", "e"] "_law_read" (defScope s__law_read) f cdv A outer s H E) (fun c d _ H => E c d H) := takes_of rfl rfl rfl rfl
  have nd := sc__law_read.nd
  exact (q_last (q_tryC rfl rfl nd tk T.xk (fun W' pn xe tk' po' => (q_last (q_ret (q_call (C .f_read_kind (fun z => nomatch z)) hr tk' rfl (q_cons (q_var 0) q_nil))))) (ClsF.named T.c_NoText rfl rfl rfl (fun y hy a oe pn C hyC hz hfz => (q_last (q_ret (q_ix (q_lst (q_cons q_str (q_cons q_str q_nil))) (q_callTy call_int1 int_v rfl T.m_int (by decide +kernel) (q_cons (q_and (q_isEB (T := "ValueError") (T.xk y hy) hyC (T.i_ValueError y hy) hz hfz rfl T.m_isinstance rfl T.m_ValueError (by decide +kernel) (q_var 1)) (q_one (q_not (q_isET (T.xk y hy) hyC (T.i_NoForm y hy) (T.i_NoKind y hy) hz hfz rfl T.m_isinstance rfl rfl (q_var 1))))) q_nil)))))) (ClsF.plain T.c_SwapError rfl (fun y hy a oe pn C hyC hz hfz => (q_last (q_ret q_str))) ClsF.nil))))
theorem ok__law_right {k : Nat} {cl : Fn → FF} [Wo] (T : Txt K w.params mg) (hW : Wo.ww = w) (C : ∀ g : Fn, g ≠ .f_law → calOf P w K mg base k g (cl g)) (f : Addr) (cdv : Value) (A : Around) (outer : List Env) (s : Shared) (H : Hp) (E : XK) (hr : RoomG k (A.deeper (envOfC "_law_right" (defScope s__law_right) s.heap.objs.size f cdv))) :
    PSs (cxOf (L2.CX P w) P w K mg base ["_law_well_here", "_law_text", "_law_turn", "_law_some", "_law_one_here", "_law_odd", "_law_due", "_law_found", "_law_k"] "_law_right" (defScope s__law_right) f cdv A outer s H E) (defBody s__law_right) (tS (cxOf (L2.CX P w) P w K mg base ["_law_well_here", "_law_text", "_law_turn", "_law_some", "_law_one_here", "_law_odd", "_law_due", "_law_found", "_law_k"] "_law_right" (defScope s__law_right) f cdv A outer s H E) (fun c d _ H => E c d H) (b__law_right cl)) := by
  have tk : Takes (cxOf (L2.CX P w) P w K mg base ["_law_well_here", "_law_text", "_law_turn", "_law_some", "_law_one_here", "_law_odd", "_law_due", "_law_found", "_law_k"] "_law_right" (defScope s__law_right) f cdv A outer s H E) (fun c d _ H => E c d H) := takes_of rfl rfl rfl rfl
  have nd := sc__law_right.nd
  exact (q_seq (q_set (i := 1) nd rfl (by first | exact Or.inl rfl | exact Or.inr rfl) (q_call (C .f_kind_text (fun z => nomatch z)) hr tk rfl (q_cons (q_call (C .f__law_kind (fun z => nomatch z)) hr tk rfl (q_cons (q_var 0) (q_cons (q_op op_addU addU_v q_int (q_call (C .f__law_draw (fun z => nomatch z)) hr tk rfl (q_cons (q_var 0) (q_cons q_int q_nil)))) q_nil))) q_nil)))
    (q_seq (q_for (passes_of rfl) rfl (qi_range1 rfl T.m_range (q_cons (q_call (C .f__law_draw (fun z => nomatch z)) hr tk rfl (q_cons (q_var 0) (q_cons q_int q_nil))) q_nil)) (q_gn (i := 2) nd rfl (by first | exact Or.inl rfl | exact Or.inr rfl)) (q_last (q_set (i := 1) nd rfl (by first | exact Or.inl rfl | exact Or.inr rfl) (q_call (C .f__law_spoilt (fun z => nomatch z)) hr tk rfl (q_cons (q_var 0) (q_cons (q_var 1) q_nil))))))
    (q_seq (q_set (i := 3) nd rfl (by first | exact Or.inl rfl | exact Or.inr rfl) (q_cel (q_cons (q_var 1) (q_cons (q_smth PySem.F.slot_str_join PySem.F.type_str_join mt_join join_v q_str (q_cons (q_lc (own := [("_law_k", 8)]) rfl nd (qi_range1 rfl T.m_range (q_cons (q_call (C .f__law_draw (fun z => nomatch z)) hr tk rfl (q_cons (q_var 0) (q_cons q_int q_nil))) q_nil)) (blkOk_by (own := [("_law_k", 8)]) (by rfl)) (by decide) (fun _ _ _ _ _ => (q_gn (i := 8) nd rfl (by first | exact Or.inl rfl | exact Or.inr rfl))) (fun _ _ _ _ _ => qts_nil) (fun _ _ _ _ _ => (q_call (C .f__law_one (fun z => nomatch z)) hr takes0 rfl (q_cons (q_var 0) (q_cons (q_lst (q_cons q_str (q_cons q_str (q_cons q_str (q_cons q_str (q_cons q_str (q_cons q_str (q_cons q_str q_nil)))))))) q_nil))))) q_nil)) q_nil))))
    (q_seq (q_expr (q_mth PySem.F.slot_list_append PySem.F.type_list_append mt_append append_v (q_var 3) (q_cons (q_op op_mulU mulU_v (q_call (C .f__law_one (fun z => nomatch z)) hr tk rfl (q_cons (q_var 0) (q_cons (q_lst (q_cons q_str (q_cons q_str (q_cons q_str (q_cons q_str q_nil))))) q_nil))) (q_op op_addU addU_v q_int (q_call (C .f__law_draw (fun z => nomatch z)) hr tk rfl (q_cons (q_var 0) (q_cons q_int q_nil))))) q_nil)))
    (q_seq (q_for (passes_of rfl) rfl (qi_list (q_var 3)) (q_gn (i := 4) nd rfl (by first | exact Or.inl rfl | exact Or.inr rfl)) (q_seq (q_set (i := 6) nd rfl (by first | exact Or.inl rfl | exact Or.inr rfl) (q_call (C .f__law_kind_in (fun z => nomatch z)) hr tk rfl (q_cons (q_var 4) q_nil)))
    (q_last (q_for (passes_of rfl) rfl (qi_range1 rfl T.m_range (q_cons q_int q_nil)) (q_gn (i := 2) nd rfl (by first | exact Or.inl rfl | exact Or.inr rfl)) (q_seq (q_set (i := 7) nd rfl (by first | exact Or.inl rfl | exact Or.inr rfl) (q_call (C .f__law_read (fun z => nomatch z)) hr tk rfl (q_cons (q_var 4) q_nil)))
    (q_last (q_ifS (PW.pt (qw_or (PW.pt (qw_and (qt_cmp op_isU isU_v (q_var 6) q_non (nomark _)) (qw_one (qt_cmp (op_neU (by have z := hu2 hr; exact z)) neP_v (q_var 7) q_str (nomark _))))) (qw_one (PW.pt (qw_and (qt_cmp op_isNotU isU_v (q_var 6) q_non (nomark _)) (qw_one (PW.pt (qw_or (qt_cmp (op_neU (by have z := hu2 hr; exact z)) neP_v (q_var 7) (q_var 6) (nomark _)) (qw_one (qt_cmp (op_neU (by have z := hu2 hr; exact z)) neP_v (q_call (C .f_kind_text (fun z => nomatch z)) hr tk rfl (q_cons (q_var 7) q_nil)) (q_var 4) (nomark _))))))))))) (q_last (q_ret q_bl)) q_snil)))))))
    (q_seq (q_set (i := 5) nd rfl (by first | exact Or.inl rfl | exact Or.inr rfl) (q_call (C .f__law_one (fun z => nomatch z)) hr tk rfl (q_cons (q_var 0) (q_cons (q_lst (q_cons q_non (q_cons q_int (q_cons (q_lst (q_cons (q_var 1) q_nil)) (q_cons (q_tup (q_cons (q_var 1) q_nil)) (q_cons q_bl (q_cons (q_tup (q_cons q_str (q_cons q_int q_nil))) (q_cons q_dic0 q_nil)))))))) q_nil))))
    (q_last (q_ret (q_and (q_cmp (op_eqU (by have z := hu2 hr; exact z)) eqP_v (q_call (C .f__law_read (fun z => nomatch z)) hr tk rfl (q_cons (q_var 5) q_nil)) q_str (nomark _)) (q_one (q_cmp (op_eqU (by have z := hu2 hr; exact z)) eqP_v (q_call (C .f__law_read (fun z => nomatch z)) hr tk rfl (q_cons q_str q_nil)) q_str (nomark _))))))))))))
theorem ok_law {k : Nat} {cl : Fn → FF} [Wo] (T : Txt K w.params mg) (hW : Wo.ww = w) (C : ∀ g : Fn, g ≠ .f_law → calOf P w K mg base k g (cl g)) (f : Addr) (cdv : Value) (A : Around) (outer : List Env) (s : Shared) (H : Hp) (E : XK) (hr : RoomG k (A.deeper (envOfC "law" (defScope s_law) s.heap.objs.size f cdv))) :
    PSs (cxOf (L2.CX P w) P w K mg base ["_law_script", "_law_cell"] "law" (defScope s_law) f cdv A outer s H E) (defBody s_law) (tS (cxOf (L2.CX P w) P w K mg base ["_law_script", "_law_cell"] "law" (defScope s_law) f cdv A outer s H E) (fun c d _ H => E c d H) (b_law cl)) := by
  have tk : Takes (cxOf (L2.CX P w) P w K mg base ["_law_script", "_law_cell"] "law" (defScope s_law) f cdv A outer s H E) (fun c d _ H => E c d H) := takes_of rfl rfl rfl rfl
  have nd := sc_law.nd
  exact (q_seq (q_for (passes_of rfl) rfl (qi_list (q_op op_addU addU_v (q_lst (q_cons (q_call (C .f__law_cell_at (fun z => nomatch z)) hr tk rfl (q_cons (q_var 0) (q_cons q_int q_nil))) q_nil)) (q_slice (q_var 0) (q_some q_int) (q_some q_int)))) (q_gn (i := 1) nd rfl (by first | exact Or.inl rfl | exact Or.inr rfl)) (q_last (q_ifS (qt_not (qt_tru (q_call (C .f__law_right (fun z => nomatch z)) hr tk rfl (q_cons (q_call (C .f__law_well (fun z => nomatch z)) hr tk rfl (q_cons (q_var 1) q_nil)) q_nil)))) (q_last (q_ret q_bl)) q_snil)))
    (q_last (q_ret q_bl)))
theorem all_ok [Wo] (T : Txt K w.params mg) (hW : Wo.ww = w) : ∀ (n : Nat) (g : Fn), g ≠ .f_law → calOf P w K mg base n g (ev n g)
  | 0, .f_is_from, _ => cal_zero T.t_is_from
  | 0, .f_inner_of, _ => cal_zero T.t_inner_of
  | 0, .f_is_kind, _ => cal_zero T.t_is_kind
  | 0, .f_sure_kind, _ => cal_zero T.t_sure_kind
  | 0, .f_plain_text, _ => cal_zero T.t_plain_text
  | 0, .f_kind_text, _ => cal_zero T.t_kind_text
  | 0, .f_closed, _ => cal_zero T.t_closed
  | 0, .f_read_kind, _ => cal_zero T.t_read_kind
  | 0, .f__law_cell_at, _ => cal_zero T.t__law_cell_at
  | 0, .f__law_well, _ => cal_zero T.t__law_well
  | 0, .f__law_draw, _ => cal_zero T.t__law_draw
  | 0, .f__law_one, _ => cal_zero T.t__law_one
  | 0, .f__law_kind, _ => cal_zero T.t__law_kind
  | 0, .f__law_kind_in, _ => cal_zero T.t__law_kind_in
  | 0, .f__law_spoilt, _ => cal_zero T.t__law_spoilt
  | 0, .f__law_read, _ => cal_zero T.t__law_read
  | 0, .f__law_right, _ => cal_zero T.t__law_right
  | n + 1, .f_is_from, _ => calB T.t_is_from sc_is_from (ok_is_from T hW (all_ok T hW n))
  | n + 1, .f_inner_of, _ => calB T.t_inner_of sc_inner_of (ok_inner_of T hW (all_ok T hW n))
  | n + 1, .f_is_kind, _ => calC T.t_is_kind sc_is_kind (ok_is_kind T hW (all_ok T hW n))
  | n + 1, .f_sure_kind, _ => calB T.t_sure_kind sc_sure_kind (ok_sure_kind T hW (all_ok T hW n))
  | n + 1, .f_plain_text, _ => calB T.t_plain_text sc_plain_text (ok_plain_text T hW (all_ok T hW n))
  | n + 1, .f_kind_text, _ => calB T.t_kind_text sc_kind_text (ok_kind_text T hW (all_ok T hW n))
  | n + 1, .f_closed, _ => calB T.t_closed sc_closed (ok_closed T hW (all_ok T hW n))
  | n + 1, .f_read_kind, _ => calC T.t_read_kind sc_read_kind (ok_read_kind T hW (all_ok T hW n))
  | n + 1, .f__law_cell_at, _ => calB T.t__law_cell_at sc__law_cell_at (ok__law_cell_at T hW (all_ok T hW n))
  | n + 1, .f__law_well, _ => calB T.t__law_well sc__law_well (ok__law_well T hW (all_ok T hW n))
  | n + 1, .f__law_draw, _ => calB T.t__law_draw sc__law_draw (ok__law_draw T hW (all_ok T hW n))
  | n + 1, .f__law_one, _ => calB T.t__law_one sc__law_one (ok__law_one T hW (all_ok T hW n))
  | n + 1, .f__law_kind, _ => calB T.t__law_kind sc__law_kind (ok__law_kind T hW (all_ok T hW n))
  | n + 1, .f__law_kind_in, _ => calC T.t__law_kind_in sc__law_kind_in (ok__law_kind_in T hW (all_ok T hW n))
  | n + 1, .f__law_spoilt, _ => calB T.t__law_spoilt sc__law_spoilt (ok__law_spoilt T hW (all_ok T hW n))
  | n + 1, .f__law_read, _ => calB T.t__law_read sc__law_read (ok__law_read T hW (all_ok T hW n))
  | n + 1, .f__law_right, _ => calC T.t__law_right sc__law_right (ok__law_right T hW (all_ok T hW n))
  | _, .f_law, h => absurd rfl h
end
end Kz
namespace Kz
open PySem PySem.Spec PyProof.Rows L2 Kw
theorem up {n d : Nat} (h : d + 1 ≤ n) : ∃ m, n = m + 1 ∧ d ≤ m := ⟨n - 1, by omega, by omega⟩
theorem is_from_int {n : Nat} {i lo hi : Int} {S : Store} (h : 1 ≤ n) : ev n .f_is_from [.int i, .int lo, .int hi] S = .ok (.bl (decide (lo ≤ i) && decide (i ≤ hi))) S := by
  obtain ⟨m, rfl, h'⟩ := up h
  rw [ev, b_is_from]
  simp
  by_cases h : lo ≤ i <;> simp [h]
mutual
/-- data whose sort is known, whose texts are good; no cells -/
def pl : D → Bool
  | .non | .bl _ | .int _ | .fls _ | .lst _ | .dic _ _ => true
  | .str s => PyData.strOk s
  | .tup ds => plL ds
  | _ => false
def plL : List D → Bool
  | [] => true
  | d :: ds => pl d && plL ds
end
abbrev lay (d : D) : Prop := pl d = true
abbrev layL (ds : List D) : Prop := plL ds = true
theorem layL_nil : layL [] := rfl
theorem layL_cons {d : D} {ds : List D} : layL (d :: ds) ↔ lay d ∧ layL ds := by simp [layL, lay, plL]
theorem layL_app {ds es : List D} : layL (ds ++ es) ↔ layL ds ∧ layL es := by
  induction ds with
  | nil => simp [layL, plL]
  | cons d ds ih => rw [List.cons_append, layL_cons, layL_cons, ih, and_assoc]
theorem lay_tup {ds : List D} (h : lay (.tup ds)) : layL ds := by simpa [lay, pl] using h
theorem isi_notup {d : D} {S : Store} (h : lay d) (hn : ∀ ds, d ≠ .tup ds) : isiR "tuple" d S = .ok (.bl false) S := by
  cases d with
  | tup ds => exact absurd rfl (hn ds)
  | fls b => rfl
  | loc _ => simp [lay, pl] at h
  | ins _ _ _ => simp [lay, pl] at h
  | glo _ => simp [lay, pl] at h
  | exn _ => simp [lay, pl] at h
  | exo _ _ _ => simp [lay, pl] at h
  | lam _ _ _ => simp [lay, pl] at h
  | _ => simp
theorem isi_nostr {d : D} {S : Store} (h : lay d) (hn : ∀ ds, d ≠ .str ds) : isiR "str" d S = .ok (.bl false) S := by
  cases d with
  | str ds => exact absurd rfl (hn ds)
  | fls b => rfl
  | loc _ => simp [lay, pl] at h
  | ins _ _ _ => simp [lay, pl] at h
  | glo _ => simp [lay, pl] at h
  | exn _ => simp [lay, pl] at h
  | exo _ _ _ => simp [lay, pl] at h
  | lam _ _ _ => simp [lay, pl] at h
  | _ => simp
theorem is_from_else {n : Nat} {d : D} {lo hi : Int} {S : Store} (h : 1 ≤ n) (l : lay d) (hn : ∀ i, d ≠ .int i) : ev n .f_is_from [d, .int lo, .int hi] S = .ok (.bl false) S := by
  obtain ⟨m, rfl, h'⟩ := up h
  rw [ev, b_is_from]
  cases d with
  | int i => exact absurd rfl (hn i)
  | fls b => simp; rfl
  | loc _ => simp [lay, pl] at l
  | ins _ _ _ => simp [lay, pl] at l
  | glo _ => simp [lay, pl] at l
  | exn _ => simp [lay, pl] at l
  | exo _ _ _ => simp [lay, pl] at l
  | lam _ _ _ => simp [lay, pl] at l
  | _ => simp
def innR (s : Str) (r : List D) : Option (List D) :=
  if s = "base" then (match r with
    | [.int i] => if 0 ≤ i ∧ i ≤ 7 then some [] else none
    | _ => none)
  else if s = "unit" then (match r with
    | [] => some []
    | _ => none)
  else if s = "both" ∨ s = "from" then (match r with
    | [a, b] => some [a, b]
    | _ => none)
  else none
def innD : D → Option (List D)
  | .tup (.str s :: r) => innR s r
  | _ => none
def oL (o : Option (List D)) : D := match o with
  | some ds => .lst ds
  | none => .non
theorem cutL1 {α : Type} (d : α) (r : List α) : cutL (d :: r) (some 1) none = r := by
  have e1 : HT.sIx (r.length + 1) 0 (some 1) = 1 := by
    show (if (1 : Int) < 0 then ((1 : Int) + ((r.length + 1 : Nat) : Int)).toNat else min (1 : Int).toNat (r.length + 1)) = 1
    rw [if_neg (by decide)]
    show min 1 (r.length + 1) = 1
    omega
  have e2 : HT.sIx (r.length + 1) (r.length + 1) none = r.length + 1 := rfl
  unfold cutL
  rw [List.length_cons, e1, e2]
  simp
theorem inner_str {n : Nat} {s : Str} {r : List D} {S : Store} (h : 2 ≤ n) (l : layL r) (hs : PyData.strOk s = true) : ev n .f_inner_of [.tup (.str s :: r)] S = .ok (oL (innR s r)) S := by
  obtain ⟨m, rfl, h'⟩ := up h
  rw [ev, b_inner_of]
  have h8 : sizeLine = 16777216 := rfl
  have ne : ¬ ((r.length : Int) + 1 = 0) := by omega
  by_cases h1 : s = "base"
  · subst h1
    match r, l with
    | [], l => simp [innR, oL]
    | [d], l =>
      by_cases hi : ∃ i, d = .int i
      · obtain ⟨i, rfl⟩ := hi
        simp [is_from_int h', h8, innR, oL]
        by_cases c1 : 0 ≤ i <;> by_cases c2 : i ≤ 7 <;> simp [c1, c2]
      · have hi' : ∀ i, d ≠ .int i := fun i z => hi ⟨i, z⟩
        have ld := (layL_cons.mp l).1
        have e : innR (Str.ofString "base") [d] = none := by
          unfold innR
          rw [if_pos rfl]
          split
          · rename_i i q; cases q; exact absurd rfl (hi' i)
          · rfl
        simp [is_from_else h' ld hi', h8, e, oL]
    | d :: e :: r, l =>
      have n2 : ¬ ((r.length : Int) + 1 + 1 + 1 = 2) := by omega
      have n0 : ¬ ((r.length : Int) + 1 + 1 + 1 = 0) := by omega
      simp [innR, oL, n2, n0]
  · by_cases h2 : s = "unit"
    · subst h2
      match r, l with
      | [], l => simp [innR, oL]
      | d :: r, l =>
        have n2 : ¬ ((r.length : Int) + 1 + 1 = 1) := by omega
        have n0 : ¬ ((r.length : Int) + 1 + 1 = 0) := by omega
        simp [innR, oL, n2, n0]
    · have s1 : (s == Str.ofString "base") = false := by simpa using h1
      have s2 : (s == Str.ofString "unit") = false := by simpa using h2
      by_cases h3 : s = "both" ∨ s = "from"
      · have lk : (List.lookup s kv_MARKS).isSome = true := by rcases h3 with rfl | rfl <;> simp [kv_MARKS, List.lookup]
        match r, l with
        | [a, b], l => simp [ne, s1, s2, hs, lk, innR, h1, h2, h3, oL, cutL1]
        | [], l => simp [ne, s1, s2, hs, lk, innR, h1, h2, h3, oL]
        | [a], l => simp [ne, s1, s2, hs, lk, innR, h1, h2, h3, oL]
        | a :: b :: c :: r, l =>
          have n2 : ¬ ((r.length : Int) + 1 + 1 + 1 + 1 = 3) := by omega
          have n0 : ¬ ((r.length : Int) + 1 + 1 + 1 + 1 = 0) := by omega
          simp [n0, n2, s1, s2, hs, lk, innR, h1, h2, h3, oL]
      · have h4 : ¬ s = "both" := fun z => h3 (.inl z)
        have h5 : ¬ s = "from" := fun z => h3 (.inr z)
        have b1 : (s == Str.ofString "both") = false := by simpa using h4
        have b2 : (s == Str.ofString "from") = false := by simpa using h5
        have lk : (List.lookup s kv_MARKS).isSome = false := by simp [kv_MARKS, List.lookup, b1, b2]
        simp [ne, s1, s2, hs, lk, innR, h1, h2, h3, oL]
theorem inner_gen {n : Nat} {d : D} {S : Store} (h : 2 ≤ n) (l : lay d) : ev n .f_inner_of [d] S = .ok (oL (innD d)) S := by
  by_cases ht : ∃ ds, d = .tup ds
  · obtain ⟨ds, rfl⟩ := ht
    have ll := lay_tup l
    match ds, ll with
    | [], ll =>
      obtain ⟨m, rfl, h'⟩ := up h
      rw [ev, b_inner_of]
      simp [innD, oL]
    | x :: r, ll =>
      obtain ⟨lx, lr⟩ := layL_cons.mp ll
      by_cases hx : ∃ s, x = .str s
      · obtain ⟨s, rfl⟩ := hx
        have hs : PyData.strOk s = true := by simpa [lay, pl] using lx
        exact inner_str h lr hs
      · have hx' : ∀ s, x ≠ .str s := fun s z => hx ⟨s, z⟩
        have e : innD (.tup (x :: r)) = none := by
          unfold innD
          split
          · rename_i s r' q
            injection q with q
            injection q with q1 q2
            exact absurd q1 (hx' s)
          · rfl
        obtain ⟨m, rfl, h'⟩ := up h
        rw [ev, b_inner_of]
        have n0 : ¬ ((r.length : Int) + 1 = 0) := by omega
        simp [n0, isi_nostr lx hx', e, oL]
  · have ht' : ∀ ds, d ≠ .tup ds := fun s z => ht ⟨s, z⟩
    have e : innD d = none := by
      unfold innD
      split
      · exact absurd rfl (ht' _)
      · rfl
    obtain ⟨m, rfl, h'⟩ := up h
    rw [ev, b_inner_of]
    simp [isi_notup l ht', e, oL]
mutual
/-- how many parts -/
def nd : D → Nat
  | .tup ds => ndL ds + 1
  | _ => 1
def ndL : List D → Nat
  | [] => 0
  | d :: ds => nd d + ndL ds
end
theorem nd_pos (d : D) : 0 < nd d := by cases d <;> simp [nd]
theorem ndL_app (ds es : List D) : ndL (ds ++ es) = ndL ds + ndL es := by
  induction ds with
  | nil => simp [ndL]
  | cons d ds ih => simp [ndL, ih]; omega
theorem ndL_len (ds : List D) : ds.length ≤ ndL ds := by
  induction ds with
  | nil => simp [ndL]
  | cons d ds ih => have := nd_pos d; simp [ndL]; omega
theorem inn_nd {d : D} {ds : List D} (h : innD d = some ds) : ndL ds < nd d := by
  unfold innD at h
  split at h
  · rename_i s r
    unfold innR at h
    split at h
    · split at h
      · split at h
        · cases h; simp [ndL, nd]
        · cases h
      · cases h
    · split at h
      · split at h
        · cases h; simp [ndL, nd]
        · cases h
      · split at h
        · split at h
          · cases h; simp [ndL, nd]; omega
          · cases h
        · cases h
  · cases h
theorem inn_lay {d : D} {ds : List D} (l : lay d) (h : innD d = some ds) : layL ds := by
  unfold innD at h
  split at h
  · rename_i s r
    have lr := (layL_cons.mp (lay_tup l)).2
    unfold innR at h
    split at h
    · split at h
      · split at h
        · cases h; exact layL_nil
        · cases h
      · cases h
    · split at h
      · split at h
        · cases h; exact layL_nil
        · cases h
      · split at h
        · split at h
          · cases h; exact lr
          · cases h
        · cases h
  · cases h
/-- whether it is a kind (f: enough steps) -/
def isKf : Nat → D → Bool
  | 0, _ => false
  | f + 1, d => match innD d with
    | some ds => ds.all (isKf f)
    | none => false
theorem isKf_mono : ∀ {f g : Nat} {d : D}, nd d ≤ f → f ≤ g → isKf g d = isKf f d
  | 0, _, d, h, _ => absurd (nd_pos d) (by omega)
  | f + 1, 0, _, _, h => absurd h (by omega)
  | f + 1, g + 1, d, h, l => by
    unfold isKf
    cases hd : innD d with
    | none => rfl
    | some ds =>
      have hn := inn_nd hd
      have key : ∀ es : List D, ndL es ≤ f → es.all (isKf g) = es.all (isKf f) := by
        intro es
        induction es with
        | nil => intro _; rfl
        | cons e es ih =>
          intro h1
          simp only [ndL] at h1
          simp only [List.all_cons]
          rw [isKf_mono (f := f) (g := g) (by omega) (by omega), ih (by omega)]
      exact key ds (by omega)
def isK (d : D) : Bool := isKf (nd d) d
theorem isK_eq (d : D) : isK d = match innD d with
    | some ds => ds.all isK
    | none => false := by
  have e : ∃ f, nd d = f + 1 := ⟨nd d - 1, by have := nd_pos d; omega⟩
  obtain ⟨f, hf⟩ := e
  unfold isK
  rw [hf]
  show (match innD d with
    | some ds => ds.all (isKf f)
    | none => false) = _
  cases hd : innD d with
  | none => rfl
  | some ds =>
    have hn := inn_nd hd
    have key : ∀ es : List D, ndL es ≤ f → es.all (isKf f) = es.all (fun d => isKf (nd d) d) := by
      intro es
      induction es with
      | nil => intro _; rfl
      | cons e es ih =>
        intro h1
        simp only [ndL] at h1
        simp only [List.all_cons]
        rw [isKf_mono (f := nd e) (g := f) (Nat.le_refl _) (by omega), ih (by omega)]
    exact key ds (by omega)
theorem isK_kd (k : Kd) : isK k.d = true := by
  induction k with
  | base i =>
    have : (i.val : Int) ≤ 7 := by have := i.isLt; omega
    rw [isK_eq]; simp [Kd.d, innD, innR, this]
  | unit => rw [isK_eq]; simp [Kd.d, innD, innR]
  | both a b ha hb => rw [isK_eq]; simp [Kd.d, innD, innR, ha, hb]
  | frm a b ha hb => rw [isK_eq]; simp [Kd.d, innD, innR, ha, hb]
theorem nd_kd (k : Kd) : nd k.d ≤ 4 * k.sz := by
  induction k with
  | base i => simp [Kd.d, nd, ndL, Kd.sz]
  | unit => simp [Kd.d, nd, ndL, Kd.sz]
  | both a b ha hb => simp [Kd.d, nd, ndL, Kd.sz]; omega
  | frm a b ha hb => simp [Kd.d, nd, ndL, Kd.sz]; omega
theorem lay_kd (k : Kd) : lay k.d := by
  induction k with
  | base i => simp [lay, Kd.d, pl, plL]
  | unit => simp [lay, Kd.d, pl, plL]
  | both a b ha hb =>
    have h1 : pl a.d = true := ha
    have h2 : pl b.d = true := hb
    simp [lay, Kd.d, pl, plL, h1, h2]
  | frm a b ha hb =>
    have h1 : pl a.d = true := ha
    have h2 : pl b.d = true := hb
    simp [lay, Kd.d, pl, plL, h1, h2]
theorem is_kind_loop {m : Nat} (h : 2 ≤ m) (S : Store) (x : Option D) : ∀ (N : Nat) (ds : List D) (y : Option D), ndL ds ≤ N → N ≤ 8000000 → layL ds → ∃ z T,
    sWhile (fB (f2 gNe (fVar 1) (fArg mkLst fNil))) (l_is_kind_0 (ev m)) [x, some (.loc S.length), y] (S ++ [.lst ds]) = if ds.all isK then .nx [x, some (.loc S.length), z] (S ++ [.lst []]) else .rt (.bl false) (S ++ [.lst T]) := by
  intro N
  induction N with
  | zero =>
    intro ds y hN hM hl
    cases ds with
    | nil =>
      refine ⟨y, [], ?_⟩
      have hne := gNe_nil (n := S.length) (S := S ++ [.lst []]) (ds := []) cellOf_app
      rw [sWhile_go]
      simp [hne]
    | cons d r =>
      have := nd_pos d
      simp [ndL] at hN; omega
  | succ N ih =>
    intro ds y hN hM hl
    rcases List.eq_nil_or_concat ds with rfl | ⟨r, d, rfl⟩
    · refine ⟨y, [], ?_⟩
      have hne := gNe_nil (n := S.length) (S := S ++ [.lst []]) (ds := []) cellOf_app
      rw [sWhile_go]
      simp [hne]
    · rw [List.concat_eq_append] at hN hl ⊢
      obtain ⟨lr, ld⟩ := layL_app.mp hl
      have ld := (layL_cons.mp ld).1
      rw [ndL_app] at hN
      have hN' : ndL r + nd d ≤ N + 1 := by simpa [ndL] using hN
      have hne := gNe_nil (n := S.length) (S := S ++ [.lst (r ++ [d])]) (ds := r ++ [d]) cellOf_app
      have hm := mthR_loc (n := S.length) (S := S ++ [.lst (r ++ [d])]) (ρ := [x, some (.loc S.length), y]) (xs := r ++ [d]) (g := gPop0) (a := fNil) cellOf_app
      have hp := gPop0_loc (n := S.length) (S := S ++ [.lst (r ++ [d])]) (xs := r) (d := d) cellM_app
      have hi := inner_gen (n := m) (S := S ++ [.lst r]) h ld
      cases hd : innD d with
      | none =>
        refine ⟨none, r, ?_⟩
        have hk : isK d = false := by rw [isK_eq, hd]
        rw [hd] at hi
        rw [sWhile_go]
        simp [hne, l_is_kind_0, hm, hp, hi, oL, hk]
      | some es =>
        have hn := inn_nd hd
        have hk : isK d = es.all isK := by rw [isK_eq, hd]
        rw [hd] at hi
        have hs : ndL (r ++ es) ≤ N := by rw [ndL_app]; omega
        obtain ⟨z, T, hz⟩ := ih (r ++ es) (some (.lst es)) hs (by omega) (layL_app.mpr ⟨lr, inn_lay ld hd⟩)
        refine ⟨z, T, ?_⟩
        have e2 : (r ++ [d]).all isK = (r ++ es).all isK := by simp [hk]
        rw [sWhile_go, e2, ← hz]
        have h8 : sizeLine = 16777216 := rfl
        have hl' : r.length + es.length ≤ sizeLine := by
          have := ndL_len (r ++ es)
          simp at this; omega
        have hm2 := mthR_loc (n := S.length) (S := S ++ [.lst r]) (ρ := [x, some (.loc S.length), some (.lst es)]) (xs := r) (g := gExtend) (a := fCons (fVar 2) fNil) cellOf_app
        have he := gExtend_loc (n := S.length) (S := S ++ [.lst r]) (xs := r) (ys := es) cellM_app hl'
        simp [hne, l_is_kind_0, hm, hm2, hp, he, hi, oL]
theorem is_kind_gen {n : Nat} {d : D} {S : Store} (h : 3 ≤ n) (hd : nd d ≤ 8000000) (l : lay d) : ev n .f_is_kind [d] S = .ok (.bl (isK d)) S := by
  obtain ⟨m, rfl, h'⟩ := up h
  obtain ⟨z, T, hz⟩ := is_kind_loop h' S (some d) 8000000 [d] none (by simpa [ndL] using hd) (Nat.le_refl _) (layL_cons.mpr ⟨l, layL_nil⟩)
  have e : ∃ T', fnB 1 3 (b_is_kind (ev m)) [d] S = .ok (.bl (isK d)) (S ++ [.lst T']) := by
    rw [b_is_kind]
    simp at hz ⊢
    cases hk : isK d with
    | true => rw [hk] at hz; exact ⟨[], by simp [hz]⟩
    | false => rw [hk] at hz; exact ⟨T, by simp [hz]⟩
  obtain ⟨T', e⟩ := e
  rw [ev, fnC_ap, e]
  exact cut_ok _ rfl
theorem is_kind_kd {n : Nat} {k : Kd} {S : Store} (h : 3 ≤ n) (hk : k.sz ≤ 2000000) : ev n .f_is_kind [k.d] S = .ok (.bl true) S := by
  rw [is_kind_gen h (by have := nd_kd k; omega) (lay_kd k), isK_kd]
theorem sure_kind_kd {n : Nat} {k : Kd} {S : Store} (h : 4 ≤ n) (hk : k.sz ≤ 2000000) : ev n .f_sure_kind [k.d] S = .ok .non S := by
  obtain ⟨m, rfl, h'⟩ := up h
  rw [ev, b_sure_kind]
  simp [is_kind_kd h' hk]
end Kz
namespace Kz
open PySem PySem.Spec PyProof.Rows L2 Kw
def sg (b : Bool) : Str := if b then "*" else ">"
def wd (b : Bool) : Str := if b then "both" else "from"
def mk2 (b : Bool) (x y : Kd) : Kd := if b then .both x y else .frm x y
theorem mk2_d (b : Bool) (x y : Kd) : (mk2 b x y).d = .tup [.str (wd b), x.d, y.d] := by cases b <;> rfl
/-- the stack that is read into: past S, at n -/
structure Stk (S0 S : Store) (n : Nat) (st : List D) : Prop where
  pre : ∃ T, S = S0 ++ T
  le : S0.length ≤ n
  at_ : S[n]? = some (.lst st)
theorem Stk.push {S0 S : Store} {n : Nat} {st : List D} {d : D} (h : Stk S0 S n st) : Stk S0 (S.set n (.lst (st ++ [d]))) n (st ++ [d]) := by
  obtain ⟨⟨T, rfl⟩, le, at_⟩ := h
  have hn : n < (S0 ++ T).length := by
    rcases Nat.lt_or_ge n (S0 ++ T).length with hh | hh
    · exact hh
    · rw [List.getElem?_eq_none hh] at at_; cases at_
  refine ⟨⟨T.set (n - S0.length) (.lst (st ++ [d])), ?_⟩, le, ?_⟩
  · rw [List.set_append, if_neg (by omega)]
  · rw [List.getElem?_set_self hn]
end Kz
namespace Kz
open PySem PySem.Spec PyProof.Rows L2 Kw
def tx : Kd → Str
  | .base i => ⟨#[97 + i.val]⟩
  | .unit => "1"
  | .both a b => "(" ++ tx a ++ "*" ++ tx b ++ ")"
  | .frm a b => "(" ++ tx a ++ ">" ++ tx b ++ ")"
theorem tx_len : ∀ k : Kd, (tx k).length + 3 ≤ 4 * k.sz
  | .base i => by simp [tx, Kd.sz, Str.length]
  | .unit => by simp [tx, Kd.sz]
  | .both a b => by
    have := tx_len a; have := tx_len b
    simp [tx, Kd.sz, Str.length_append]; omega
  | .frm a b => by
    have := tx_len a; have := tx_len b
    simp [tx, Kd.sz, Str.length_append]; omega
theorem gIx_letter (i : _root_.Fin 8) (S : Store) : gIx (.str "abcdefgh") (.int (i.val : Int)) S = .ok (.str ⟨#[97 + i.val]⟩) S := by
  have h : ∀ i : _root_.Fin 8, L2.atI (Str.ofString "abcdefgh").cps.toList (i.val : Int) = some (97 + i.val) := by decide +kernel
  have h8 : sizeLine = 16777216 := rfl
  simp [gIx, h i, h8]
theorem plain_kd (k : Kd) {n : Nat} {S : Store} (h : k.dep + 1 ≤ n) (hk : k.sz ≤ 2000000) : ev n .f_plain_text [k.d] S = .ok (.str (tx k)) S := by
  induction k generalizing n S with
  | base i =>
    obtain ⟨m, rfl, h'⟩ := up h
    rw [ev, b_plain_text]
    simp [Kd.d, tx, gIx_letter]
  | unit =>
    obtain ⟨m, rfl, h'⟩ := up h
    rw [ev, b_plain_text]
    simp [Kd.d, tx]
  | both a b ha hb =>
    obtain ⟨m, rfl, h'⟩ := up h
    rw [ev, b_plain_text]
    simp [Kd.sz, Kd.dep] at hk h'
    have la := tx_len a; have lb := tx_len b
    have h8 : sizeLine = 16777216 := rfl
    have h1 : 1 + (tx a).length ≤ sizeLine := by omega
    have h2 : 1 + (tx a).length + 1 ≤ sizeLine := by omega
    have h3 : 1 + (tx a).length + 1 + (tx b).length ≤ sizeLine := by omega
    have h4 : 1 + (tx a).length + 1 + (tx b).length + 1 ≤ sizeLine := by omega
    simp [Kd.d, tx, ha (n := m) (by omega) (by omega), hb (n := m) (by omega) (by omega), Str.length_append, h1, h2, h3, h4, kv_MARKS, List.lookup]
  | frm a b ha hb =>
    obtain ⟨m, rfl, h'⟩ := up h
    rw [ev, b_plain_text]
    simp [Kd.sz, Kd.dep] at hk h'
    have la := tx_len a; have lb := tx_len b
    have h8 : sizeLine = 16777216 := rfl
    have h1 : 1 + (tx a).length ≤ sizeLine := by omega
    have h2 : 1 + (tx a).length + 1 ≤ sizeLine := by omega
    have h3 : 1 + (tx a).length + 1 + (tx b).length ≤ sizeLine := by omega
    have h4 : 1 + (tx a).length + 1 + (tx b).length + 1 ≤ sizeLine := by omega
    simp [Kd.d, tx, ha (n := m) (by omega) (by omega), hb (n := m) (by omega) (by omega), Str.length_append, h1, h2, h3, h4, kv_MARKS, List.lookup]
theorem kind_text_kd (k : Kd) {n : Nat} {S : Store} (h : k.dep + 5 ≤ n) (hk : k.sz ≤ 2000000) : ev n .f_kind_text [k.d] S = .ok (.str (tx k)) S := by
  obtain ⟨m, rfl, h'⟩ := up h
  rw [ev, b_kind_text]
  simp [plain_kd k (n := m) (by omega) hk, sure_kind_kd (n := m) (by omega) hk]
end Kz
namespace Kz
open PySem PySem.Spec PyProof.Rows L2 Kw
@[simp] theorem gInMx_str {S : Store} {neg : Bool} {nm z : Str} {kvs : List (Str × D)} : gInMx neg nm kvs (.str z) (.glo nm) S = .ok (.bl (xor neg (kvs.lookup z).isSome)) S := by
  unfold gInMx; simp
theorem gInMx_kd {S : Store} {neg : Bool} {nm : Str} {kvs : List (Str × D)} (k : Kd) (h : k.dep ≤ 7) : gInMx neg nm kvs k.d (.glo nm) S = .ok (.bl neg) S := by
  have key : ∀ k : Kd, ∃ q, Kw.keyOf k.d = some q ∧ q.depth = k.dep + 1 := by
    intro k
    induction k with
    | base i => exact ⟨.tup [.text "base", .num (i.val : Int)], rfl, by simp [NestedKey.depth, NestedKey.depthAll, Kd.dep]⟩
    | unit => exact ⟨.tup [.text "unit"], rfl, by simp [NestedKey.depth, NestedKey.depthAll, Kd.dep]⟩
    | both a b ha hb =>
      obtain ⟨p, p1, p2⟩ := ha
      obtain ⟨q, q1, q2⟩ := hb
      refine ⟨.tup [.text "both", p, q], ?_, by simp only [NestedKey.depth, NestedKey.depthAll, Kd.dep]; omega⟩
      simp [Kd.d, Kw.keyOf, Kw.keysOf, p1, q1]
    | frm a b ha hb =>
      obtain ⟨p, p1, p2⟩ := ha
      obtain ⟨q, q1, q2⟩ := hb
      refine ⟨.tup [.text "from", p, q], ?_, by simp only [NestedKey.depth, NestedKey.depthAll, Kd.dep]; omega⟩
      simp [Kd.d, Kw.keyOf, Kw.keysOf, p1, q1]
  obtain ⟨q, q1, q2⟩ := key k
  have hd : ∃ ds, k.d = .tup ds := by cases k <;> exact ⟨_, rfl⟩
  obtain ⟨ds, hds⟩ := hd
  rw [hds] at q1 ⊢
  unfold gInMx
  simp only [q1]
  rw [if_pos trivial, if_pos (by omega)]
end Kz
namespace Kz
open PySem PySem.Spec PyProof.Rows L2 Kw
theorem back_ix {α : Type} (st : List α) (w x y z : α) : L2.atI (st ++ [w, x, y, z]) (-4) = some w ∧ L2.atI (st ++ [w, x, y, z]) (-3) = some x ∧ L2.atI (st ++ [w, x, y, z]) (-2) = some y ∧ L2.atI (st ++ [w, x, y, z]) (-1) = some z := by
  have key : ∀ k : Nat, 1 ≤ k → k ≤ 4 → L2.atI (st ++ [w, x, y, z]) (-(k : Int)) = (st ++ [w, x, y, z])[st.length + 4 - k]? := by
    intro k h1 h2
    unfold L2.atI L2.ixN
    have hl : (st ++ [w, x, y, z]).length = st.length + 4 := by simp
    rw [if_neg (by omega), if_pos (by rw [hl]; omega), hl]
    show (st ++ [w, x, y, z])[(-(k : Int) + ((st.length + 4 : Nat) : Int)).toNat]? = _
    congr 1; omega
  refine ⟨?_, ?_, ?_, ?_⟩
  · have := key 4 (by omega) (by omega); simpa using this
  · have := key 3 (by omega) (by omega); simpa [List.getElem?_append] using this
  · have := key 2 (by omega) (by omega); simpa [List.getElem?_append] using this
  · have := key 1 (by omega) (by omega); simpa [List.getElem?_append] using this
theorem cut_back (st : List D) (w x y z : D) : cutL (st ++ [w, x, y, z]) none (some (-4)) = st := by
  have hl : (st ++ [w, x, y, z]).length = st.length + 4 := by simp
  have e1 : HT.sIx (st.length + 4) 0 none = 0 := rfl
  have e2 : HT.sIx (st.length + 4) (st.length + 4) (some (-4)) = st.length := by
    show (if (-4 : Int) < 0 then ((-4 : Int) + ((st.length + 4 : Nat) : Int)).toNat else min (-4 : Int).toNat (st.length + 4)) = _
    rw [if_pos (by decide)]; omega
  unfold cutL
  rw [hl, e1, e2]
  simp
theorem lu_sg (b : Bool) : List.lookup (sg b) kv_SIGNS = some (.str (wd b)) := by cases b <;> simp [sg, wd, kv_SIGNS, List.lookup]
theorem closed_kd {n : Nat} {S : Store} {st : List D} {a : Nat} {x y : Kd} {b : Bool} (h : 1 ≤ n) (hc : Kw.cellOf S a = some (st ++ [.str "(", x.d, .str (sg b), y.d])) (hl : st.length + 1 ≤ sizeLine) : ev n .f_closed [.loc a] S = .ok (.loc S.length) (S ++ [.lst (st ++ [(mk2 b x y).d])]) := by
  obtain ⟨m, rfl, h'⟩ := up h
  rw [ev, b_closed]
  obtain ⟨h4, h3, h2, h1⟩ := back_ix st (D.str "(") x.d (.str (sg b)) y.d
  have hlen : gLen [.loc a] S = .ok (.int ((st.length : Int) + 4)) S := by
    simp [gLen, seqA, hc]
  have r4 : ixR (st ++ [.str "(", x.d, .str (sg b), y.d]) (-4) S = .ok (.str "(") S := by unfold ixR; rw [h4]
  have r3 : ixR (st ++ [.str "(", x.d, .str (sg b), y.d]) (-3) S = .ok x.d S := by unfold ixR; rw [h3]
  have r2 : ixR (st ++ [.str "(", x.d, .str (sg b), y.d]) (-2) S = .ok (.str (sg b)) S := by unfold ixR; rw [h2]
  have r1 : ixR (st ++ [.str "(", x.d, .str (sg b), y.d]) (-1) S = .ok y.d S := by unfold ixR; rw [h1]
  have hlt : ¬ ((st.length : Int) + 4 < 4) := by omega
  have hadd : gAdd true (.lst st) (.lst [.tup [.str (wd b), x.d, y.d]]) S = .ok (.loc S.length) (S ++ [.lst (st ++ [.tup [.str (wd b), x.d, y.d]])]) := by
    show catL true (some st) (some [_]) S = _
    simp [catL, hl]
  rw [mk2_d]
  simp [hlen, hc, r4, r3, r2, r1, cut_back, hadd, lu_sg, hlt]
theorem in_letter (i : _root_.Fin 8) (S : Store) : gIn false (.str ⟨#[97 + i.val]⟩) (.str "abcdefgh") S = .ok (.bl true) S := by
  have h : ∀ i : _root_.Fin 8, (!(Builtin.Str.occurrences (Str.ofString "abcdefgh") ⟨#[97 + i.val]⟩ 0 (Str.ofString "abcdefgh").length 1).isEmpty) = true := by decide +kernel
  show RE.ok (D.bl (!(Builtin.Str.occurrences (Str.ofString "abcdefgh") ⟨#[97 + i.val]⟩ 0 (Str.ofString "abcdefgh").length 1).isEmpty)) S = _
  rw [h i]
theorem ix_letter (i : _root_.Fin 8) : Txt.index0 (Str.ofString "abcdefgh") ⟨#[97 + i.val]⟩ = some i.val := by
  have h : ∀ i : _root_.Fin 8, Txt.index0 (Str.ofString "abcdefgh") ⟨#[97 + i.val]⟩ = some i.val := by decide +kernel
  exact h i
theorem in_sign (s : String) (h : (!(Builtin.Str.occurrences (Str.ofString "abcdefgh") (Str.ofString s) 0 (Str.ofString "abcdefgh").length 1).isEmpty) = false) (S : Store) : gIn false (.str s) (.str "abcdefgh") S = .ok (.bl false) S := by
  show RE.ok (D.bl (!(Builtin.Str.occurrences (Str.ofString "abcdefgh") (Str.ofString s) 0 (Str.ofString "abcdefgh").length 1).isEmpty)) S = _
  rw [h]
noncomputable abbrev rL (m : Nat) : List D → FS := forL (gN 2) (l_read_kind_0 (ev m)) none
theorem step_app {m : Nat} {S0 S : Store} {n : Nat} {st r : List D} {t x : Option D} {s d : D} (h : Stk S0 S n st)
    (hb : l_read_kind_0 (ev m) [t, some (.loc n), some s] S = .nx [t, some (.loc n), some s] (S.set n (.lst (st ++ [d])))) :
    ∃ S', Stk S0 S' n (st ++ [d]) ∧ rL m (s :: r) [t, some (.loc n), x] S = rL m r [t, some (.loc n), some s] S' := by
  refine ⟨_, h.push, ?_⟩
  show forL _ _ _ _ _ _ = _
  rw [forL_cons]
  simp [hb]
theorem mth_app {S : Store} {n : Nat} {st : List D} {ρ : FEnv} {fa : FA} (h : S[n]? = some (.lst st)) : mthR gAppend fa ρ (.loc n) S = (fa ρ S).bnd fun ds S2 => gAppend (.loc n) ds S2 := mthR_loc (cellOf_of h)
theorem rd_sign {m : Nat} {S0 S : Store} {n : Nat} {st r : List D} {t x : Option D} {b : Str} (hb : b = Str.ofString "(" ∨ b = Str.ofString "*" ∨ b = Str.ofString ">") (h : Stk S0 S n st) (hl : st.length < sizeLine) :
    ∃ S', Stk S0 S' n (st ++ [.str b]) ∧ rL m (.str b :: r) [t, some (.loc n), x] S = rL m r [t, some (.loc n), some (.str b)] S' := by
  refine step_app h ?_
  rw [l_read_kind_0]
  have ha : gAppend (.loc n) [.str b] S = .ok .non (S.set n (.lst (st ++ [.str b]))) := gAppend_loc (cellM_of h.at_) hl
  have hm := fun (ρ : FEnv) (fa : FA) => mth_app (ρ := ρ) (fa := fa) h.at_
  have i1 := in_sign "(" (by decide +kernel) S
  have i2 := in_sign "*" (by decide +kernel) S
  have i3 := in_sign ">" (by decide +kernel) S
  rcases hb with rfl | rfl | rfl
  · simp [i1, hm, ha]
  · simp [i2, hm, ha, kv_SIGNS, List.lookup]
  · simp [i3, hm, ha, kv_SIGNS, List.lookup]
theorem rd_base {m : Nat} {S0 S : Store} {n : Nat} {st r : List D} {t x : Option D} (i : _root_.Fin 8) (h : Stk S0 S n st) (hl : st.length < sizeLine) :
    ∃ S', Stk S0 S' n (st ++ [(Kd.base i).d]) ∧ rL m (.str ⟨#[97 + i.val]⟩ :: r) [t, some (.loc n), x] S = rL m r [t, some (.loc n), some (.str ⟨#[97 + i.val]⟩)] S' := by
  refine step_app h ?_
  rw [l_read_kind_0]
  have ha : gAppend (.loc n) [(Kd.base i).d] S = .ok .non (S.set n (.lst (st ++ [(Kd.base i).d]))) := gAppend_loc (cellM_of h.at_) hl
  have hm := fun (ρ : FEnv) (fa : FA) => mth_app (ρ := ρ) (fa := fa) h.at_
  have i1 := in_letter i S
  have i2 := ix_letter i
  rw [Kd.d] at ha
  simp [i1, hm, ha, fStrIx, i2, Kd.d]
theorem rd_unit {m : Nat} {S0 S : Store} {n : Nat} {st r : List D} {t x : Option D} (h : Stk S0 S n st) (hl : st.length < sizeLine) :
    ∃ S', Stk S0 S' n (st ++ [Kd.unit.d]) ∧ rL m (.str "1" :: r) [t, some (.loc n), x] S = rL m r [t, some (.loc n), some (.str "1")] S' := by
  refine step_app h ?_
  rw [l_read_kind_0]
  have ha : gAppend (.loc n) [Kd.unit.d] S = .ok .non (S.set n (.lst (st ++ [Kd.unit.d]))) := gAppend_loc (cellM_of h.at_) hl
  have hm := fun (ρ : FEnv) (fa : FA) => mth_app (ρ := ρ) (fa := fa) h.at_
  have i1 := in_sign "1" (by decide +kernel) S
  rw [Kd.d] at ha
  simp [i1, hm, ha, Kd.d]
end Kz
namespace Kz
open PySem PySem.Spec PyProof.Rows L2 Kw
/-- a well lies at w -/
def Well (S : Store) (w : Nat) : Prop := ∃ a b c : Int, 0 ≤ a ∧ 0 ≤ b ∧ b < 2147483629 ∧ 0 ≤ c ∧ S[w]? = some (.lst [.int a, .int b, .int c])
/-- only the well was changed -/
structure WS (S : Store) (w : Nat) (S' : Store) : Prop where
  len : S'.length = S.length
  same : ∀ i, i ≠ w → S'[i]? = S[i]?
  well : Well S' w
theorem WS.refl {S : Store} {w : Nat} (h : Well S w) : WS S w S := ⟨rfl, fun _ _ => rfl, h⟩
theorem WS.trans {S S1 S2 : Store} {w : Nat} (h : WS S w S1) (k : WS S1 w S2) : WS S w S2 := ⟨k.len.trans h.len, fun i hi => (k.same i hi).trans (h.same i hi), k.well⟩
theorem lt_of_at {S : Store} {w : Nat} {c : Cell} (h : S[w]? = some c) : w < S.length := by
  rcases Nat.lt_or_ge w S.length with hh | hh
  · exact hh
  · rw [List.getElem?_eq_none hh] at h; cases h
theorem WS.set {S : Store} {w : Nat} {a b c : Int} {x : Cell} (h : S[w]? = some x) (ha : 0 ≤ a) (hb : 0 ≤ b) (hb' : b < 2147483629) (hc : 0 ≤ c) : WS S w (S.set w (.lst [.int a, .int b, .int c])) :=
  ⟨by simp, fun i hi => by rw [List.getElem?_set_ne (Ne.symm hi)], a, b, c, ha, hb, hb', hc, List.getElem?_set_self (lt_of_at h)⟩
theorem well_new {n : Nat} {S : Store} {i : Int} (h : 1 ≤ n) : ∃ S', ev n .f__law_well [.int i] S = .ok (.loc S.length) (S ++ [S']) ∧ Well (S ++ [S']) S.length := by
  obtain ⟨m, rfl, h'⟩ := up h
  have m1 : CMul i (if i ≥ 10 ^ 18 then 1 else 0) ∨ CMulW i (if i ≥ 10 ^ 18 then 1 else 0) := .inl (.inr (by split <;> omega))
  refine ⟨.lst [.int (i * (if i ≥ 10 ^ 18 then 1 else 0)), .int (i % 2147483629), .int 0], ?_, i * (if i ≥ 10 ^ 18 then 1 else 0), i % 2147483629, 0, ?_, by omega, by omega, by omega, by simp⟩
  · rw [ev, b__law_well]
    have h8 : sizeLine = 16777216 := rfl
    have e : (10 : Int) ^ 18 = 1000000000000000000 := by decide
    rw [e] at m1 ⊢
    by_cases h : (1000000000000000000 : Int) ≤ i
    · have h' : i ≥ 1000000000000000000 := h
      rw [if_pos h'] at m1 ⊢
      simp [h, m1, h8]
    · have h' : ¬ i ≥ 1000000000000000000 := h
      rw [if_neg h'] at m1 ⊢
      simp [h, m1, h8]
  · split
    · omega
    · omega
theorem draw_sp {n : Nat} {S : Store} {w : Nat} {m : Int} (h : 1 ≤ n) (hw : Well S w) (hm : 0 < m) (hm' : m < 1000000000) : ∃ r S', ev n .f__law_draw [.loc w, .int m] S = .ok (.int r) S' ∧ 0 ≤ r ∧ r < m ∧ WS S w S' := by
  obtain ⟨n, rfl, h'⟩ := up h
  obtain ⟨a, b, c, ha, hb, hb', hc, at_⟩ := hw
  have hw := lt_of_at at_
  have hlog : m.natAbs.log2 < 9000 := by
    rcases Nat.eq_zero_or_pos m.natAbs with h0 | h0
    · rw [h0]; decide
    · have : m.natAbs.log2 < 40 := (Nat.log2_lt (by omega)).mpr (by omega)
      omega
  rw [ev, b__law_draw]
  by_cases h0 : 0 < a
  · refine ⟨a % m, S.set w (.lst [.int (a / m), .int b, .int c]), ?_, Int.emod_nonneg _ (by omega), Int.emod_lt_of_pos _ hm, WS.set at_ (Int.ediv_nonneg ha (by omega)) hb hb' hc⟩
    simp [cellOf_of at_, h0, hm, hlog, gSb, gSetI, cellM_of at_, L2.ixN]
  · have l1 : (1013 : Nat).log2 < 9000 := by decide
    have l2 : (2003 : Nat).log2 < 9000 := by decide
    have l3 : (3 : Nat).log2 < 9000 := by decide
    have at2 : (S.set w (.lst [.int a, .int b, .int (c + 1)]))[w]? = some (.lst [.int a, .int b, .int (c + 1)]) := List.getElem?_set_self hw
    have c1 : ∀ i j : Int, 0 ≤ j → j < 18446744073709551616 → (CMul i j ∨ CMulW i j) = True := fun i j h1 h2 => eq_true (.inl (.inr ⟨by omega, by omega⟩))
    have c2 : ∀ i j : Int, 0 ≤ i → i < 18446744073709551616 → (CMul i j ∨ CMulW i j) = True := fun i j h1 h2 => eq_true (.inl (.inl ⟨by omega, by omega⟩))
    have b1 : ∀ x : Int, 0 ≤ x % 2147483629 ∧ x % 2147483629 < 2147483629 := fun x => by omega
    have b2 : ∀ x : Int, 0 ≤ x % 2147483587 ∧ x % 2147483587 < 2147483587 := fun x => by omega
    have k1 := fun (x y : Int) => c2 (x % 2147483629) y (b1 x).1 (by have := (b1 x).2; omega)
    have k2 := fun (x y : Int) => c2 (x % 2147483587) y (b2 x).1 (by have := (b2 x).2; omega)
    have k3 := fun (x : Int) => c1 x 48271 (by omega) (by omega)
    have k4 := fun (x : Int) => c2 86969 x (by omega) (by omega)
    refine ⟨(((b + 86969 * (c + 1) + 1) * 48271 % 2147483629 * ((b + 86969 * (c + 1) + 1) * 48271 % 2147483629 / 1013 + 69623 + (c + 1)) % 2147483587) * ((((b + 86969 * (c + 1) + 1) * 48271 % 2147483629 * ((b + 86969 * (c + 1) + 1) * 48271 % 2147483629 / 1013 + 69623 + (c + 1)) % 2147483587)) / 2003 + 40692) % 2147483563 / 3) % m, S.set w (.lst [.int a, .int b, .int (c + 1)]), ?_, Int.emod_nonneg _ (by omega), Int.emod_lt_of_pos _ hm, WS.set at_ ha hb hb' (by omega)⟩
    simp [cellOf_of at_, h0, hm, hlog, gSb, gSetI, cellM_of at_, L2.ixN, cellOf_of at2, k1, k2, k3, k4, l1, l2, l3]
theorem one_sp {n : Nat} {S : Store} {w : Nat} {ds : List D} (h : 2 ≤ n) (hw : Well S w) (h0 : ds ≠ []) (hl : ds.length < 1000000) : ∃ d S', ev n .f__law_one [.loc w, .lst ds] S = .ok d S' ∧ d ∈ ds ∧ WS S w S' := by
  obtain ⟨n, rfl, h'⟩ := up h
  have hp : 0 < ds.length := List.length_pos_iff.mpr h0
  obtain ⟨r, S', e, r0, r1, ws⟩ := draw_sp (m := (ds.length : Int)) h' hw (by omega) (by omega)
  have hr : r = ((r.toNat : Nat) : Int) := by omega
  have hlt : r.toNat < ds.length := by omega
  refine ⟨ds[r.toNat], S', ?_, List.getElem_mem _, ws⟩
  rw [ev, b__law_one]
  have hx := ixR_nat (ds := ds) (n := r.toNat) (S := S')
  rw [← hr, List.getElem?_eq_getElem hlt] at hx
  simp [e, hx]
theorem cell_at {n : Nat} {S : Store} {ds : List D} {k : Nat} (h : 1 ≤ n) : ∃ d, ev n .f__law_cell_at [.fls ds, .int k] S = .ok d S ∧ (d ∈ ds ∨ d = .int 0) := by
  obtain ⟨n, rfl, h'⟩ := up h
  rw [ev, b__law_cell_at]
  by_cases hk : k < ds.length
  · refine ⟨ds[k], ?_, .inl (List.getElem_mem _)⟩
    simp [hk, List.getElem?_eq_getElem hk]
  · refine ⟨.int 0, ?_, .inr rfl⟩
    simp [hk]
end Kz
namespace Kz
open PySem PySem.Spec PyProof.Rows L2 Kw
def mk_ : Bool → Nat
  | true => 42
  | false => 62
/-- the signs of a kind's text -/
def tl : Kd → List Nat
  | .base i => [97 + i.val]
  | .unit => [49]
  | .both a b => 40 :: (tl a ++ 42 :: (tl b ++ [41]))
  | .frm a b => 40 :: (tl a ++ 62 :: (tl b ++ [41]))
def nc (l : List Nat) : Nat := l.count 41
def no (l : List Nat) : Nat := l.count 40
def net (l : List Nat) : Int := (no l : Int) - (nc l : Int)
def leaf (c : Nat) : Prop := c = 49 ∨ (97 ≤ c ∧ c ≤ 104)
theorem nc_app (a b : List Nat) : nc (a ++ b) = nc a + nc b := List.count_append ..
theorem no_app (a b : List Nat) : no (a ++ b) = no a + no b := List.count_append ..
theorem net_app (a b : List Nat) : net (a ++ b) = net a + net b := by unfold net; rw [nc_app, no_app]; omega
theorem nc_cons (c : Nat) (l : List Nat) : nc (c :: l) = nc l + (if c = 41 then 1 else 0) := by
  unfold nc; rw [List.count_cons]; simp
theorem no_cons (c : Nat) (l : List Nat) : no (c :: l) = no l + (if c = 40 then 1 else 0) := by
  unfold no; rw [List.count_cons]; simp
theorem nc_nil : nc [] = 0 := rfl
theorem net_nil : net [] = 0 := rfl
theorem net_cons (c : Nat) (l : List Nat) : net (c :: l) = net l + (if c = 40 then 1 else 0) - (if c = 41 then 1 else 0) := by
  unfold net; rw [nc_cons, no_cons]; split <;> split <;> omega
/-- the two cases in one -/
theorem tl_mk2 (b : Bool) (x y : Kd) : tl (mk2 b x y) = 40 :: (tl x ++ mk_ b :: (tl y ++ [41])) := by cases b <;> rfl
theorem mk_no (b : Bool) : mk_ b ≠ 40 ∧ mk_ b ≠ 41 ∧ ¬ leaf (mk_ b) := by cases b <;> simp [mk_, leaf]
theorem kd_two : ∀ k : Kd, (k.dep = 0 ∧ k.sz = 1 ∧ ∃ c, tl k = [c] ∧ leaf c) ∨ ∃ b x y, k = mk2 b x y
  | .base i => .inl ⟨rfl, rfl, _, rfl, .inr ⟨by omega, by have := i.isLt; omega⟩⟩
  | .unit => .inl ⟨rfl, rfl, _, rfl, .inl rfl⟩
  | .both a b => .inr ⟨true, a, b, rfl⟩
  | .frm a b => .inr ⟨false, a, b, rfl⟩
theorem leaf_no {c : Nat} (h : leaf c) : c ≠ 40 ∧ c ≠ 41 := by unfold leaf at h; omega
theorem tl_net (n : Nat) : ∀ k : Kd, k.sz ≤ n → net (tl k) = 0 ∧ 2 * nc (tl k) + 1 = k.sz := by
  induction n with
  | zero => intro k h; have := k.sz_pos; omega
  | succ n ih =>
    intro k h
    rcases kd_two k with ⟨_, h1, c, h2, h3⟩ | ⟨b, x, y, rfl⟩
    · have := leaf_no h3
      rw [h2, net_cons, nc_cons, net_nil, nc_nil]
      simp only [this.1, this.2, if_false]
      omega
    · have hs : (mk2 b x y).sz = x.sz + y.sz + 1 := by cases b <;> simp [mk2, Kd.sz] <;> omega
      have px := x.sz_pos; have py := y.sz_pos
      obtain ⟨x1, x2⟩ := ih x (by omega)
      obtain ⟨y1, y2⟩ := ih y (by omega)
      have m := mk_no b
      rw [tl_mk2, net_cons, net_app, net_cons, net_app, x1, y1, nc_cons, nc_app, nc_cons, nc_app]
      simp only [m.1, m.2.1, if_false]
      have e1 : net [41] = -1 := by rw [net_cons, net_nil]; rfl
      have e2 : nc [41] = 1 := rfl
      rw [e1, e2]
      simp
      omega
theorem dep_nc (n : Nat) : ∀ k : Kd, k.sz ≤ n → k.dep ≤ nc (tl k) := by
  induction n with
  | zero => intro k h; have := k.sz_pos; omega
  | succ n ih =>
    intro k h
    rcases kd_two k with ⟨h0, _⟩ | ⟨b, x, y, rfl⟩
    · omega
    · have hs : (mk2 b x y).sz = x.sz + y.sz + 1 := by cases b <;> simp [mk2, Kd.sz] <;> omega
      have hd : (mk2 b x y).dep = max x.dep y.dep + 1 := by cases b <;> simp [mk2, Kd.dep]
      have px := x.sz_pos; have py := y.sz_pos
      have x1 := ih x (by omega)
      have y1 := ih y (by omega)
      have m := mk_no b
      rw [tl_mk2, nc_cons, nc_app, nc_cons, nc_app, if_neg m.2.1, hd]
      have e2 : nc [41] = 1 := rfl
      rw [e2]
      simp
      omega
/-- a front of a kind's text -/
theorem tl_front (n : Nat) : ∀ k : Kd, k.sz ≤ n → ∀ a b, tl k = a ++ b → 0 ≤ net a ∧ net a ≤ (k.dep : Int) ∧ (a ≠ [] → b ≠ [] → 1 ≤ net a) := by
  induction n with
  | zero => intro k h; have := k.sz_pos; omega
  | succ n ih =>
    intro k h a b e
    rcases kd_two k with ⟨h0, h1, c, h2, h3⟩ | ⟨w, x, y, rfl⟩
    · have lc := leaf_no h3
      rw [h2] at e
      cases a with
      | nil => rw [net_nil]; exact ⟨by omega, by omega, fun z => absurd rfl z⟩
      | cons c' a =>
        simp only [List.cons_append, List.cons.injEq] at e
        obtain ⟨rfl, e⟩ := e
        have ha : a = [] := by cases a with
          | nil => rfl
          | cons _ _ => simp at e
        have hb : b = [] := by rw [ha] at e; simpa using e.symm
        rw [ha, net_cons, net_nil, if_neg lc.1, if_neg lc.2]
        exact ⟨by omega, by omega, fun _ z => absurd hb z⟩
    · have hs : (mk2 w x y).sz = x.sz + y.sz + 1 := by cases w <;> simp [mk2, Kd.sz] <;> omega
      have hd : (mk2 w x y).dep = max x.dep y.dep + 1 := by cases w <;> simp [mk2, Kd.dep]
      have px := x.sz_pos; have py := y.sz_pos
      have m := mk_no w
      have nx := (tl_net x.sz x (Nat.le_refl _)).1
      have ny := (tl_net y.sz y (Nat.le_refl _)).1
      rw [tl_mk2] at e
      cases a with
      | nil => rw [net_nil]; exact ⟨by omega, by omega, fun z => absurd rfl z⟩
      | cons c' a =>
        simp only [List.cons_append, List.cons.injEq] at e
        obtain ⟨rfl, e⟩ := e
        rw [net_cons, if_pos rfl, if_neg (by decide), hd]
        rcases List.append_eq_append_iff.mp e with ⟨t, e1, e2⟩ | ⟨t, e1, e2⟩
        · -- a = tl x ++ t
          rw [e1, net_app, nx]
          cases t with
          | nil => rw [net_nil]; exact ⟨by omega, by omega, fun _ _ => by omega⟩
          | cons c t =>
            simp only [List.cons_append, List.cons.injEq] at e2
            obtain ⟨rfl, e2⟩ := e2
            rw [net_cons, if_neg m.1, if_neg m.2.1]
            rcases List.append_eq_append_iff.mp e2 with ⟨t2, e3, e4⟩ | ⟨t2, e3, e4⟩
            · rw [e3, net_app, ny]
              cases t2 with
              | nil => rw [net_nil]; exact ⟨by omega, by omega, fun _ _ => by omega⟩
              | cons d t2 =>
                simp only [List.cons_append, List.cons.injEq] at e4
                obtain ⟨rfl, e4⟩ := e4
                have h2 : t2 = [] ∧ b = [] := by
                  have := e4.symm
                  simpa using this
                rw [h2.1, net_cons, net_nil, if_neg (by decide), if_pos rfl]
                exact ⟨by omega, by omega, fun _ z => absurd h2.2 z⟩
            · have := ih y (by omega) t t2 e3
              exact ⟨by omega, by omega, fun _ _ => by omega⟩
        · have := ih x (by omega) a t e1
          exact ⟨by omega, by omega, fun _ _ => by omega⟩
/-- where it stands deepest -/
theorem tl_deep (n : Nat) : ∀ k : Kd, k.sz ≤ n → ∃ a c b, tl k = a ++ c :: b ∧ leaf c ∧ net a = (k.dep : Int) := by
  induction n with
  | zero => intro k h; have := k.sz_pos; omega
  | succ n ih =>
    intro k h
    rcases kd_two k with ⟨h0, h1, c, h2, h3⟩ | ⟨w, x, y, rfl⟩
    · exact ⟨[], c, [], h2, h3, by rw [h0, net_nil]; rfl⟩
    · have hs : (mk2 w x y).sz = x.sz + y.sz + 1 := by cases w <;> simp [mk2, Kd.sz] <;> omega
      have hd : (mk2 w x y).dep = max x.dep y.dep + 1 := by cases w <;> simp [mk2, Kd.dep]
      have px := x.sz_pos; have py := y.sz_pos
      have m := mk_no w
      have nx := (tl_net x.sz x (Nat.le_refl _)).1
      by_cases hxy : y.dep ≤ x.dep
      · obtain ⟨a, c, b, e, lc, q⟩ := ih x (by omega)
        refine ⟨40 :: a, c, b ++ mk_ w :: (tl y ++ [41]), by rw [tl_mk2, e]; simp, lc, ?_⟩
        rw [net_cons, if_pos rfl, if_neg (by decide), q, hd]; omega
      · obtain ⟨a, c, b, e, lc, q⟩ := ih y (by omega)
        refine ⟨40 :: (tl x ++ mk_ w :: a), c, b ++ [41], by rw [tl_mk2, e]; simp, lc, ?_⟩
        rw [net_cons, if_pos rfl, if_neg (by decide), net_app, net_cons, if_neg m.1, if_neg m.2.1, nx, q, hd]; omega
theorem tl_net0 (k : Kd) : net (tl k) = 0 := (tl_net k.sz k (Nat.le_refl _)).1
theorem tl_nc (k : Kd) : 2 * nc (tl k) + 1 = k.sz := (tl_net k.sz k (Nat.le_refl _)).2
/-- no kind that stands ahead of a closing brace, with something ahead of it, is deeper than seven -/
def Dp7 (s : List Nat) : Prop := ∀ u k v, s = u ++ (tl k ++ v) → u ≠ [] → 41 ∈ v → k.dep ≤ 7
theorem nc_mem {v : List Nat} (h : 41 ∈ v) : 1 ≤ nc v := List.count_pos_iff.mpr h
theorem dp_few {s : List Nat} (h : nc s ≤ 8) : Dp7 s := fun u k v e _ hv => by
  have h1 := dep_nc k.sz k (Nat.le_refl _)
  have h2 := nc_mem hv
  rw [e, nc_app, nc_app] at h
  omega
/-- a text put twice between braces -/
def wrp (x e : List Nat) : List Nat := 40 :: (x ++ (e ++ (x ++ [41])))
/-- a kind within a text that stands twice, so: it stands in the first, or behind that, or begins in the first -/
theorem twice {X e u v : List Nat} {k : Kd} (h : wrp X e = u ++ (tl k ++ v)) (hu : u ≠ []) (hv : v ≠ []) :
    (∃ p q, X = p ++ (tl k ++ q)) ∨ (∃ p q, e ++ X = p ++ (tl k ++ q)) ∨ ∃ p a t, X = p ++ a ∧ a ≠ [] ∧ t ≠ [] ∧ tl k = a ++ t ∧ ∃ q, e ++ X = t ++ q := by
  unfold wrp at h
  obtain ⟨u', rfl⟩ : ∃ u', u = 40 :: u' := by
    cases u with
    | nil => exact absurd rfl hu
    | cons c u =>
      simp only [List.cons_append, List.cons.injEq] at h
      exact ⟨u, by rw [← h.1]⟩
  simp only [List.cons_append, List.cons.injEq, true_and] at h
  obtain ⟨v', rfl⟩ : ∃ v', v = v' ++ [41] := by
    have h1 := congrArg List.reverse h
    rcases List.eq_nil_or_concat v with hz | ⟨v', c, rfl⟩
    · exact absurd hz hv
    · refine ⟨v', ?_⟩
      rw [List.concat_eq_append] at h1 ⊢
      simp at h1
      rw [← h1.1]
  have h2 : X ++ (e ++ X) = u' ++ (tl k ++ v') := by
    have : (X ++ (e ++ X)) ++ [41] = (u' ++ (tl k ++ v')) ++ [41] := by simpa using h
    exact List.append_cancel_right this
  rcases List.append_eq_append_iff.mp h2 with ⟨t, e1, e2⟩ | ⟨t, e1, e2⟩
  · exact .inr (.inl ⟨t, v', by rw [e2]⟩)
  · rcases List.append_eq_append_iff.mp e2 with ⟨t2, e3, e4⟩ | ⟨t2, e3, e4⟩
    · -- t = tl k ++ t2
      exact .inl ⟨u', t2, by rw [e1, e3]⟩
    · -- tl k = t ++ t2
      by_cases ht : t = []
      · subst ht
        rw [List.nil_append] at e3
        exact .inr (.inl ⟨[], v', by rw [e4, e3]; simp⟩)
      · by_cases ht2 : t2 = []
        · subst ht2
          rw [List.append_nil] at e3
          exact .inl ⟨u', [], by rw [e1, e3]; simp⟩
        · exact .inr (.inr ⟨u', t, t2, e1, ht, ht2, e3, v', e4⟩)
theorem dp_wrap {X e : List Nat} (hX : nc X ≤ 7) (he : e = [] ∨ e = [42] ∨ e = [62]) : Dp7 (wrp X e) := fun u k v h hu hv => by
  have d := dep_nc k.sz k (Nat.le_refl _)
  have e0 : nc e = 0 ∧ net e = 0 := by rcases he with rfl | rfl | rfl <;> exact ⟨rfl, rfl⟩
  have hv' : v ≠ [] := fun z => by rw [z] at hv; cases hv
  rcases twice h hu hv' with ⟨p, q, h1⟩ | ⟨p, q, h1⟩ | ⟨p, a, t, h1, ha, ht, h2, q, h3⟩
  · have := congrArg nc h1
    rw [nc_app, nc_app] at this; omega
  · have := congrArg nc h1
    rw [nc_app, nc_app, nc_app] at this; omega
  · rcases List.append_eq_append_iff.mp h3 with ⟨t2, h4, h5⟩ | ⟨t2, h4, h5⟩
    · -- t = e ++ t2, X = t2 ++ q
      have h6 : p ++ a = t2 ++ q := by rw [← h1, ← h5]
      rcases List.append_eq_append_iff.mp h6 with ⟨w, h7, h8⟩ | ⟨w, h7, h8⟩
      · -- t2 = p ++ w, a = w ++ q
        by_cases hw : w = []
        · subst hw
          have c1 := congrArg nc h2
          have c2 := congrArg nc h1
          rw [h4, h7, nc_app, nc_app, nc_app] at c1
          rw [nc_app] at c2
          rw [nc_nil] at c1
          omega
        · have f1 := (tl_front k.sz k (Nat.le_refl _) w (q ++ (e ++ (p ++ w))) (by rw [h2, h4, h7, h8]; simp)).2.2 hw (by simp [hw])
          have f2 := (tl_front k.sz k (Nat.le_refl _) (w ++ (q ++ (e ++ p))) w (by rw [h2, h4, h7, h8]; simp)).2.2 (by simp [hw]) hw
          have f3 := tl_net0 k
          rw [h2, h4, h7, h8] at f3
          simp only [net_app] at f1 f2 f3
          omega
      · -- p = t2 ++ w
        have c1 := congrArg nc h2
        have c2 := congrArg nc h1
        rw [h4, nc_app, nc_app] at c1
        rw [h7, nc_app, nc_app] at c2
        omega
    · -- e = t ++ t2
      have c1 := congrArg nc h2
      have c2 := congrArg nc h1
      have c3 := congrArg nc h4
      rw [nc_app] at c1 c2 c3
      omega
/-- levels from none to seven, all closed at the end; within it is never all closed -/
structure Lv (Y : List Nat) : Prop where
  all : ∀ a b, Y = a ++ b → 0 ≤ net a ∧ net a ≤ 7
  zero : net Y = 0
  in_ : ∀ a b, Y = a ++ b → a ≠ [] → b ≠ [] → 1 ≤ net a
theorem Lv.sub {Y p q : List Nat} {k : Kd} (h : Lv Y) (e : Y = p ++ (tl k ++ q)) : k.dep ≤ 7 := by
  obtain ⟨a, c, b, e1, lc, n⟩ := tl_deep k.sz k (Nat.le_refl _)
  have h1 := h.all p (tl k ++ q) e
  have h2 := h.all (p ++ a) (c :: b ++ q) (by rw [e, e1]; simp)
  rw [net_app] at h2
  omega
theorem lv_wrap {k0 : Kd} (h : k0.dep ≤ 6) {e : List Nat} (he : e = [] ∨ e = [42] ∨ e = [62]) : Lv (wrp (tl k0) e) := by
  have e0 : ∀ a b, e = a ++ b → net a = 0 := by
    intro a b z
    rcases he with rfl | rfl | rfl
    · have : a = [] := by have := z.symm; simp at this; exact this.1
      rw [this]; rfl
    · cases a with
      | nil => rfl
      | cons c a =>
        simp only [List.cons_append, List.cons.injEq] at z
        have : a = [] := by have := z.2.symm; simp at this; exact this.1
        rw [this, ← z.1]; rfl
    · cases a with
      | nil => rfl
      | cons c a =>
        simp only [List.cons_append, List.cons.injEq] at z
        have : a = [] := by have := z.2.symm; simp at this; exact this.1
        rw [this, ← z.1]; rfl
  have en := e0 e [] (by simp)
  have n0 := tl_net0 k0
  have key : ∀ a b, wrp (tl k0) e = a ++ b → 0 ≤ net a ∧ net a ≤ 7 ∧ (a ≠ [] → b ≠ [] → 1 ≤ net a) := by
    intro a b z
    unfold wrp at z
    cases a with
    | nil => exact ⟨by rw [net_nil]; omega, by rw [net_nil]; omega, fun z => absurd rfl z⟩
    | cons c a =>
      simp only [List.cons_append, List.cons.injEq] at z
      obtain ⟨rfl, z⟩ := z
      rw [net_cons, if_pos rfl, if_neg (by decide)]
      rcases List.append_eq_append_iff.mp z with ⟨t, z1, z2⟩ | ⟨t, z1, z2⟩
      · rw [z1, net_app, n0]
        rcases List.append_eq_append_iff.mp z2 with ⟨t2, z3, z4⟩ | ⟨t2, z3, z4⟩
        · rw [z3, net_app, en]
          rcases List.append_eq_append_iff.mp z4 with ⟨t3, z5, z6⟩ | ⟨t3, z5, z6⟩
          · rw [z5, net_app, n0]
            cases t3 with
            | nil => rw [net_nil]; exact ⟨by omega, by omega, fun _ _ => by omega⟩
            | cons d t3 =>
              simp only [List.cons_append, List.cons.injEq] at z6
              obtain ⟨rfl, z6⟩ := z6
              have h2 : t3 = [] ∧ b = [] := by have := z6.symm; simpa using this
              rw [h2.1, net_cons, net_nil, if_neg (by decide), if_pos rfl]
              exact ⟨by omega, by omega, fun _ z => absurd h2.2 z⟩
          · have := tl_front k0.sz k0 (Nat.le_refl _) t2 t3 z5
            exact ⟨by omega, by omega, fun _ _ => by omega⟩
        · have := e0 t t2 z3
          exact ⟨by omega, by omega, fun _ _ => by omega⟩
      · have := tl_front k0.sz k0 (Nat.le_refl _) a t z1
        exact ⟨by omega, by omega, fun _ _ => by omega⟩
  refine ⟨fun a b z => ⟨(key a b z).1, (key a b z).2.1⟩, ?_, fun a b z h1 h2 => (key a b z).2.2 h1 h2⟩
  unfold wrp
  rw [net_cons, net_app, net_app, net_app, n0, en]
  rfl
theorem dp_wrap2 {Y e : List Nat} (h : Lv Y) (he : e = [] ∨ e = [42] ∨ e = [62]) : Dp7 (wrp Y e) := fun u k v z hu hv => by
  have hv' : v ≠ [] := fun q => by rw [q] at hv; cases hv
  rcases twice z hu hv' with ⟨p, q, h1⟩ | ⟨p, q, h1⟩ | ⟨p, a, t, h1, ha, ht, h2, q, h3⟩
  · exact h.sub h1
  · obtain ⟨a, c, b, e1, lc, n⟩ := tl_deep k.sz k (Nat.le_refl _)
    have lev : ∀ a b, e ++ Y = a ++ b → 0 ≤ net a ∧ net a ≤ 7 := by
      intro a b z
      rcases List.append_eq_append_iff.mp z with ⟨t, z1, z2⟩ | ⟨t, z1, z2⟩
      · have en : net e = 0 := by rcases he with rfl | rfl | rfl <;> rfl
        have := h.all t b z2
        rw [z1, net_app, en]; omega
      · have en : net a = 0 := by
          rcases he with rfl | rfl | rfl
          · have : a = [] := by have := z1.symm; simp at this; exact this.1
            rw [this]; rfl
          · cases a with
            | nil => rfl
            | cons c a =>
              simp only [List.cons_append, List.cons.injEq] at z1
              have : a = [] := by have := z1.2.symm; simp at this; exact this.1
              rw [this, ← z1.1]; rfl
          · cases a with
            | nil => rfl
            | cons c a =>
              simp only [List.cons_append, List.cons.injEq] at z1
              have : a = [] := by have := z1.2.symm; simp at this; exact this.1
              rw [this, ← z1.1]; rfl
        omega
    have h2 := lev p (tl k ++ q) h1
    have h3 := lev (p ++ a) (c :: b ++ q) (by rw [h1, e1]; simp)
    rw [net_app] at h3
    omega
  · have f := (tl_front k.sz k (Nat.le_refl _) a t h2).2.2 ha ht
    have h4 := h.all p a h1
    have h5 := h.zero
    rw [h1, net_app] at h5
    omega
/-- what is put in: few signs, no more than one brace open ahead of a leaf -/
structure Sm (z : List Nat) : Prop where
  len : z.length ≤ 6
  lf : ∀ a c b, z = a ++ c :: b → leaf c → net a ≤ 1
theorem no_le (a : List Nat) : net a ≤ (a.length : Int) := by
  unfold net no
  have := List.count_le_length (a := 40) (l := a)
  omega
theorem dp_edit {Y y1 y0 y2 z : List Nat} (h : Lv Y) (hY : Y = y1 ++ (y0 ++ y2)) (hz : Sm z) : Dp7 (y1 ++ (z ++ y2)) := fun u k v e hu hv => by
  obtain ⟨a, c, b, e1, lc, n⟩ := tl_deep k.sz k (Nat.le_refl _)
  have h0 := tl_net0 k
  rw [e1, net_app] at h0
  have e2 : y1 ++ (z ++ y2) = (u ++ a) ++ (c :: (b ++ v)) := by rw [e, e1]; simp
  rcases List.append_eq_append_iff.mp e2 with ⟨t, z1, z2⟩ | ⟨t, z1, z2⟩
  · -- u ++ a = y1 ++ t, z ++ y2 = t ++ c :: ..
    rcases List.append_eq_append_iff.mp z2 with ⟨t2, z3, z4⟩ | ⟨t2, z3, z4⟩
    · -- t = z ++ t2, y2 = t2 ++ c :: (b ++ v)
      have l1 := (h.all (y1 ++ (y0 ++ t2)) (c :: (b ++ v)) (by rw [hY, z4]; simp)).2
      have l2 := (h.all (y1 ++ (y0 ++ (t2 ++ (c :: b)))) v (by rw [hY, z4]; simp)).1
      rw [net_app, net_app] at l1
      rw [net_app, net_app, net_app] at l2
      omega
    · -- z = t ++ t2, c :: (b ++ v) = t2 ++ y2
      cases t2 with
      | nil =>
        rw [List.nil_append] at z4
        have l1 := (h.all (y1 ++ y0) (c :: (b ++ v)) (by rw [hY, ← z4]; simp)).2
        have l2 := (h.all (y1 ++ (y0 ++ (c :: b))) v (by rw [hY, ← z4]; simp)).1
        rw [net_app] at l1
        rw [net_app, net_app] at l2
        omega
      | cons c' t2 =>
        simp only [List.cons_append, List.cons.injEq] at z4
        obtain ⟨rfl, z4⟩ := z4
        have lt := hz.lf t c t2 z3 lc
        rcases List.append_eq_append_iff.mp z1 with ⟨w, z5, z6⟩ | ⟨w, z5, z6⟩
        · -- y1 = u ++ w, a = w ++ t
          have l1 := h.all (u ++ w) (y0 ++ y2) (by rw [hY, z5])
          by_cases hw : w ++ (y0 ++ y2) = []
          · have : w = [] := by simpa using (List.append_eq_nil_iff.mp hw).1
            rw [z6, this, net_app, net_nil] at n
            omega
          · have l2 := h.in_ u (w ++ (y0 ++ y2)) (by rw [hY, z5]; simp) hu hw
            rw [net_app] at l1
            rw [z6, net_app] at n
            omega
        · -- u = y1 ++ w, t = w ++ a
          have l1 := no_le a
          have l2 := hz.len
          have l3 := congrArg List.length z3
          rw [z6] at l3
          simp only [List.length_append, List.length_cons] at l3
          omega
  · -- y1 = (u ++ a) ++ t
    have l1 := (h.all (u ++ a) (t ++ (y0 ++ y2)) (by rw [hY, z1]; simp)).2
    have l2 := (h.all u (a ++ (t ++ (y0 ++ y2))) (by rw [hY, z1]; simp)).1
    rw [net_app] at l1
    omega
theorem dp_turn {Y y1 y2 : List Nat} (h : Lv Y) (hY : Y = y1 ++ y2) : Dp7 (y2 ++ y1) := fun u k v e hu hv => by
  obtain ⟨a, c, b, e1, lc, n⟩ := tl_deep k.sz k (Nat.le_refl _)
  have h0 := tl_net0 k
  rw [e1, net_app] at h0
  have e2 : y2 ++ y1 = (u ++ a) ++ (c :: (b ++ v)) := by rw [e, e1]; simp
  rcases List.append_eq_append_iff.mp e2 with ⟨t, z1, z2⟩ | ⟨t, z1, z2⟩
  · -- u ++ a = y2 ++ t, y1 = t ++ c :: (b ++ v)
    have l1 := (h.all t (c :: (b ++ v) ++ y2) (by rw [hY, z2]; simp)).2
    have l2 := (h.all (t ++ (c :: b)) (v ++ y2) (by rw [hY, z2]; simp)).1
    rw [net_app] at l2
    omega
  · have l1 := (h.all (y1 ++ (u ++ a)) t (by rw [hY, z1]; simp)).2
    have l2 := (h.all (y1 ++ u) (a ++ t) (by rw [hY, z1]; simp)).1
    rw [net_app, net_app] at l1
    rw [net_app] at l2
    omega
/-- how a text is spoilt -/
inductive Sp : List Nat → List Nat → Prop where
  | edit {y1 y0 y2 z : List Nat} : Sm z → nc z ≤ nc y0 + 1 → z.length ≤ y0.length + 5 → Sp (y1 ++ (y0 ++ y2)) (y1 ++ (z ++ y2))
  | wrap {x e : List Nat} : (e = [] ∨ e = [42] ∨ e = [62]) → Sp x (wrp x e)
  | turn {y1 y2 : List Nat} : Sp (y1 ++ y2) (y2 ++ y1)
theorem Sp.len {s t : List Nat} (h : Sp s t) : t.length ≤ 2 * s.length + 5 := by
  cases h with
  | edit _ _ h => simp only [List.length_append] at *; omega
  | wrap he =>
    unfold wrp
    have : ∀ e : List Nat, (e = [] ∨ e = [42] ∨ e = [62]) → e.length ≤ 1 := by rintro _ (rfl | rfl | rfl) <;> simp
    have := this _ he
    simp only [List.length_append, List.length_cons, List.length_nil]; omega
  | turn => simp only [List.length_append]; omega
theorem Sp.nc {s t : List Nat} (h : Sp s t) : Kz.nc t ≤ Kz.nc s + 1 ∨ ∃ e, (e = [] ∨ e = [42] ∨ e = [62]) ∧ t = wrp s e := by
  cases h with
  | edit _ h _ => left; simp only [nc_app]; omega
  | wrap he => exact .inr ⟨_, he, rfl⟩
  | turn => left; simp only [nc_app]; omega
/-- the spoilt texts of this law -/
theorem dp_spoilt {k : Kd} (h6 : nc (tl k) ≤ 6) {s t : List Nat} (h1 : Sp (tl k) s) (h2 : Sp s t) : Dp7 t := by
  have d6 : k.dep ≤ 6 := by have := dep_nc k.sz k (Nat.le_refl _); omega
  rcases h1.nc with a1 | ⟨e, he, rfl⟩
  · rcases h2.nc with a2 | ⟨e2, he2, rfl⟩
    · exact dp_few (by omega)
    · exact dp_wrap (by omega) he2
  · have L := lv_wrap d6 he
    generalize hY : wrp (tl k) e = Y at *
    cases h2 with
    | edit hz _ _ => exact dp_edit L rfl hz
    | wrap he2 => exact dp_wrap2 L he2
    | turn => exact dp_turn L rfl
theorem dp_one {k : Kd} (h6 : nc (tl k) ≤ 6) {s : List Nat} (h1 : Sp (tl k) s) : Dp7 s := by
  rcases h1.nc with a1 | ⟨e, he, rfl⟩
  · exact dp_few (by omega)
  · exact dp_wrap (by omega) he
end Kz
namespace Kz
open PySem PySem.Spec PyProof.Rows L2 Kw
inductive It where
  | sg (c : Nat)
  | kd (k : Kd)
def It.d : It → D
  | .sg c => .str ⟨#[c]⟩
  | .kd k => k.d
def It.tl : It → List Nat
  | .sg c => [c]
  | .kd k => Kz.tl k
/-- the last ones, inmost first, put together -/
def clo : List It → Option (List It)
  | .kd b :: .sg s :: .kd a :: .sg p :: r => if p = 40 ∧ (s = 42 ∨ s = 62) then some (.kd (mk2 (decide (s = 42)) a b) :: r) else none
  | _ => none
def isSg (c : Nat) : Prop := c = 40 ∨ c = 42 ∨ c = 62
instance (c : Nat) : Decidable (isSg c) := inferInstanceAs (Decidable (_ ∨ _ ∨ _))
def stp (st : List It) (c : Nat) : Option (List It) :=
  if h : 97 ≤ c ∧ c ≤ 104 then some (.kd (.base ⟨c - 97, by omega⟩) :: st)
  else if c = 49 then some (.kd .unit :: st)
  else if c = 41 then clo st
  else if isSg c then some (.sg c :: st)
  else none
def rn : List It → List Nat → Option (List It)
  | st, [] => some st
  | st, c :: r => match stp st c with
    | some st' => rn st' r
    | none => none
def fin_ : List It → Option Kd
  | [.kd k] => some k
  | _ => none
def rd (s : List Nat) : Option Kd := match rn [] s with
  | some st => fin_ st
  | none => none
/-- a stack's text -/
def flt : List It → List Nat
  | [] => []
  | x :: st => flt st ++ x.tl
theorem clo_at {st st' : List It} (h : clo st = some st') : ∃ a b w r, st = .kd b :: .sg (mk_ w) :: .kd a :: .sg 40 :: r ∧ st' = .kd (mk2 w a b) :: r := by
  unfold clo at h
  split at h
  · rename_i b s a p r
    split at h
    · rename_i hc
      cases h
      obtain ⟨rfl, rfl | rfl⟩ := hc
      · exact ⟨a, b, true, r, rfl, rfl⟩
      · exact ⟨a, b, false, r, rfl, rfl⟩
    · cases h
  · cases h
theorem clo_mk (a b : Kd) (w : Bool) (r : List It) : clo (.kd b :: .sg (mk_ w) :: .kd a :: .sg 40 :: r) = some (.kd (mk2 w a b) :: r) := by
  cases w <;> simp [clo, mk_]
theorem stp_flt {st st' : List It} {c : Nat} (h : stp st c = some st') : flt st' = flt st ++ [c] ∧ st'.length ≤ st.length + 1 := by
  unfold stp at h
  split at h
  · rename_i hc
    cases h
    refine ⟨?_, by simp⟩
    show flt st ++ [97 + (c - 97)] = _
    rw [show 97 + (c - 97) = c by omega]
  split at h
  · rename_i hc
    cases h; subst hc; exact ⟨rfl, by simp⟩
  split at h
  · rename_i hc
    obtain ⟨a, b, w, r, rfl, rfl⟩ := clo_at h
    subst hc
    refine ⟨?_, by simp <;> omega⟩
    show flt r ++ tl (mk2 w a b) = flt r ++ [40] ++ tl a ++ [mk_ w] ++ tl b ++ [41]
    rw [tl_mk2]; simp
  split at h
  · cases h; exact ⟨rfl, by simp⟩
  · cases h
theorem rn_flt : ∀ (s : List Nat) {st st' : List It}, rn st s = some st' → flt st' = flt st ++ s
  | [], st, st', h => by simp only [rn] at h; cases h; simp
  | c :: s, st, st', h => by
    simp only [rn] at h
    split at h
    · rename_i st1 h1
      rw [rn_flt s h, (stp_flt h1).1]; simp
    · cases h
/-- the kind that is read has this text -/
theorem rd_tl {s : List Nat} {k : Kd} (h : rd s = some k) : s = tl k := by
  unfold rd at h
  split at h
  · rename_i st h1
    have := rn_flt s h1
    unfold fin_ at h
    split at h
    · cases h
      simpa [flt, It.tl] using this.symm
    · cases h
  · cases h
def Okt (st : List It) : Prop := ∀ c, It.sg c ∈ st → isSg c
theorem Okt.step {st st' : List It} {c : Nat} (ok : Okt st) (h : stp st c = some st') : Okt st' := by
  unfold stp at h
  split at h
  · cases h
    intro q hq
    rcases List.mem_cons.mp hq with z | z
    · cases z
    · exact ok q z
  split at h
  · cases h
    intro q hq
    rcases List.mem_cons.mp hq with z | z
    · cases z
    · exact ok q z
  split at h
  · obtain ⟨a, b, w, r, rfl, rfl⟩ := clo_at h
    intro q hq
    rcases List.mem_cons.mp hq with z | z
    · cases z
    · exact ok q (by simp [z])
  split at h
  · rename_i hc
    cases h
    intro q hq
    rcases List.mem_cons.mp hq with z | z
    · cases z; exact hc
    · exact ok q z
  · cases h
/-- the signs of the texts of this law -/
def AL : List Nat := [97, 98, 99, 100, 101, 102, 103, 104, 49, 40, 41, 42, 62, 105, 50, 32, 65, 60, 10]
theorem al_cases {c : Nat} (h : c ∈ AL) : (∃ i : _root_.Fin 8, c = 97 + i.val) ∨ c = 49 ∨ c = 41 ∨ isSg c ∨ c ∈ [105, 50, 32, 65, 60, 10] := by
  have key : ∀ c ∈ AL, (∃ i : _root_.Fin 8, c = 97 + i.val) ∨ c = 49 ∨ c = 41 ∨ (c = 40 ∨ c = 42 ∨ c = 62) ∨ c ∈ [105, 50, 32, 65, 60, 10] := by decide +kernel
  exact key c h
theorem stp_base (st : List It) (i : _root_.Fin 8) : stp st (97 + i.val) = some (.kd (.base i) :: st) := by
  have := i.isLt
  unfold stp
  rw [dif_pos (by omega)]
  congr 4
  exact Fin.ext (by simp)
theorem stp_unit (st : List It) : stp st 49 = some (.kd .unit :: st) := rfl
theorem stp_close (st : List It) : stp st 41 = clo st := rfl
theorem stp_sg (st : List It) {c : Nat} (h : isSg c) : stp st c = some (.sg c :: st) := by
  rcases h with rfl | rfl | rfl <;> rfl
theorem stp_bad (st : List It) {c : Nat} (h : c ∈ [105, 50, 32, 65, 60, 10]) : stp st c = none := by
  simp only [List.mem_cons, List.not_mem_nil, or_false] at h
  rcases h with rfl | rfl | rfl | rfl | rfl | rfl <;> rfl
def dst (st : List It) : List D := st.reverse.map It.d
theorem dst_cons (x : It) (st : List It) : dst (x :: st) = dst st ++ [x.d] := by simp [dst]
theorem dst_len (st : List It) : (dst st).length = st.length := by simp [dst]
theorem dst4 (x y z w : It) (r : List It) : dst (x :: y :: z :: w :: r) = dst r ++ [w.d, z.d, y.d, x.d] := by simp [dst]
theorem ne_kd_str {k : Kd} {z : Str} (hz : PyData.strOk z = true) (S : Store) : gNe k.d (.str z) S = .ok (.bl true) S := by
  cases k <;> simp [Kd.d, gNe, eqE, pyS, pySL, okPy, PyData.canLay0, PyData.canLayAll0, PyData.depth, PyData.depthAll, PyData.eqv, seqL, hz]
end Kz
namespace Kz
open PySem PySem.Spec PyProof.Rows L2 Kw
theorem cut_exT {S T : Store} {x : Str} : cutR S (.ex ⟨x, [], []⟩ (S ++ T)) = .ex ⟨x, [], []⟩ S := by
  unfold cutR
  simp only
  rw [if_pos ⟨rfl, by simp, fun i c hi h => .inl (by rw [List.getElem?_append_left hi] at h; exact h)⟩]
  simp
theorem clo_short {st : List It} (h : st.length < 4) : clo st = none := by
  unfold clo
  split
  · simp at h
    omega
  · rfl
theorem d_mk (b : Bool) : (It.sg (mk_ b)).d = .str (sg b) := by cases b <;> rfl
section
variable {S : Store}
theorem ne_op {w : It} (hw : ∀ c, w = .sg c → isSg c) : w = .sg 40 ∨ (w ≠ .sg 40 ∧ gNe w.d (.str "(") S = .ok (.bl true) S) := by
  cases w with
  | kd k => exact .inr ⟨by simp, ne_kd_str (by decide +kernel) S⟩
  | sg c =>
    rcases hw c rfl with rfl | rfl | rfl
    · exact .inl rfl
    · exact .inr ⟨by simp, rfl⟩
    · exact .inr ⟨by simp, rfl⟩
theorem in_sgs {y : It} (hy : ∀ c, y = .sg c → isSg c) (hk : ∀ k, y = .kd k → k.dep ≤ 7) : (∃ b, y = .sg (mk_ b) ∧ gInMx true "SIGNS" kv_SIGNS y.d (.glo "SIGNS") S = .ok (.bl false) S) ∨ ((∀ b, y ≠ .sg (mk_ b)) ∧ gInMx true "SIGNS" kv_SIGNS y.d (.glo "SIGNS") S = .ok (.bl true) S) := by
  cases y with
  | kd k => exact .inr ⟨by simp, gInMx_kd k (hk k rfl)⟩
  | sg c =>
    rcases hy c rfl with rfl | rfl | rfl
    · refine .inr ⟨fun b => by cases b <;> simp [mk_], ?_⟩
      show gInMx true "SIGNS" kv_SIGNS (.str "(") (.glo "SIGNS") S = _
      simp [kv_SIGNS, List.lookup]
    · refine .inl ⟨true, rfl, ?_⟩
      show gInMx true "SIGNS" kv_SIGNS (.str "*") (.glo "SIGNS") S = _
      simp [kv_SIGNS, List.lookup]
    · refine .inl ⟨false, rfl, ?_⟩
      show gInMx true "SIGNS" kv_SIGNS (.str ">") (.glo "SIGNS") S = _
      simp [kv_SIGNS, List.lookup]
theorem tup_kd (k : Kd) : isiR "tuple" k.d S = .ok (.bl true) S := by cases k <;> simp [Kd.d]
theorem is_kd (z : It) : (∃ k, z = .kd k) ∨ ((∀ k, z ≠ .kd k) ∧ isiR "tuple" z.d S = .ok (.bl false) S) := by
  cases z with
  | kd k => exact .inl ⟨k, rfl⟩
  | sg c => exact .inr ⟨by simp, by show isiR "tuple" (.str ⟨#[c]⟩) S = _; simp⟩
end
theorem clo_none {x y z w : It} {r : List It} (h : w ≠ .sg 40 ∨ (∀ b, y ≠ .sg (mk_ b)) ∨ (∀ k, z ≠ .kd k) ∨ ∀ k, x ≠ .kd k) : clo (x :: y :: z :: w :: r) = none := by
  cases hc : clo (x :: y :: z :: w :: r) with
  | none => rfl
  | some st' =>
    obtain ⟨a, b, s, r', e, _⟩ := clo_at hc
    simp only [List.cons.injEq] at e
    obtain ⟨rfl, rfl, rfl, rfl, _⟩ := e
    rcases h with h | h | h | h
    · exact absurd rfl h
    · exact absurd rfl (h s)
    · exact absurd rfl (h a)
    · exact absurd rfl (h b)
def exT (S : Store) : RE D := .ex ⟨"NoText", [], []⟩ S
theorem closed_any {n : Nat} (h : 1 ≤ n) {S : Store} {st : List It} {a : Nat} (ok : Okt st) (hc : Kw.cellOf S a = some (dst st)) (hl : st.length ≤ 1000) (hd : ∀ x1 k x3 r, st = x1 :: .kd k :: x3 :: .sg 40 :: r → k.dep ≤ 7) :
    (∃ st', clo st = some st' ∧ ev n .f_closed [.loc a] S = .ok (.loc S.length) (S ++ [.lst (dst st')])) ∨ (clo st = none ∧ ev n .f_closed [.loc a] S = exT S) := by
  have h8 : sizeLine = 16777216 := rfl
  have hlen : gLen [.loc a] S = .ok (.int ((st.length : Nat) : Int)) S := by
    simp [gLen, seqA, hc, dst_len]
  by_cases h4 : st.length < 4
  · right
    refine ⟨clo_short h4, ?_⟩
    obtain ⟨m, rfl, h'⟩ := up h
    have hlt : ((st.length : Nat) : Int) < 4 := by omega
    rw [ev, b_closed]
    generalize ((st.length : Nat) : Int) = N at *
    simp [hlen, hlt, exT]
  · have hs : ∃ x y z w r, st = x :: y :: z :: w :: r := by
      match st with
      | [] => exact absurd (by decide) h4
      | [_] => exact absurd (by simp) h4
      | [_, _] => exact absurd (by simp) h4
      | [_, _, _] => exact absurd (by simp) h4
      | x :: y :: z :: w :: r => exact ⟨x, y, z, w, r, rfl⟩
    obtain ⟨x, y, z, w, r, rfl⟩ := hs
    · 
      have hlt : ¬ (((x :: y :: z :: w :: r).length : Nat) : Int) < 4 := by simp; omega
      generalize (((x :: y :: z :: w :: r).length : Nat) : Int) = N at *
      rw [dst4] at hc
      obtain ⟨i4, i3, i2, i1⟩ := back_ix (dst r) w.d z.d y.d x.d
      have r4 : ixR (dst r ++ [w.d, z.d, y.d, x.d]) (-4) S = .ok w.d S := by unfold ixR; rw [i4]
      have r3 : ixR (dst r ++ [w.d, z.d, y.d, x.d]) (-3) S = .ok z.d S := by unfold ixR; rw [i3]
      have r2 : ixR (dst r ++ [w.d, z.d, y.d, x.d]) (-2) S = .ok y.d S := by unfold ixR; rw [i2]
      have r1 : ixR (dst r ++ [w.d, z.d, y.d, x.d]) (-1) S = .ok x.d S := by unfold ixR; rw [i1]
      rcases ne_op (S := S) (w := w) (fun c e => ok c (by rw [← e]; simp)) with rfl | ⟨hw, nw⟩
      · rcases in_sgs (S := S) (y := y) (fun c e => ok c (by rw [← e]; simp)) (fun k e => hd x k z r (by rw [e])) with ⟨b, rfl, ny⟩ | ⟨hy, ny⟩
        · rcases is_kd (S := S) z with ⟨k3, rfl⟩ | ⟨hz, nz⟩
          · rcases is_kd (S := S) x with ⟨k1, rfl⟩ | ⟨hx, nx⟩
            · left
              refine ⟨_, clo_mk k3 k1 b r, ?_⟩
              have e := closed_kd (n := n) (S := S) (st := dst r) (a := a) (x := k3) (y := k1) (b := b) h (by rw [hc, d_mk]; rfl) (by rw [dst_len, h8]; simp at hl; omega)
              rw [e, dst_cons]; rfl
            · right
              refine ⟨clo_none (.inr (.inr (.inr hx))), ?_⟩
              obtain ⟨m, rfl, h'⟩ := up h
              have n0 : gNe (It.sg 40).d (.str "(") S = .ok (.bl false) S := rfl
              have t3 : isiR "tuple" (It.kd k3).d S = .ok (.bl true) S := tup_kd (S := S) k3
              rw [ev, b_closed]
              generalize (It.sg 40).d = W at *
              generalize (It.sg (mk_ b)).d = Y at *
              generalize (It.kd k3).d = Z at *
              generalize x.d = XX at *
              simp [hlen, hlt, hc, r4, r3, r2, r1, n0, ny, t3, nx, exT]
          · right
            refine ⟨clo_none (.inr (.inr (.inl hz))), ?_⟩
            obtain ⟨m, rfl, h'⟩ := up h
            have n0 : gNe (It.sg 40).d (.str "(") S = .ok (.bl false) S := rfl
            rw [ev, b_closed]
            generalize (It.sg 40).d = W at *
            generalize (It.sg (mk_ b)).d = Y at *
            generalize z.d = Z at *
            generalize x.d = XX at *
            simp [hlen, hlt, hc, r4, r3, r2, r1, n0, ny, nz, exT]
        · right
          refine ⟨clo_none (.inr (.inl hy)), ?_⟩
          obtain ⟨m, rfl, h'⟩ := up h
          have n0 : gNe (It.sg 40).d (.str "(") S = .ok (.bl false) S := rfl
          rw [ev, b_closed]
          generalize (It.sg 40).d = W at *
          generalize y.d = Y at *
          generalize z.d = Z at *
          generalize x.d = XX at *
          simp [hlen, hlt, hc, r4, r3, r2, r1, n0, ny, exT]
      · right
        refine ⟨clo_none (.inl hw), ?_⟩
        obtain ⟨m, rfl, h'⟩ := up h
        rw [ev, b_closed]
        generalize w.d = W at *
        generalize y.d = Y at *
        generalize z.d = Z at *
        generalize x.d = XX at *
        simp [hlen, hlt, hc, r4, r3, r2, r1, nw, exT]
end Kz
namespace Kz
open PySem PySem.Spec PyProof.Rows L2 Kw
def cd (c : Nat) : D := .str ⟨#[c]⟩
theorem isx_is (c : Nat) (h : isSg c) : (⟨#[c]⟩ : Str) = Str.ofString "(" ∨ (⟨#[c]⟩ : Str) = Str.ofString "*" ∨ (⟨#[c]⟩ : Str) = Str.ofString ">" := by
  rcases h with rfl | rfl | rfl
  · exact .inl rfl
  · exact .inr (.inl rfl)
  · exact .inr (.inr rfl)
/-- what is asked of a text, from a stack on -/
def Asks (st : List It) (s : List Nat) : Prop := ∀ p q st', s = p ++ 41 :: q → rn st p = some st' → ∀ x1 k x3 r, st' = x1 :: .kd k :: x3 :: .sg 40 :: r → k.dep ≤ 7
theorem Asks.step {st st' : List It} {c : Nat} {s : List Nat} (h : Asks st (c :: s)) (e : stp st c = some st') : Asks st' s := fun p q st2 h1 h2 => h (c :: p) q st2 (by rw [h1]; rfl) (by simp only [rn, e]; exact h2)
theorem Dp7.asks {s : List Nat} (h : Dp7 s) : Asks [] s := fun p q st' h1 h2 x1 k x3 r h3 => by
  have f := rn_flt p h2
  rw [h3] at f
  have f2 : p = (flt r ++ [40] ++ x3.tl) ++ (tl k ++ x1.tl) := by
    have : flt (x1 :: .kd k :: x3 :: .sg 40 :: r) = [] ++ p := f
    rw [List.nil_append] at this
    rw [← this]
    simp [flt, It.tl]
  exact h (flt r ++ [40] ++ x3.tl) k (x1.tl ++ 41 :: q) (by rw [h1, f2]; simp) (by simp) (by simp)
theorem bad_go {m : Nat} {S : Store} {n c : Nat} (h : c ∈ [105, 50, 32, 65, 60, 10]) {t : Option D} : l_read_kind_0 (ev m) [t, some (.loc n), some (cd c)] S = .ex ⟨"NoText", [], []⟩ [t, some (.loc n), some (cd c)] S := by
  have g : ∀ c ∈ [105, 50, 32, 65, 60, 10], (!(Builtin.Str.occurrences (Str.ofString "abcdefgh") ⟨#[c]⟩ 0 (Str.ofString "abcdefgh").length 1).isEmpty) = false ∧ ((⟨#[c]⟩ : Str) == Str.ofString "1") = false ∧ ((⟨#[c]⟩ : Str) == Str.ofString ")") = false ∧ ((⟨#[c]⟩ : Str) == Str.ofString "(") = false ∧ ((⟨#[c]⟩ : Str) == Str.ofString "*") = false ∧ ((⟨#[c]⟩ : Str) == Str.ofString ">") = false := by decide +kernel
  obtain ⟨g1, g2, g3, g4, g5, g6⟩ := g c h
  have i1 : gIn false (cd c) (.str "abcdefgh") S = .ok (.bl false) S := by
    show RE.ok (D.bl (!(Builtin.Str.occurrences (Str.ofString "abcdefgh") ⟨#[c]⟩ 0 (Str.ofString "abcdefgh").length 1).isEmpty)) S = _
    rw [g1]
  have e2 : gEq (cd c) (.str "1") S = .ok (.bl false) S := by show RE.ok (D.bl ((⟨#[c]⟩ : Str) == Str.ofString "1")) S = _; rw [g2]
  have e3 : gEq (cd c) (.str ")") S = .ok (.bl false) S := by show RE.ok (D.bl ((⟨#[c]⟩ : Str) == Str.ofString ")")) S = _; rw [g3]
  have e4 : gEq (cd c) (.str "(") S = .ok (.bl false) S := by show RE.ok (D.bl ((⟨#[c]⟩ : Str) == Str.ofString "(")) S = _; rw [g4]
  have e5 : gInG false "SIGNS" kv_SIGNS (cd c) (.glo "SIGNS") S = .ok (.bl false) S := by
    show gInG false "SIGNS" kv_SIGNS (.str ⟨#[c]⟩) (.glo "SIGNS") S = _
    rw [gInG_str]
    simp [kv_SIGNS, List.lookup, g5, g6]
  rw [l_read_kind_0]
  generalize cd c = C at *
  simp [i1, e2, e3, e4, e5]
theorem rd_any {m : Nat} (hm : 1 ≤ m) {S0 : Store} {t : Option D} : ∀ (s : List Nat) {st : List It} {S : Store} {n : Nat} {x : Option D}, (∀ c ∈ s, c ∈ AL) → Okt st → Stk S0 S n (dst st) → st.length + s.length ≤ 900 → Asks st s →
    (∃ st' n' S' x', rn st s = some st' ∧ Stk S0 S' n' (dst st') ∧ rL m (s.map cd) [t, some (.loc n), x] S = .nx [t, some (.loc n'), x'] S') ∨ (rn st s = none ∧ ∃ ρ T, rL m (s.map cd) [t, some (.loc n), x] S = .ex ⟨"NoText", [], []⟩ ρ (S0 ++ T))
  | [], st, S, n, x, _, _, h, _, _ => .inl ⟨st, n, S, x, rfl, h, by simp [rL]⟩
  | c :: s, st, S, n, x, ha, ok, h, hl, hd => by
    have h8 : sizeLine = 16777216 := rfl
    simp only [List.length_cons] at hl
    have ha' := fun c hc => ha c (List.mem_cons_of_mem _ hc)
    have ll : (dst st).length < sizeLine := by rw [dst_len, h8]; omega
    -- one step done
    have go : ∀ {st1 : List It} {n1 : Nat} {S1 : Store}, stp st c = some st1 → Stk S0 S1 n1 (dst st1) → (rL m (cd c :: s.map cd) [t, some (.loc n), x] S = rL m (s.map cd) [t, some (.loc n1), some (cd c)] S1) →
        (∃ st' n' S' x', rn st (c :: s) = some st' ∧ Stk S0 S' n' (dst st') ∧ rL m ((c :: s).map cd) [t, some (.loc n), x] S = .nx [t, some (.loc n'), x'] S') ∨ (rn st (c :: s) = none ∧ ∃ ρ T, rL m ((c :: s).map cd) [t, some (.loc n), x] S = .ex ⟨"NoText", [], []⟩ ρ (S0 ++ T)) := by
      intro st1 n1 S1 e1 h1 e2
      have l1 := (stp_flt e1).2
      rcases rd_any hm s (x := some (cd c)) ha' (ok.step e1) h1 (by omega) (hd.step e1) with ⟨st', n', S', x', r1, r2, r3⟩ | ⟨r1, ρ, T, r2⟩
      · exact .inl ⟨st', n', S', x', by simp only [rn, e1]; exact r1, r2, by rw [List.map_cons, e2, r3]⟩
      · exact .inr ⟨by simp only [rn, e1]; exact r1, ρ, T, by rw [List.map_cons, e2, r2]⟩
    rcases al_cases (ha c List.mem_cons_self) with ⟨i, rfl⟩ | rfl | rfl | hs | hb
    · obtain ⟨S1, h1, e1⟩ := rd_base (m := m) (r := s.map cd) (t := t) (x := x) i h ll
      exact go (stp_base st i) (by rw [dst_cons]; exact h1) e1
    · obtain ⟨S1, h1, e1⟩ := rd_unit (m := m) (r := s.map cd) (t := t) (x := x) h ll
      exact go (stp_unit st) (by rw [dst_cons]; exact h1) e1
    · have i1 := in_sign ")" (by decide +kernel) S
      rcases closed_any (n := m) (S := S) (a := n) hm ok (cellOf_of h.at_) (by omega) (hd [] s st rfl rfl) with ⟨st', c1, c2⟩ | ⟨c1, c2⟩
      · refine go (n1 := S.length) (S1 := S ++ [.lst (dst st')]) (by rw [stp_close]; exact c1) ⟨?_, ?_, by simp⟩ ?_
        · obtain ⟨T, rfl⟩ := h.pre
          exact ⟨T ++ [.lst (dst st')], by simp⟩
        · obtain ⟨T, rfl⟩ := h.pre
          simp
        · show forL _ _ _ _ _ _ = _
          rw [forL_cons]
          have hb : l_read_kind_0 (ev m) [t, some (.loc n), some (cd 41)] S = .nx [t, some (.loc S.length), some (cd 41)] (S ++ [.lst (dst st')]) := by
            show l_read_kind_0 (ev m) [t, some (.loc n), some (.str ")")] S = .nx [t, some (.loc S.length), some (.str ")")] _
            rw [l_read_kind_0]
            simp [i1, c2]
          simp [hb]
      · right
        refine ⟨by simp only [rn, stp_close, c1], [t, some (.loc n), some (cd 41)], ?_⟩
        obtain ⟨T, hT⟩ := h.pre
        refine ⟨T, ?_⟩
        rw [← hT]
        show forL _ _ _ (cd 41 :: s.map cd) _ _ = _
        rw [forL_cons]
        have hb : l_read_kind_0 (ev m) [t, some (.loc n), some (cd 41)] S = .ex ⟨"NoText", [], []⟩ [t, some (.loc n), some (cd 41)] S := by
          show l_read_kind_0 (ev m) [t, some (.loc n), some (.str ")")] S = .ex _ [t, some (.loc n), some (.str ")")] _
          rw [l_read_kind_0]
          unfold exT at c2
          simp [i1, c2]
        simp [hb]
    · obtain ⟨S1, h1, e1⟩ := rd_sign (m := m) (r := s.map cd) (t := t) (x := x) (isx_is c hs) h ll
      exact go (stp_sg st hs) (by rw [dst_cons]; exact h1) e1
    · right
      refine ⟨by simp only [rn, stp_bad st hb], [t, some (.loc n), some (cd c)], ?_⟩
      obtain ⟨T, hT⟩ := h.pre
      refine ⟨T, ?_⟩
      rw [← hT]
      show forL _ _ _ (cd c :: s.map cd) _ _ = _
      rw [forL_cons]
      have hg := bad_go (m := m) (S := S) (n := n) hb (t := t)
      generalize cd c = C at *
      simp [hg]
/-- the signs of a text -/
def sgs (z : Str) : List Nat := z.cps.toList
theorem chrs_sgs (z : Str) : chrs z = (sgs z).map cd := rfl
theorem read_any {n : Nat} {S : Store} (h : 2 ≤ n) {z : Str} (ha : ∀ c ∈ sgs z, c ∈ AL) (hl : (sgs z).length ≤ 800) (hd : Dp7 (sgs z)) : ev n .f_read_kind [.str z] S = match rd (sgs z) with
    | some k => .ok k.d S
    | none => exT S := by
  obtain ⟨m, rfl, h'⟩ := up h
  have h0 : Stk S (S ++ [.lst []]) S.length (dst []) := ⟨⟨_, rfl⟩, Nat.le_refl _, by simp [dst]⟩
  have r0 := rd_any (m := m) h' (t := some (.str z)) (sgs z) (x := none) ha (fun c hc => by cases hc) h0 (by simp; omega) hd.asks
  rw [← chrs_sgs] at r0
  rw [ev, fnC_ap]
  rcases r0 with ⟨st, n', S', x', r1, r2, r3⟩ | ⟨r1, ρ, T, r2⟩
  · obtain ⟨T, rfl⟩ := r2.pre
    have hc : Kw.cellOf (S ++ T) n' = some (dst st) := cellOf_of r2.at_
    have hlen : gLen [.loc n'] (S ++ T) = .ok (.int ((st.length : Nat) : Int)) (S ++ T) := by simp [gLen, seqA, hc, dst_len]
    have e : rd (sgs z) = fin_ st := by unfold rd; rw [r1]
    rw [e]
    simp only [rL] at r3
    rcases st with _ | ⟨y, _ | ⟨y2, st⟩⟩
    · show _ = exT S
      have : fnB 1 3 (b_read_kind (ev m)) [.str z] S = .ex ⟨"NoText", [], []⟩ (S ++ T) := by
        rw [b_read_kind]
        simp [r3, hlen]
      rw [this, cut_exT]; rfl
    · cases y with
      | kd k =>
      show _ = RE.ok k.d S
      have ht := tup_kd (S := S ++ T) k
      have hx : ixR (dst [.kd k]) 0 (S ++ T) = .ok k.d (S ++ T) := rfl
      have : fnB 1 3 (b_read_kind (ev m)) [.str z] S = .ok k.d (S ++ T) := by
        rw [b_read_kind]
        generalize k.d = X at *
        simp [r3, hlen, hc, hx, ht]
      rw [this]
      exact cut_ok _ (Kd.und_d _ _)
      | sg c =>
      show _ = exT S
      have hx : ixR (dst [.sg c]) 0 (S ++ T) = .ok (.str ⟨#[c]⟩) (S ++ T) := rfl
      have : fnB 1 3 (b_read_kind (ev m)) [.str z] S = .ex ⟨"NoText", [], []⟩ (S ++ T) := by
        rw [b_read_kind]
        simp [r3, hlen, hc, hx]
      rw [this, cut_exT]; rfl
    · have : fin_ (y :: y2 :: st) = none := by unfold fin_; split <;> simp_all
      rw [this]
      show _ = exT S
      have hne : ¬ (((y :: y2 :: st).length : Nat) : Int) = 1 := by simp; omega
      generalize (((y :: y2 :: st).length : Nat) : Int) = N at *
      have : fnB 1 3 (b_read_kind (ev m)) [.str z] S = .ex ⟨"NoText", [], []⟩ (S ++ T) := by
        rw [b_read_kind]
        simp [r3, hlen, hne]
      rw [this, cut_exT]; rfl
  · have e : rd (sgs z) = none := by unfold rd; rw [r1]
    rw [e]
    show _ = exT S
    simp only [rL] at r2
    have : fnB 1 3 (b_read_kind (ev m)) [.str z] S = .ex ⟨"NoText", [], []⟩ (S ++ T) := by
      rw [b_read_kind]
      simp [r2]
    rw [this, cut_exT]; rfl
end Kz
namespace Kz
open PySem PySem.Spec PyProof.Rows L2 Kw
theorem cut5 {α : Type} (st : List α) (w z y x v : α) : cutL (st ++ [w, z, y, x, v]) (some (-5)) none = [w, z, y, x, v] ∧ cutL (st ++ [w, z, y, x, v]) none (some (-5)) = st := by
  have hl : (st ++ [w, z, y, x, v]).length = st.length + 5 := by simp
  have e0 : HT.sIx (st.length + 5) 0 none = 0 := rfl
  have e1 : HT.sIx (st.length + 5) (st.length + 5) none = st.length + 5 := rfl
  have e2 : HT.sIx (st.length + 5) (st.length + 5) (some (-5)) = st.length := by
    show (if (-5 : Int) < 0 then ((-5 : Int) + ((st.length + 5 : Nat) : Int)).toNat else min (-5 : Int).toNat (st.length + 5)) = _
    rw [if_pos (by decide)]; omega
  have e3 : HT.sIx (st.length + 5) 0 (some (-5)) = st.length := by
    show (if (-5 : Int) < 0 then ((-5 : Int) + ((st.length + 5 : Nat) : Int)).toNat else min (-5 : Int).toNat (st.length + 5)) = _
    rw [if_pos (by decide)]; omega
  constructor
  · unfold cutL
    rw [hl, e1, e3]
    simp
  · unfold cutL
    rw [hl, e0, e2]
    simp
theorem cut5s {α : Type} {st : List α} (h : st.length < 5) : (cutL st (some (-5)) none).length < 5 := by
  unfold cutL
  simp
  omega
noncomputable abbrev kL (m : Nat) : List D → FS := forL (gN 2) (l__law_kind_in_0 (ev m)) none
section
variable {m n : Nat} {S : Store} {t x3 : Option D} {ds : List D}
theorem in_abc {c : Nat} : gIn false (cd c) (.str "abcdefgh") S = .ok (.bl (!(Builtin.Str.occurrences (Str.ofString "abcdefgh") ⟨#[c]⟩ 0 (Str.ofString "abcdefgh").length 1).isEmpty)) S := rfl
theorem in_ops {c : Nat} : gIn true (cd c) (.str "(*>") S = .ok (.bl (!(!(Builtin.Str.occurrences (Str.ofString "(*>") ⟨#[c]⟩ 0 (Str.ofString "(*>").length 1).isEmpty))) S := rfl
theorem app_cd (hS : S[n]? = some (.lst ds)) (hl : ds.length < sizeLine) {c : Nat} : sExp (fMth gAppend (fVar 1) (fCons (fVar 2) fNil)) [t, some (.loc n), some (cd c), x3] S = .nx [t, some (.loc n), some (cd c), x3] (S.set n (.lst (ds ++ [cd c]))) := by
  have ha : gAppend (.loc n) [cd c] S = .ok .non (S.set n (.lst (ds ++ [cd c]))) := gAppend_loc (cellM_of hS) hl
  have hm := fun (ρ : FEnv) (fa : FA) => mth_app (ρ := ρ) (fa := fa) hS
  generalize cd c = C at *
  simp [hm, ha]
theorem set_last (hS : S[n]? = some (.lst ds)) {c : Nat} {d : D} {fe : FE} (he : ∀ T, fe [t, some (.loc n), some (cd c), x3] T = .ok d T) :
    sAsg fe (gSb (fVar 1) (f1 gNeg (fC (.int 1)))) [t, some (.loc n), some (cd c), x3] (S.set n (.lst (ds ++ [cd c]))) = .nx [t, some (.loc n), some (cd c), x3] (S.set n (.lst (ds ++ [d]))) := by
  have hn := lt_of_at hS
  have h2 : (S.set n (.lst (ds ++ [cd c])))[n]? = some (.lst (ds ++ [cd c])) := List.getElem?_set_self hn
  have hx : L2.ixN (ds ++ [cd c]).length (-1) = some ds.length := by
    unfold L2.ixN
    rw [if_neg (by omega)]
    simp
    omega
  have hx' : L2.ixN (ds.length + 1) (-1) = some ds.length := by simpa using hx
  have hc := cellM_of h2
  generalize cd c = C at *
  simp [he, gSb, gSetI, hc, hx', List.set_set]
end
theorem ki_base {m n : Nat} {S : Store} {t x3 : Option D} {st : List It} (hS : S[n]? = some (.lst (dst st))) (hl : (dst st).length < sizeLine) (i : _root_.Fin 8) :
    l__law_kind_in_0 (ev m) [t, some (.loc n), some (cd (97 + i.val)), x3] S = .nx [t, some (.loc n), some (cd (97 + i.val)), x3] (S.set n (.lst (dst (.kd (.base i) :: st)))) := by
  have e0 := app_cd (t := t) (x3 := x3) hS hl (c := 97 + i.val)
  have f1 : ∀ i : _root_.Fin 8, ((⟨#[97 + i.val]⟩ : Str) == Str.ofString "1") = false := by decide +kernel
  have g1 : ∀ T, gEq (cd (97 + i.val)) (.str "1") T = .ok (.bl false) T := fun T => by
    show RE.ok (D.bl ((⟨#[97 + i.val]⟩ : Str) == Str.ofString "1")) T = _
    rw [f1 i]
  have g2 : ∀ T, gIn false (cd (97 + i.val)) (.str "abcdefgh") T = .ok (.bl true) T := fun T => in_letter i T
  have i2 := ix_letter i
  have e1 := set_last (t := t) (x3 := x3) hS (c := 97 + i.val) (d := (Kd.base i).d) (fe := fArg mkTup (fCons (fC (.str "base")) (fCons (fStrIx (fC (.str "abcdefgh")) (fVar 2)) fNil))) (fun T => by
    have hcd : cd (97 + i.val) = .str ⟨#[97 + i.val]⟩ := rfl
    rw [hcd]
    simp [fStrIx, i2, Kd.d])
  rw [dst_cons]
  show _ = RS.nx _ (S.set n (.lst (dst st ++ [(Kd.base i).d])))
  generalize hT : S.set n (.lst (dst st ++ [cd (97 + i.val)])) = T at *
  rw [l__law_kind_in_0, sSeq_ap, e0, sb_nx]
  generalize cd (97 + i.val) = C at *
  simp only [sIf_ap, fB_ap, f2_ap, fVar_z, fVar_s, fC_ap, bnd_ok, g1, g2, toB_bl, toS_ok, if_true, Bool.false_eq_true, if_false]
  exact e1
end Kz
namespace Kz
open PySem PySem.Spec PyProof.Rows L2 Kw
section
variable {m n : Nat} {S : Store} {t x3 : Option D} {st : List It}
theorem ki_unit (hS : S[n]? = some (.lst (dst st))) (hl : (dst st).length < sizeLine) :
    l__law_kind_in_0 (ev m) [t, some (.loc n), some (cd 49), x3] S = .nx [t, some (.loc n), some (cd 49), x3] (S.set n (.lst (dst (.kd .unit :: st)))) := by
  have e0 := app_cd (t := t) (x3 := x3) hS hl (c := 49)
  have g1 : ∀ T, gEq (cd 49) (.str "1") T = .ok (.bl true) T := fun T => rfl
  have e1 := set_last (t := t) (x3 := x3) hS (c := 49) (d := Kd.unit.d) (fe := fArg mkTup (fCons (fC (.str "unit")) fNil)) (fun T => by simp [Kd.d])
  rw [dst_cons]
  show _ = RS.nx _ (S.set n (.lst (dst st ++ [Kd.unit.d])))
  generalize hT : S.set n (.lst (dst st ++ [cd 49])) = T at *
  rw [l__law_kind_in_0, sSeq_ap, e0, sb_nx]
  generalize cd 49 = C at *
  simp only [sIf_ap, fB_ap, f2_ap, fVar_z, fVar_s, fC_ap, bnd_ok, g1, toB_bl, toS_ok, if_true, Bool.false_eq_true, if_false]
  exact e1
/-- what is seen of a sign that is no leaf -/
structure Sn (c : Nat) (cl op : Bool) : Prop where
  one : ((⟨#[c]⟩ : Str) == Str.ofString "1") = false
  abc : (!(Builtin.Str.occurrences (Str.ofString "abcdefgh") ⟨#[c]⟩ 0 (Str.ofString "abcdefgh").length 1).isEmpty) = false
  cls : ((⟨#[c]⟩ : Str) == Str.ofString ")") = cl
  ops : (!(Builtin.Str.occurrences (Str.ofString "(*>") ⟨#[c]⟩ 0 (Str.ofString "(*>").length 1).isEmpty) = op
theorem sn_sg {c : Nat} (h : isSg c) : Sn c false true := by
  rcases h with rfl | rfl | rfl <;> exact ⟨by decide +kernel, by decide +kernel, by decide +kernel, by decide +kernel⟩
theorem sn_cl : Sn 41 true false := ⟨by decide +kernel, by decide +kernel, by decide +kernel, by decide +kernel⟩
theorem sn_bad {c : Nat} (h : c ∈ [105, 50, 32, 65, 60, 10]) : Sn c false false := by
  simp only [List.mem_cons, List.not_mem_nil, or_false] at h
  rcases h with rfl | rfl | rfl | rfl | rfl | rfl <;> exact ⟨by decide +kernel, by decide +kernel, by decide +kernel, by decide +kernel⟩
theorem Sn.g1 {c : Nat} {cl op : Bool} (h : Sn c cl op) (T : Store) : gEq (cd c) (.str "1") T = .ok (.bl false) T := by
  show RE.ok (D.bl ((⟨#[c]⟩ : Str) == Str.ofString "1")) T = _
  rw [h.one]
theorem Sn.g2 {c : Nat} {cl op : Bool} (h : Sn c cl op) (T : Store) : gIn false (cd c) (.str "abcdefgh") T = .ok (.bl false) T := by
  rw [in_abc, h.abc]
theorem Sn.g3 {c : Nat} {cl op : Bool} (h : Sn c cl op) (T : Store) : gEq (cd c) (.str ")") T = .ok (.bl cl) T := by
  show RE.ok (D.bl ((⟨#[c]⟩ : Str) == Str.ofString ")")) T = _
  rw [h.cls]
theorem Sn.g4 {c : Nat} {cl op : Bool} (h : Sn c cl op) (T : Store) : gIn true (cd c) (.str "(*>") T = .ok (.bl (!op)) T := by
  rw [in_ops, h.ops]
theorem ki_sg (hS : S[n]? = some (.lst (dst st))) (hl : (dst st).length < sizeLine) {c : Nat} (hc : isSg c) :
    l__law_kind_in_0 (ev m) [t, some (.loc n), some (cd c), x3] S = .nx [t, some (.loc n), some (cd c), x3] (S.set n (.lst (dst (.sg c :: st)))) := by
  have e0 := app_cd (t := t) (x3 := x3) hS hl (c := c)
  have q := sn_sg hc
  have g1 := q.g1; have g2 := q.g2; have g3 := q.g3; have g4 := q.g4
  rw [dst_cons]
  show _ = RS.nx _ (S.set n (.lst (dst st ++ [cd c])))
  generalize hT : S.set n (.lst (dst st ++ [cd c])) = T at *
  rw [l__law_kind_in_0, sSeq_ap, e0, sb_nx]
  generalize cd c = C at *
  simp [g1, g2, g3, g4]
theorem ki_bad (hS : S[n]? = some (.lst (dst st))) (hl : (dst st).length < sizeLine) {c : Nat} (hc : c ∈ [105, 50, 32, 65, 60, 10]) :
    l__law_kind_in_0 (ev m) [t, some (.loc n), some (cd c), x3] S = .rt .non (S.set n (.lst (dst st ++ [cd c]))) := by
  have e0 := app_cd (t := t) (x3 := x3) hS hl (c := c)
  have q := sn_bad hc
  have g1 := q.g1; have g2 := q.g2; have g3 := q.g3; have g4 := q.g4
  generalize hT : S.set n (.lst (dst st ++ [cd c])) = T at *
  rw [l__law_kind_in_0, sSeq_ap, e0, sb_nx]
  generalize cd c = C at *
  simp [g1, g2, g3, g4]
theorem str_is (z : It) : (∃ k, z = .kd k) ∧ isiR "str" z.d S = .ok (.bl false) S ∨ ((∀ k, z ≠ .kd k) ∧ isiR "str" z.d S = .ok (.bl true) S) := by
  cases z with
  | kd k => exact .inl ⟨⟨k, rfl⟩, by cases k <;> simp [It.d, Kd.d]⟩
  | sg c => exact .inr ⟨by simp, by show isiR "str" (.str ⟨#[c]⟩) S = _; simp⟩
theorem in_two {k : Kd} : gIn true k.d (.lst [.str "*", .str ">"]) S = .ok (.bl true) S := by
  have h2 := Kd.pyS_d S k
  have h1 : pyS S (.lst [.str "*", .str ">"]) = some (.list [.str "*", .str ">"]) := rfl
  have l1 : k.p.canLay0 = true := by simp
  have l2 : PyData.canLayAll0 [.str (Str.ofString "*"), .str (Str.ofString ">")] = true := by decide +kernel
  have d0 : decide (min (PyData.depthAll [.str (Str.ofString "*"), .str (Str.ofString ">")]) k.p.depth ≤ 190) = true := by
    have : PyData.depthAll [.str (Str.ofString "*"), .str (Str.ofString ">")] = 0 := by simp [PyData.depthAll, PyData.depth]
    rw [this]; simp
  have e0 : ([.str (Str.ofString "*"), .str (Str.ofString ">")] : List PyData).any (fun z => PyData.eqv z k.p) = false := by
    cases k <;> simp [Kd.p, PyData.eqv]
  unfold gIn
  simp only [h1, h2]
  rw [l1, l2, d0, e0]
  rfl
theorem in_tw {y : It} (hy : ∀ c, y = .sg c → isSg c) : (∃ b, y = .sg (mk_ b) ∧ gIn true y.d (.lst [.str "*", .str ">"]) S = .ok (.bl false) S) ∨ ((∀ b, y ≠ .sg (mk_ b)) ∧ gIn true y.d (.lst [.str "*", .str ">"]) S = .ok (.bl true) S) := by
  cases y with
  | kd k => exact .inr ⟨by simp, in_two⟩
  | sg c =>
    rcases hy c rfl with rfl | rfl | rfl
    · refine .inr ⟨fun b => by cases b <;> simp [mk_], ?_⟩
      show gIn true (.str "(") (.lst [.str "*", .str ">"]) S = _
      simp [gIn, pyS, pySL, PyData.canLay0, PyData.canLayAll0, PyData.depth, PyData.depthAll, PyData.eqv]
    · refine .inl ⟨true, rfl, ?_⟩
      show gIn true (.str "*") (.lst [.str "*", .str ">"]) S = _
      simp [gIn, pyS, pySL, PyData.canLay0, PyData.canLayAll0, PyData.depth, PyData.depthAll, PyData.eqv]
    · refine .inl ⟨false, rfl, ?_⟩
      show gIn true (.str ">") (.lst [.str "*", .str ">"]) S = _
      simp [gIn, pyS, pySL, PyData.canLay0, PyData.canLayAll0, PyData.depth, PyData.depthAll, PyData.eqv]
theorem ki_close (ok : Okt st) (hS : S[n]? = some (.lst (dst st))) (hl : st.length ≤ 1000) :
    (∃ st' y3, clo st = some st' ∧ l__law_kind_in_0 (ev m) [t, some (.loc n), some (cd 41), x3] S = .nx [t, some (.loc S.length), some (cd 41), y3] (S.set n (.lst (dst st ++ [cd 41])) ++ [.lst (dst st')])) ∨ (clo st = none ∧ l__law_kind_in_0 (ev m) [t, some (.loc n), some (cd 41), x3] S = .rt .non (S.set n (.lst (dst st ++ [cd 41])))) := by
  have h8 : sizeLine = 16777216 := rfl
  have e0 := app_cd (t := t) (x3 := x3) hS (by rw [dst_len, h8]; omega) (c := 41)
  have q := sn_cl
  have g1 := q.g1; have g2 := q.g2; have g3 := q.g3
  have hn := lt_of_at hS
  have h2 : (S.set n (.lst (dst st ++ [cd 41])))[n]? = some (.lst (dst st ++ [cd 41])) := List.getElem?_set_self hn
  have hc := cellOf_of h2
  have hlen : (S.set n (.lst (dst st ++ [cd 41]))).length = S.length := by simp
  generalize hT : S.set n (.lst (dst st ++ [cd 41])) = T at *
  by_cases h4 : st.length < 4
  · right
    refine ⟨clo_short h4, ?_⟩
    have h5 : (cutL (dst st ++ [cd 41]) (some (-5)) none).length < 5 := cut5s (by simp [dst_len]; omega)
    have h5' : (((cutL (dst st ++ [cd 41]) (some (-5)) none).length : Nat) : Int) < 5 := by omega
    rw [l__law_kind_in_0, sSeq_ap, e0, sb_nx]
    generalize cd 41 = C at *
    generalize hQ : cutL (dst st ++ [C]) (some (-5)) none = Q at *
    simp [g1, g2, g3, hc, hQ, h5']
  · have hs : ∃ x y z w r, st = x :: y :: z :: w :: r := by
      match st with
      | [] => exact absurd (by simp) h4
      | [_] => exact absurd (by simp) h4
      | [_, _] => exact absurd (by simp) h4
      | [_, _, _] => exact absurd (by simp) h4
      | x :: y :: z :: w :: r => exact ⟨x, y, z, w, r, rfl⟩
    obtain ⟨x, y, z, w, r, rfl⟩ := hs
    have e5 : dst (x :: y :: z :: w :: r) ++ [cd 41] = dst r ++ [w.d, z.d, y.d, x.d, cd 41] := by rw [dst4]; simp
    rw [e5] at hc
    obtain ⟨c1, c2⟩ := cut5 (dst r) w.d z.d y.d x.d (cd 41)
    have hlr : (dst r).length + 1 ≤ sizeLine := by rw [dst_len, h8]; simp at hl; omega
    rw [l__law_kind_in_0, sSeq_ap, e0, sb_nx]
    clear e0 hT e5 h2
    generalize cd 41 = C at *
    rcases ne_op (S := T) (w := w) (fun c e => ok c (by rw [← e]; simp)) with rfl | ⟨hw, nw⟩
    · have n0 : gNe (It.sg 40).d (.str "(") T = .ok (.bl false) T := rfl
      rcases in_tw (S := T) (y := y) (fun c e => ok c (by rw [← e]; simp)) with ⟨b, rfl, ny⟩ | ⟨hy, ny⟩
      · rcases str_is (S := T) z with ⟨⟨k3, rfl⟩, nz⟩ | ⟨hz, nz⟩
        · rcases str_is (S := T) x with ⟨⟨k1, rfl⟩, nx⟩ | ⟨hx, nx⟩
          · left
            have hq : gEq (It.sg (mk_ b)).d (.str ">") T = .ok (.bl (!b)) T := by cases b <;> rfl
            have hi : (gInt [.bl (!b)] T).bnd (fun y S2 => gIx (.lst [.str "both", .str "from"]) y S2) = .ok (.str (wd b)) T := by cases b <;> simp [wd]
            have hd : (mk2 b k3 k1).d = .tup [.str (wd b), k3.d, k1.d] := mk2_d b k3 k1
            have ha : gAdd true (.lst (dst r)) (.lst [.tup [.str (wd b), k3.d, k1.d]]) T = .ok (.loc T.length) (T ++ [.lst (dst r ++ [.tup [.str (wd b), k3.d, k1.d]])]) := by
              show catL true (some (dst r)) (some [_]) T = _
              simp [catL, hlr]
            refine ⟨_, some (.lst [(It.sg 40).d, k3.d, (It.sg (mk_ b)).d, k1.d, C]), clo_mk k3 k1 b r, ?_⟩
            rw [dst_cons]
            show _ = RS.nx _ (T ++ [.lst (dst r ++ [(mk2 b k3 k1).d])])
            rw [hd, ← hlen]
            have k3e : (It.kd k3).d = k3.d := rfl
            have k1e : (It.kd k1).d = k1.d := rfl
            rw [k3e] at nz c1 c2 hc
            rw [k1e] at nx c1 c2 hc
            have hbi : ∀ q : Bool, gInt [.bl q] T = .ok (.int (b2i q)) T := fun q => by cases q <;> simp [b2i]
            have hi' : ixR [.str "both", .str "from"] (b2i (!b)) T = .ok (.str (wd b)) T := by cases b <;> simp [wd, b2i]
            generalize (It.sg 40).d = W at *
            generalize (It.sg (mk_ b)).d = Y at *
            generalize k3.d = Z at *
            generalize k1.d = XX at *
            generalize dst r = R at *
            generalize wd b = WB at *
            have hy2 : ∀ T', ixR [W, Z, Y, XX, C] 2 T' = .ok Y T' := fun _ => rfl
            have hy3 : ∀ T', ixR [W, Z, Y, XX, C] 3 T' = .ok XX T' := fun _ => rfl
            have hy1 : ∀ T', ixR [W, Z, Y, XX, C] 1 T' = .ok Z T' := fun _ => rfl
            have hy0 : ∀ T', ixR [W, Z, Y, XX, C] 0 T' = .ok W T' := fun _ => rfl
            simp [g1, g2, g3, hc, c1, c2, n0, ny, nz, nx, hq, hbi, hi', ha, h8, hy0, hy1, hy2, hy3]
          · right
            refine ⟨clo_none (.inr (.inr (.inr hx))), ?_⟩
            generalize (It.sg 40).d = W at *
            generalize (It.sg (mk_ b)).d = Y at *
            generalize (It.kd k3).d = Z at *
            generalize x.d = XX at *
            generalize dst r = R at *
            have hy2 : ∀ T', ixR [W, Z, Y, XX, C] 2 T' = .ok Y T' := fun _ => rfl
            have hy3 : ∀ T', ixR [W, Z, Y, XX, C] 3 T' = .ok XX T' := fun _ => rfl
            have hy1 : ∀ T', ixR [W, Z, Y, XX, C] 1 T' = .ok Z T' := fun _ => rfl
            have hy0 : ∀ T', ixR [W, Z, Y, XX, C] 0 T' = .ok W T' := fun _ => rfl
            simp [g1, g2, g3, hc, c1, c2, n0, ny, nz, nx, h8, hy0, hy1, hy2, hy3]
        · right
          refine ⟨clo_none (.inr (.inr (.inl hz))), ?_⟩
          generalize (It.sg 40).d = W at *
          generalize (It.sg (mk_ b)).d = Y at *
          generalize z.d = Z at *
          generalize x.d = XX at *
          generalize dst r = R at *
          have hy2 : ∀ T', ixR [W, Z, Y, XX, C] 2 T' = .ok Y T' := fun _ => rfl
          have hy1 : ∀ T', ixR [W, Z, Y, XX, C] 1 T' = .ok Z T' := fun _ => rfl
          have hy0 : ∀ T', ixR [W, Z, Y, XX, C] 0 T' = .ok W T' := fun _ => rfl
          simp [g1, g2, g3, hc, c1, c2, n0, ny, nz, h8, hy0, hy1, hy2]
      · right
        refine ⟨clo_none (.inr (.inl hy)), ?_⟩
        generalize (It.sg 40).d = W at *
        generalize y.d = Y at *
        generalize z.d = Z at *
        generalize x.d = XX at *
        generalize dst r = R at *
        have hy2 : ∀ T', ixR [W, Z, Y, XX, C] 2 T' = .ok Y T' := fun _ => rfl
        have hy0 : ∀ T', ixR [W, Z, Y, XX, C] 0 T' = .ok W T' := fun _ => rfl
        simp [g1, g2, g3, hc, c1, c2, n0, ny, h8, hy0, hy2]
    · right
      refine ⟨clo_none (.inl hw), ?_⟩
      generalize w.d = W at *
      generalize y.d = Y at *
      generalize z.d = Z at *
      generalize x.d = XX at *
      generalize dst r = R at *
      have hy0 : ∀ T', ixR [W, Z, Y, XX, C] 0 T' = .ok W T' := fun _ => rfl
      simp [g1, g2, g3, hc, c1, c2, nw, h8, hy0]
end
end Kz
namespace Kz
open PySem PySem.Spec PyProof.Rows L2 Kw
theorem ki_any {m : Nat} {S0 : Store} {t : Option D} : ∀ (s : List Nat) {st : List It} {S : Store} {n : Nat} {x x3 : Option D}, (∀ c ∈ s, c ∈ AL) → Okt st → Stk S0 S n (dst st) → st.length + s.length ≤ 900 →
    (∃ st' n' S' x' y3, rn st s = some st' ∧ Stk S0 S' n' (dst st') ∧ kL m (s.map cd) [t, some (.loc n), x, x3] S = .nx [t, some (.loc n'), x', y3] S') ∨ (rn st s = none ∧ ∃ T, kL m (s.map cd) [t, some (.loc n), x, x3] S = .rt .non (S0 ++ T))
  | [], st, S, n, x, x3, _, _, h, _ => .inl ⟨st, n, S, x, x3, rfl, h, by simp [kL]⟩
  | c :: s, st, S, n, x, x3, ha, ok, h, hl => by
    have h8 : sizeLine = 16777216 := rfl
    simp only [List.length_cons] at hl
    have ha' := fun c hc => ha c (List.mem_cons_of_mem _ hc)
    have ll : (dst st).length < sizeLine := by rw [dst_len, h8]; omega
    have pre_set : ∀ (ds : List D), ∃ T, S.set n (.lst ds) = S0 ++ T := fun ds => by
      obtain ⟨T, hT⟩ := h.pre
      refine ⟨T.set (n - S0.length) (.lst ds), ?_⟩
      rw [hT, List.set_append_right (h := h.le)]
    have stk_set : ∀ (st1 : List It), Stk S0 (S.set n (.lst (dst st1))) n (dst st1) := fun st1 => ⟨pre_set _, h.le, List.getElem?_set_self (lt_of_at h.at_)⟩
    have go : ∀ {st1 : List It} {n1 : Nat} {S1 : Store} {y3 : Option D}, stp st c = some st1 → Stk S0 S1 n1 (dst st1) → l__law_kind_in_0 (ev m) [t, some (.loc n), some (cd c), x3] S = .nx [t, some (.loc n1), some (cd c), y3] S1 →
        (∃ st' n' S' x' y3, rn st (c :: s) = some st' ∧ Stk S0 S' n' (dst st') ∧ kL m ((c :: s).map cd) [t, some (.loc n), x, x3] S = .nx [t, some (.loc n'), x', y3] S') ∨ (rn st (c :: s) = none ∧ ∃ T, kL m ((c :: s).map cd) [t, some (.loc n), x, x3] S = .rt .non (S0 ++ T)) := by
      intro st1 n1 S1 y3 e1 h1 e2
      have l1 := (stp_flt e1).2
      have e3 : kL m ((c :: s).map cd) [t, some (.loc n), x, x3] S = kL m (s.map cd) [t, some (.loc n1), some (cd c), y3] S1 := by
        show forL _ _ _ (cd c :: s.map cd) _ _ = _
        rw [forL_cons]
        generalize cd c = C at *
        simp [e2]
      rcases ki_any s (m := m) (x := some (cd c)) (x3 := y3) (t := t) ha' (ok.step e1) h1 (by omega) with ⟨st', n', S', x', z3, r1, r2, r3⟩ | ⟨r1, T, r2⟩
      · exact .inl ⟨st', n', S', x', z3, by simp only [rn, e1]; exact r1, r2, by rw [e3, r3]⟩
      · exact .inr ⟨by simp only [rn, e1]; exact r1, T, by rw [e3, r2]⟩
    have stop : stp st c = none → (∃ T, l__law_kind_in_0 (ev m) [t, some (.loc n), some (cd c), x3] S = .rt .non (S0 ++ T)) →
        (∃ st' n' S' x' y3, rn st (c :: s) = some st' ∧ Stk S0 S' n' (dst st') ∧ kL m ((c :: s).map cd) [t, some (.loc n), x, x3] S = .nx [t, some (.loc n'), x', y3] S') ∨ (rn st (c :: s) = none ∧ ∃ T, kL m ((c :: s).map cd) [t, some (.loc n), x, x3] S = .rt .non (S0 ++ T)) := by
      rintro e1 ⟨T, e2⟩
      refine .inr ⟨by simp only [rn, e1], T, ?_⟩
      show forL _ _ _ (cd c :: s.map cd) _ _ = _
      rw [forL_cons]
      generalize cd c = C at *
      simp [e2]
    rcases al_cases (ha c List.mem_cons_self) with ⟨i, rfl⟩ | rfl | rfl | hs | hb
    · exact go (stp_base st i) (stk_set _) (ki_base h.at_ ll i)
    · exact go (stp_unit st) (stk_set _) (ki_unit h.at_ ll)
    · rcases ki_close (m := m) (t := t) (x3 := x3) ok h.at_ (by omega) with ⟨st', y3, c1, c2⟩ | ⟨c1, c2⟩
      · refine go (by rw [stp_close]; exact c1) ⟨?_, ?_, ?_⟩ c2
        · obtain ⟨T, hT⟩ := pre_set (dst st ++ [cd 41])
          exact ⟨T ++ [.lst (dst st')], by rw [hT]; simp⟩
        · have := h.le
          have := lt_of_at h.at_
          omega
        · rw [List.getElem?_append_right (by simp)]
          simp
      · obtain ⟨T, hT⟩ := pre_set (dst st ++ [cd 41])
        exact stop (by rw [stp_close]; exact c1) ⟨T, by rw [c2, hT]⟩
    · exact go (stp_sg st hs) (stk_set _) (ki_sg h.at_ ll hs)
    · obtain ⟨T, hT⟩ := pre_set (dst st ++ [cd c])
      exact stop (stp_bad st hb) ⟨T, by rw [ki_bad h.at_ ll hb, hT]⟩
def oK : Option Kd → D
  | none => .non
  | some k => k.d
theorem kind_in_any {n : Nat} {S : Store} (h : 1 ≤ n) {z : Str} (ha : ∀ c ∈ sgs z, c ∈ AL) (hl : (sgs z).length ≤ 800) : ev n .f__law_kind_in [.str z] S = .ok (oK (rd (sgs z))) S := by
  obtain ⟨m, rfl, h'⟩ := up h
  have h0 : Stk S (S ++ [.lst []]) S.length (dst []) := ⟨⟨_, rfl⟩, Nat.le_refl _, by simp [dst]⟩
  have r0 := ki_any (m := m) (t := some (.str z)) (sgs z) (x := none) (x3 := none) ha (fun c hc => by cases hc) h0 (by simp; omega)
  rw [← chrs_sgs] at r0
  rw [ev, fnC_ap]
  rcases r0 with ⟨st, n', S', x', y3, r1, r2, r3⟩ | ⟨r1, T, r2⟩
  · obtain ⟨T, rfl⟩ := r2.pre
    have hc : Kw.cellOf (S ++ T) n' = some (dst st) := cellOf_of r2.at_
    have hlen : gLen [.loc n'] (S ++ T) = .ok (.int ((st.length : Nat) : Int)) (S ++ T) := by simp [gLen, seqA, hc, dst_len]
    have e : rd (sgs z) = fin_ st := by unfold rd; rw [r1]
    rw [e]
    simp only [kL] at r3
    rcases st with _ | ⟨y, _ | ⟨y2, st⟩⟩
    · show _ = RE.ok D.non S
      have : fnB 1 4 (b__law_kind_in (ev m)) [.str z] S = .ok .non (S ++ T) := by
        rw [b__law_kind_in]
        simp [r3, hlen]
      rw [this]; exact cut_ok _ rfl
    · cases y with
      | kd k =>
        show _ = RE.ok k.d S
        have ht : isiR "str" k.d (S ++ T) = .ok (.bl false) (S ++ T) := by cases k <;> simp [Kd.d]
        have hx : ixR (dst [.kd k]) 0 (S ++ T) = .ok k.d (S ++ T) := rfl
        have : fnB 1 4 (b__law_kind_in (ev m)) [.str z] S = .ok k.d (S ++ T) := by
          rw [b__law_kind_in]
          generalize k.d = X at *
          simp [r3, hlen, hc, hx, ht]
        rw [this]
        exact cut_ok _ (Kd.und_d _ _)
      | sg c =>
        show _ = RE.ok D.non S
        have hx : ixR (dst [.sg c]) 0 (S ++ T) = .ok (.str ⟨#[c]⟩) (S ++ T) := rfl
        have : fnB 1 4 (b__law_kind_in (ev m)) [.str z] S = .ok .non (S ++ T) := by
          rw [b__law_kind_in]
          simp [r3, hlen, hc, hx]
        rw [this]; exact cut_ok _ rfl
    · have : fin_ (y :: y2 :: st) = none := by unfold fin_; split <;> simp_all
      rw [this]
      show _ = RE.ok D.non S
      have hne : ¬ (((y :: y2 :: st).length : Nat) : Int) = 1 := by simp; omega
      generalize (((y :: y2 :: st).length : Nat) : Int) = N at *
      have : fnB 1 4 (b__law_kind_in (ev m)) [.str z] S = .ok .non (S ++ T) := by
        rw [b__law_kind_in]
        simp [r3, hlen, hne]
      rw [this]; exact cut_ok _ rfl
  · have e : rd (sgs z) = none := by unfold rd; rw [r1]
    rw [e]
    show _ = RE.ok D.non S
    simp only [kL] at r2
    have : fnB 1 4 (b__law_kind_in (ev m)) [.str z] S = .ok .non (S ++ T) := by
      rw [b__law_kind_in]
      simp [r2]
    rw [this]; exact cut_ok _ rfl
end Kz
namespace Kz
open PySem PySem.Spec PyProof.Rows L2 Kw
theorem sgs_len (z : Str) : (sgs z).length = z.length := by unfold sgs; exact Array.length_toList
theorem sgs_app (a b : Str) : sgs (a ++ b) = sgs a ++ sgs b := by
  unfold sgs; rw [Str.cps_append]; simp
theorem sgs_cut (z : Str) (lo hi : Option Int) : sgs (L2.cutS z lo hi) = ((sgs z).drop (HT.sIx z.length 0 lo)).take (HT.sIx z.length z.length hi - HT.sIx z.length 0 lo) := by
  unfold sgs L2.cutS; simp
theorem cut_to (z : Str) (i : Nat) : sgs (L2.cutS z none (some (i : Int))) = (sgs z).take i := by
  rw [sgs_cut, HT.sIx_none, HT.sIx_nat]
  rw [List.drop_zero, Nat.sub_zero, ← sgs_len]
  rcases Nat.le_total i (sgs z).length with h | h
  · rw [Nat.min_eq_left h]
  · rw [Nat.min_eq_right h, List.take_of_length_le (Nat.le_refl _), List.take_of_length_le h]
theorem cut_from (z : Str) (i : Nat) : sgs (L2.cutS z (some (i : Int)) none) = (sgs z).drop i := by
  rw [sgs_cut, HT.sIx_none, HT.sIx_nat, ← sgs_len]
  rcases Nat.le_total i (sgs z).length with h | h
  · rw [Nat.min_eq_left h, List.take_of_length_le (by simp)]
  · rw [Nat.min_eq_right h, List.drop_of_length_le h, List.drop_of_length_le (Nat.le_refl _)]; simp
theorem cut_mid (z : Str) (i k : Nat) : sgs (L2.cutS z (some (i : Int)) (some ((i + k : Nat) : Int))) = ((sgs z).drop i).take k := by
  rw [sgs_cut, HT.sIx_nat, HT.sIx_nat, ← sgs_len]
  rcases Nat.le_total i (sgs z).length with h | h
  · rw [Nat.min_eq_left h]
    rcases Nat.le_total (i + k) (sgs z).length with h2 | h2
    · rw [Nat.min_eq_left h2, Nat.add_sub_cancel_left]
    · rw [Nat.min_eq_right h2, List.take_of_length_le (by simp), List.take_of_length_le (by simp; omega)]
  · rw [Nat.min_eq_right h, List.drop_of_length_le h, List.drop_of_length_le (Nat.le_refl _)]; simp
theorem split3 (s : List Nat) (i k : Nat) : s = s.take i ++ ((s.drop i).take k ++ s.drop (i + k)) := by
  conv => lhs; rw [← List.take_append_drop i s, ← List.take_append_drop k (s.drop i), List.drop_drop]
theorem str_sgs {z : Str} {l : List Nat} (h : sgs z = l) : z = ⟨l.toArray⟩ := by
  subst h; unfold sgs; simp
/-- a short text turned round -/
theorem rev_short {z : Str} (h : (sgs z).length ≤ 2) : sgs (revS z) = (sgs z).reverse := by
  generalize hl : sgs z = l at *
  have hz := str_sgs hl
  match l, h with
  | [], _ => rw [hz]; rfl
  | [a], _ =>
    have hI : Builtin.Str.strSliceIndices none none (-1) 1 = [0] := by decide +kernel
    rw [hz]
    show sgs ⟨((Builtin.Str.strSliceIndices none none (-1) 1).filterMap ((#[a] : Array Nat)[·]?)).toArray⟩ = _
    rw [hI]; rfl
  | [a, b], _ =>
    have hI : Builtin.Str.strSliceIndices none none (-1) 2 = [1, 0] := by decide +kernel
    rw [hz]
    show sgs ⟨((Builtin.Str.strSliceIndices none none (-1) 2).filterMap ((#[a, b] : Array Nat)[·]?)).toArray⟩ = _
    rw [hI]; rfl
theorem rep_one {z : Str} (h : (sgs z).length ≤ 1) : sgs (repS z 2) = sgs z ++ sgs z := by
  generalize hl : sgs z = l at *
  have hz := str_sgs hl
  match l, h with
  | [], _ => rw [hz]; rfl
  | [a], _ => rw [hz]; rfl
def smB (z : List Nat) : Bool := decide (z.length ≤ 6) && (List.range z.length).all fun i => match z[i]? with
  | some c => !(decide (c = 49) || (decide (97 ≤ c) && decide (c ≤ 104))) || decide (net (z.take i) ≤ 1)
  | none => true
theorem sm_of {z : List Nat} (h : smB z = true) : Sm z := by
  unfold smB at h
  rw [Bool.and_eq_true, decide_eq_true_eq, List.all_eq_true] at h
  refine ⟨h.1, fun a c b e lc => ?_⟩
  have h2 := h.2 a.length (List.mem_range.mpr (by rw [e]; simp))
  have h3 : z[a.length]? = some c := by rw [e]; simp
  have h4 : z.take a.length = a := by rw [e]; simp
  have h5 : (decide (c = 49) || (decide (97 ≤ c) && decide (c ≤ 104))) = true := by
    rcases lc with h | h
    · rw [h]; rfl
    · simp [h.1, h.2]
  rw [h3, h4] at h2
  simpa [h5] using h2
theorem sm_two {z : List Nat} (h : z.length ≤ 2) : Sm z := ⟨by omega, fun a c b e _ => by
  have := congrArg List.length e
  simp only [List.length_append, List.length_cons] at this
  have := no_le a
  omega⟩
def AlT (s : List Nat) : Prop := ∀ c ∈ s, c ∈ AL
theorem AlT.app {a b : List Nat} (ha : AlT a) (hb : AlT b) : AlT (a ++ b) := fun c hc => (List.mem_append.mp hc).elim (ha c) (hb c)
theorem AlT.take {a : List Nat} (ha : AlT a) (i : Nat) : AlT (a.take i) := fun c hc => ha c (List.mem_of_mem_take hc)
theorem AlT.drop {a : List Nat} (ha : AlT a) (i : Nat) : AlT (a.drop i) := fun c hc => ha c (List.mem_of_mem_drop hc)
/-- the signs put in -/
def sgD : List D := [.str "a", .str "h", .str "i", .str "1", .str "2", .str "(", .str ")", .str "*", .str ">", .str " ", .str "A", .str "", .str "((", .str "()", .str "(a*b)", .str "<", .str "\n"]
structure Sg (g : Str) : Prop where
  sm : Sm (sgs g)
  c : nc (sgs g) ≤ 1
  l : (sgs g).length ≤ 5
  al : AlT (sgs g)
theorem sg_ok : ∀ d ∈ sgD, ∃ g, d = .str g ∧ Sg g := by
  have key : ∀ g ∈ ([Str.ofString "a", Str.ofString "h", Str.ofString "i", Str.ofString "1", Str.ofString "2", Str.ofString "(", Str.ofString ")", Str.ofString "*", Str.ofString ">", Str.ofString " ", Str.ofString "A", Str.ofString "", Str.ofString "((", Str.ofString "()", Str.ofString "(a*b)", Str.ofString "<", Str.ofString "\n"] : List Str), smB (sgs g) = true ∧ nc (sgs g) ≤ 1 ∧ (sgs g).length ≤ 5 ∧ ∀ c ∈ sgs g, c ∈ AL := by decide +kernel
  intro d hd
  have : d ∈ (([Str.ofString "a", Str.ofString "h", Str.ofString "i", Str.ofString "1", Str.ofString "2", Str.ofString "(", Str.ofString ")", Str.ofString "*", Str.ofString ">", Str.ofString " ", Str.ofString "A", Str.ofString "", Str.ofString "((", Str.ofString "()", Str.ofString "(a*b)", Str.ofString "<", Str.ofString "\n"] : List Str).map D.str) := hd
  obtain ⟨g, hg, rfl⟩ := List.mem_map.mp this
  obtain ⟨h1, h2, h3, h4⟩ := key g hg
  exact ⟨g, rfl, sm_of h1, h2, h3, h4⟩
theorem sp_w0 {s : List Nat} (i : Nat) : Sp s (s.take i ++ s.drop (i + 1)) := by
  have := Sp.edit (y1 := s.take i) (y0 := (s.drop i).take 1) (y2 := s.drop (i + 1)) (z := []) (sm_two (by simp)) (by rw [nc_nil]; omega) (by simp)
  rw [← split3] at this
  simpa using this
theorem sp_w1 {s : List Nat} (i : Nat) : Sp s (s.take i ++ ((s.drop i).take 1 ++ (s.drop i).take 1) ++ s.drop (i + 1)) := by
  have l1 : ((s.drop i).take 1).length ≤ 1 := by simp; omega
  have c1 : nc ((s.drop i).take 1) ≤ 1 := by
    unfold nc
    exact Nat.le_trans List.count_le_length l1
  have := Sp.edit (y1 := s.take i) (y0 := (s.drop i).take 1) (y2 := s.drop (i + 1)) (z := (s.drop i).take 1 ++ (s.drop i).take 1) (sm_two (by rw [List.length_append]; omega)) (by rw [nc_app]; omega) (by rw [List.length_append]; omega)
  rw [← split3] at this
  simpa using this
theorem sp_w2 {s : List Nat} (i : Nat) {g : Str} (h : Sg g) : Sp s (s.take i ++ sgs g ++ s.drop (i + 1)) := by
  have c1 := h.c; have l1 := h.l
  have := Sp.edit (y1 := s.take i) (y0 := (s.drop i).take 1) (y2 := s.drop (i + 1)) (z := sgs g) h.sm (by omega) (by omega)
  rw [← split3] at this
  simpa using this
theorem sp_w3 {s : List Nat} (i : Nat) {g : Str} (h : Sg g) : Sp s (s.take i ++ sgs g ++ s.drop i) := by
  have c1 := h.c; have l1 := h.l
  have := Sp.edit (y1 := s.take i) (y0 := []) (y2 := s.drop i) (z := sgs g) h.sm (by rw [nc_nil]; omega) (by simp; omega)
  rw [List.nil_append, List.take_append_drop] at this
  simpa using this
theorem sp_w4 {s : List Nat} (i : Nat) : Sp s (s.take i ++ ((s.drop i).take 2).reverse ++ s.drop (i + 2)) := by
  have l1 : ((s.drop i).take 2).length ≤ 2 := by simp; omega
  have := Sp.edit (y1 := s.take i) (y0 := (s.drop i).take 2) (y2 := s.drop (i + 2)) (z := ((s.drop i).take 2).reverse) (sm_two (by rw [List.length_reverse]; exact l1)) (by unfold nc; rw [List.count_reverse]; omega) (by rw [List.length_reverse]; omega)
  rw [← split3] at this
  simpa using this
theorem sp_w5 {s : List Nat} {i j : Nat} (h : i ≤ j) : Sp s (s.take i ++ s.drop j) := by
  have := Sp.edit (y1 := s.take i) (y0 := (s.drop i).take (j - i)) (y2 := s.drop (i + (j - i))) (z := []) (sm_two (by simp)) (by rw [nc_nil]; omega) (by simp)
  rw [← split3] at this
  rw [show i + (j - i) = j by omega] at this
  simpa using this
theorem sp_w7 {s : List Nat} (i : Nat) : Sp s (s.drop i ++ s.take i) := by
  have := Sp.turn (y1 := s.take i) (y2 := s.drop i)
  rwa [List.take_append_drop] at this
end Kz
namespace Kz
open PySem PySem.Spec PyProof.Rows L2 Kw
theorem cut_len (z : Str) (lo hi : Option Int) (h : (sgs z).length ≤ 300) : (L2.cutS z lo hi).length ≤ 300 := by
  rw [← sgs_len, sgs_cut]
  simp
  omega
theorem add_ss {a b : Str} {S : Store} (h : a.length ≤ 2000) (k : b.length ≤ 2000) : gAdd false (.str a) (.str b) S = .ok (.str (a ++ b)) S := by
  have h8 : sizeLine = 16777216 := rfl
  rw [gAdd_ss, if_pos (by rw [h8]; omega)]
theorem sl_s {z : Str} {lo hi : Option Int} {S : Store} (h : (sgs z).length ≤ 300) : gSl false (.str z) lo hi S = .ok (.str (L2.cutS z lo hi)) S := by
  have h8 : sizeLine = 16777216 := rfl
  unfold gSl
  simp only
  rw [if_pos (by rw [← sgs_len, h8]; omega)]
theorem len_app {a b : Str} : (a ++ b).length = a.length + b.length := Str.length_append a b
theorem spoilt_ok {n : Nat} (hn : 3 ≤ n) {S : Store} {w : Nat} (hw : Well S w) {z : Str} (hl : (sgs z).length ≤ 300) (al : AlT (sgs z)) : ∃ z' S', ev n .f__law_spoilt [.loc w, .str z] S = .ok (.str z') S' ∧ Sp (sgs z) (sgs z') ∧ AlT (sgs z') ∧ WS S w S' := by
  have h8 : sizeLine = 16777216 := rfl
  obtain ⟨m, rfl, hm⟩ := up (d := 2) hn
  have hz : z.length ≤ 300 := by rw [← sgs_len]; exact hl
  obtain ⟨i, S1, e1, a1, b1, w1⟩ := draw_sp (n := m) (S := S) (w := w) (m := (z.length : Int) + 1) (by omega) hw (by omega) (by omega)
  obtain ⟨j, S2, e2, a2, b2, w2⟩ := draw_sp (n := m) (S := S1) (w := w) (m := (z.length : Int) + 1) (by omega) w1.well (by omega) (by omega)
  obtain ⟨d, S3, e3, m3, w3⟩ := one_sp (n := m) (S := S2) (w := w) (ds := sgD) hm w2.well (by simp [sgD]) (by simp [sgD])
  obtain ⟨g, rfl, hg⟩ := sg_ok d m3
  obtain ⟨r, S4, e4, a4, b4, w4⟩ := draw_sp (n := m) (S := S3) (w := w) (m := 8) (by omega) w3.well (by decide) (by decide)
  obtain ⟨i, rfl⟩ : ∃ q : Nat, i = (q : Int) := ⟨i.toNat, by omega⟩
  obtain ⟨j, rfl⟩ : ∃ q : Nat, j = (q : Int) := ⟨j.toNat, by omega⟩
  have ws := ((w1.trans w2).trans w3).trans w4
  have cl := fun lo hi => cut_len z lo hi hl
  have gl : g.length ≤ 5 := by rw [← sgs_len]; exact hg.l
  have sl := fun lo hi T => sl_s (z := z) (lo := lo) (hi := hi) (S := T) hl
  have hz' : z.length ≤ 16777216 := by omega
  have g1 : ∀ T, gLen [.str z] T = .ok (.int (z.length : Int)) T := fun T => by simp [hz', h8]
  have k1 : ((i : Int) + 1) = ((i + 1 : Nat) : Int) := by omega
  have k2 : ((i : Int) + 2) = ((i + 2 : Nat) : Int) := by omega
  have e3' : ev m Fn.f__law_one [.loc w, .lst [.str "a", .str "h", .str "i", .str "1", .str "2", .str "(", .str ")", .str "*", .str ">", .str " ", .str "A", .str "", .str "((", .str "()", .str "(a*b)", .str "<", .str "\n"]] S2 = .ok (.str g) S3 := e3
  -- the head
  have head : ∀ (R : FS), (sSeq (sSet 2 (fArg (ev m .f__law_draw) (fCons (fVar 0) (fCons (f2 (gAdd false) (fArg gLen (fCons (fVar 1) fNil)) (fC (.int 1))) fNil))))
    (sSeq (sSet 3 (fArg (ev m .f__law_draw) (fCons (fVar 0) (fCons (f2 (gAdd false) (fArg gLen (fCons (fVar 1) fNil)) (fC (.int 1))) fNil))))
    (sSeq (sSet 4 (fArg (ev m .f__law_one) (fCons (fVar 0) (fCons (fArg mkLst (fCons (fC (.str "a")) (fCons (fC (.str "h")) (fCons (fC (.str "i")) (fCons (fC (.str "1")) (fCons (fC (.str "2")) (fCons (fC (.str "(")) (fCons (fC (.str ")")) (fCons (fC (.str "*")) (fCons (fC (.str ">")) (fCons (fC (.str " ")) (fCons (fC (.str "A")) (fCons (fC (.str "")) (fCons (fC (.str "((")) (fCons (fC (.str "()")) (fCons (fC (.str "(a*b)")) (fCons (fC (.str "<")) (fCons (fC (.str "\n")) fNil)))))))))))))))))) fNil))))
    (sSeq (sSet 5 (fArg (ev m .f__law_draw) (fCons (fVar 0) (fCons (fC (.int 8)) fNil)))) R)))) [some (.loc w), some (.str z), none, none, none, none] S = R [some (.loc w), some (.str z), some (.int i), some (.int j), some (.str g), some (.int r)] S4 := by
    intro R
    simp [e1, e2, e3', e4, h8, hz']
  have fin : ∀ (y : Str), Sp (sgs z) (sgs y) → AlT (sgs y) → ev (m + 1) .f__law_spoilt [.loc w, .str z] S = .ok (.str y) S4 → ∃ z' S', ev (m + 1) .f__law_spoilt [.loc w, .str z] S = .ok (.str z') S' ∧ Sp (sgs z) (sgs z') ∧ AlT (sgs z') ∧ WS S w S' := fun y h1 h2 h3 => ⟨y, S4, h3, h1, h2, ws⟩
  have q0 : (cutS z none (some (i : Int))).length ≤ 300 := cl _ _
  obtain rfl | rfl | rfl | rfl | rfl | rfl | rfl | rfl : r = 0 ∨ r = 1 ∨ r = 2 ∨ r = 3 ∨ r = 4 ∨ r = 5 ∨ r = 6 ∨ r = 7 := by omega
  · refine fin (L2.cutS z none (some (i : Int)) ++ L2.cutS z (some ((i + 1 : Nat) : Int)) none) ?_ ?_ ?_
    · rw [sgs_app, cut_to, cut_from]; exact sp_w0 i
    · rw [sgs_app, cut_to, cut_from]; exact (al.take _).app (al.drop _)
    · have c1 := cl none (some (i : Int))
      have s1 := fun T => sl none (some (i : Int)) T
      have c2 := cl (some ((i + 1 : Nat) : Int)) none
      have s2 := fun T => sl (some ((i + 1 : Nat) : Int)) none T
      rw [← k1] at *
      generalize L2.cutS z none (some (i : Int)) = A at *
      generalize L2.cutS z (some ((i : Int) + 1)) none = B at *
      have ad := fun T => add_ss (a := A) (b := B) (S := T) (by omega) (by omega)
      rw [ev, b__law_spoilt, fnB_2]
      show RS.fin (sSeq _ _ [some (.loc w), some (.str z), none, none, none, none] S) = _
      rw [head]
      simp [s1, s2, ad, -gAdd_ss]
  · refine fin ((L2.cutS z none (some (i : Int)) ++ repS (L2.cutS z (some (i : Int)) (some ((i + 1 : Nat) : Int))) 2) ++ L2.cutS z (some ((i + 1 : Nat) : Int)) none) ?_ ?_ ?_
    · rw [sgs_app, sgs_app, rep_one (by rw [cut_mid]; simp; omega), cut_to, cut_from, cut_mid]; exact sp_w1 i
    · rw [sgs_app, sgs_app, rep_one (by rw [cut_mid]; simp; omega), cut_to, cut_from, cut_mid]; exact ((al.take _).app (((al.drop _).take _).app ((al.drop _).take _))).app (al.drop _)
    · have hrp := rep_one (z := L2.cutS z (some (i : Int)) (some ((i + 1 : Nat) : Int))) (by rw [cut_mid]; simp; omega)
      have c1 := cl none (some (i : Int))
      have s1 := fun T => sl none (some (i : Int)) T
      have c2 := cl (some (i : Int)) (some ((i + 1 : Nat) : Int))
      have s2 := fun T => sl (some (i : Int)) (some ((i + 1 : Nat) : Int)) T
      have c3 := cl (some ((i + 1 : Nat) : Int)) none
      have s3 := fun T => sl (some ((i + 1 : Nat) : Int)) none T
      rw [← k1] at *
      generalize L2.cutS z none (some (i : Int)) = A at *
      generalize L2.cutS z (some (i : Int)) (some ((i : Int) + 1)) = B at *
      generalize L2.cutS z (some ((i : Int) + 1)) none = C at *
      have lr : (repS B 2).length ≤ 600 := by rw [← sgs_len, hrp, List.length_append, sgs_len]; omega
      have mu : ∀ T, gMul false (.str B) (.int 2) T = .ok (.str (repS B 2)) T := fun T => by
        unfold gMul
        simp only
        rw [if_pos ⟨by have : (2 : Int).toNat = 2 := rfl
                       rw [this]; omega, by omega, by omega, by omega⟩]
      have ad := fun T => add_ss (a := A) (b := repS B 2) (S := T) (by omega) (by omega)
      have ad2 := fun T => add_ss (a := A ++ repS B 2) (b := C) (S := T) (by rw [len_app]; omega) (by omega)
      rw [ev, b__law_spoilt, fnB_2]
      show RS.fin (sSeq _ _ [some (.loc w), some (.str z), none, none, none, none] S) = _
      rw [head]
      simp [s1, s2, s3, mu, ad, ad2, -gAdd_ss]
  · refine fin ((L2.cutS z none (some (i : Int)) ++ g) ++ L2.cutS z (some ((i + 1 : Nat) : Int)) none) ?_ ?_ ?_
    · rw [sgs_app, sgs_app, cut_to, cut_from]; exact sp_w2 i hg
    · rw [sgs_app, sgs_app, cut_to, cut_from]; exact ((al.take _).app hg.al).app (al.drop _)
    · have c1 := cl none (some (i : Int))
      have s1 := fun T => sl none (some (i : Int)) T
      have c2 := cl (some ((i + 1 : Nat) : Int)) none
      have s2 := fun T => sl (some ((i + 1 : Nat) : Int)) none T
      rw [← k1] at *
      generalize L2.cutS z none (some (i : Int)) = A at *
      generalize L2.cutS z (some ((i : Int) + 1)) none = C at *
      have ad := fun T => add_ss (a := A) (b := g) (S := T) (by omega) (by omega)
      have ad2 := fun T => add_ss (a := A ++ g) (b := C) (S := T) (by rw [len_app]; omega) (by omega)
      rw [ev, b__law_spoilt, fnB_2]
      show RS.fin (sSeq _ _ [some (.loc w), some (.str z), none, none, none, none] S) = _
      rw [head]
      simp [s1, s2, ad, ad2, -gAdd_ss]
  · refine fin ((L2.cutS z none (some (i : Int)) ++ g) ++ L2.cutS z (some (i : Int)) none) ?_ ?_ ?_
    · rw [sgs_app, sgs_app, cut_to, cut_from]; exact sp_w3 i hg
    · rw [sgs_app, sgs_app, cut_to, cut_from]; exact ((al.take _).app hg.al).app (al.drop _)
    · have c1 := cl none (some (i : Int))
      have s1 := fun T => sl none (some (i : Int)) T
      have c2 := cl (some (i : Int)) none
      have s2 := fun T => sl (some (i : Int)) none T
      generalize L2.cutS z none (some (i : Int)) = A at *
      generalize L2.cutS z (some (i : Int)) none = C at *
      have ad := fun T => add_ss (a := A) (b := g) (S := T) (by omega) (by omega)
      have ad2 := fun T => add_ss (a := A ++ g) (b := C) (S := T) (by rw [len_app]; omega) (by omega)
      rw [ev, b__law_spoilt, fnB_2]
      show RS.fin (sSeq _ _ [some (.loc w), some (.str z), none, none, none, none] S) = _
      rw [head]
      simp [s1, s2, ad, ad2, -gAdd_ss]
  · refine fin ((L2.cutS z none (some (i : Int)) ++ revS (L2.cutS z (some (i : Int)) (some ((i + 2 : Nat) : Int)))) ++ L2.cutS z (some ((i + 2 : Nat) : Int)) none) ?_ ?_ ?_
    · rw [sgs_app, sgs_app, rev_short (by rw [cut_mid]; simp; omega), cut_to, cut_from, cut_mid]; exact sp_w4 i
    · rw [sgs_app, sgs_app, rev_short (by rw [cut_mid]; simp; omega), cut_to, cut_from, cut_mid]; exact ((al.take _).app (fun c hc => ((al.drop _).take _) c (List.mem_reverse.mp hc))).app (al.drop _)
    · have hrp := rev_short (z := L2.cutS z (some (i : Int)) (some ((i + 2 : Nat) : Int))) (by rw [cut_mid]; simp; omega)
      have c1 := cl none (some (i : Int))
      have s1 := fun T => sl none (some (i : Int)) T
      have c2 := cl (some (i : Int)) (some ((i + 2 : Nat) : Int))
      have s2 := fun T => sl (some (i : Int)) (some ((i + 2 : Nat) : Int)) T
      have c3 := cl (some ((i + 2 : Nat) : Int)) none
      have s3 := fun T => sl (some ((i + 2 : Nat) : Int)) none T
      rw [← k2] at *
      generalize L2.cutS z none (some (i : Int)) = A at *
      generalize L2.cutS z (some (i : Int)) (some ((i : Int) + 2)) = B at *
      generalize L2.cutS z (some ((i : Int) + 2)) none = C at *
      have lr : (revS B).length ≤ 300 := by rw [← sgs_len, hrp, List.length_reverse, sgs_len]; omega
      have tu : ∀ T, gTurn (.str B) T = .ok (.str (revS B)) T := fun T => by
        unfold gTurn
        simp only
        rw [if_pos (by omega)]
      have ad := fun T => add_ss (a := A) (b := revS B) (S := T) (by omega) (by omega)
      have ad2 := fun T => add_ss (a := A ++ revS B) (b := C) (S := T) (by rw [len_app]; omega) (by omega)
      rw [ev, b__law_spoilt, fnB_2]
      show RS.fin (sSeq _ _ [some (.loc w), some (.str z), none, none, none, none] S) = _
      rw [head]
      simp [s1, s2, s3, tu, ad, ad2, -gAdd_ss]
  · have k3 : min (i : Int) (j : Int) = ((min i j : Nat) : Int) := by omega
    have k4 : max (i : Int) (j : Int) = ((max i j : Nat) : Int) := by omega
    have mn : ∀ T, gMin [.int (i : Int), .int (j : Int)] T = .ok (.int ((min i j : Nat) : Int)) T := fun T => by
      have : (if (j : Int) < (i : Int) then (j : Int) else (i : Int)) = ((min i j : Nat) : Int) := by split <;> omega
      show RE.ok (D.int (if (j : Int) < (i : Int) then (j : Int) else (i : Int))) T = _
      rw [this]
    have mx : ∀ T, gMax [.int (i : Int), .int (j : Int)] T = .ok (.int ((max i j : Nat) : Int)) T := fun T => by
      have : (if (j : Int) > (i : Int) then (j : Int) else (i : Int)) = ((max i j : Nat) : Int) := by split <;> omega
      show RE.ok (D.int (if (j : Int) > (i : Int) then (j : Int) else (i : Int))) T = _
      rw [this]
    refine fin (L2.cutS z none (some ((min i j : Nat) : Int)) ++ L2.cutS z (some ((max i j : Nat) : Int)) none) ?_ ?_ ?_
    · rw [sgs_app, cut_to, cut_from]; exact sp_w5 (by omega)
    · rw [sgs_app, cut_to, cut_from]; exact (al.take _).app (al.drop _)
    · have c1 := cl none (some ((min i j : Nat) : Int))
      have c2 := cl (some ((max i j : Nat) : Int)) none
      have s1 := fun T => sl none (some ((min i j : Nat) : Int)) T
      have s2 := fun T => sl (some ((max i j : Nat) : Int)) none T
      generalize L2.cutS z none (some ((min i j : Nat) : Int)) = A at *
      generalize L2.cutS z (some ((max i j : Nat) : Int)) none = B at *
      generalize ((min i j : Nat) : Int) = MN at *
      generalize ((max i j : Nat) : Int) = MX at *
      have ad := fun T => add_ss (a := A) (b := B) (S := T) (by omega) (by omega)
      rw [ev, b__law_spoilt, fnB_2]
      show RS.fin (sSeq _ _ [some (.loc w), some (.str z), none, none, none, none] S) = _
      rw [head]
      simp [s1, s2, ad, mn, mx, -gAdd_ss]
  · obtain ⟨d, S5, e5, m5, w5⟩ := one_sp (n := m) (S := S4) (w := w) (ds := [.str "*", .str ">", .str ""]) hm w4.well (by simp) (by simp)
    have he : ∃ e, d = .str e ∧ (sgs e = [] ∨ sgs e = [42] ∨ sgs e = [62]) := by
      simp only [List.mem_cons, List.not_mem_nil, or_false] at m5
      rcases m5 with rfl | rfl | rfl
      · exact ⟨_, rfl, .inr (.inl rfl)⟩
      · exact ⟨_, rfl, .inr (.inr rfl)⟩
      · exact ⟨_, rfl, .inl rfl⟩
    obtain ⟨e, rfl, he⟩ := he
    have le : e.length ≤ 1 := by rw [← sgs_len]; rcases he with h | h | h <;> rw [h] <;> simp
    have lo : (Str.ofString "(").length = 1 := by decide
    have lc : (Str.ofString ")").length = 1 := by decide
    have eq : sgs (Str.ofString "(" ++ z ++ e ++ z ++ Str.ofString ")") = wrp (sgs z) (sgs e) := by
      simp only [sgs_app]
      show [40] ++ sgs z ++ sgs e ++ sgs z ++ [41] = _
      unfold wrp; simp
    have ale : AlT (sgs e) := by rcases he with h | h | h <;> rw [h] <;> intro c hc <;> simp at hc <;> subst hc <;> simp [AL]
    refine ⟨Str.ofString "(" ++ z ++ e ++ z ++ Str.ofString ")", S5, ?_, ?_, ?_, ws.trans w5⟩
    · have ad1 := fun T => add_ss (a := Str.ofString "(") (b := z) (S := T) (by omega) (by omega)
      have ad2 := fun T => add_ss (a := Str.ofString "(" ++ z) (b := e) (S := T) (by rw [len_app]; omega) (by omega)
      have ad3 := fun T => add_ss (a := Str.ofString "(" ++ z ++ e) (b := z) (S := T) (by rw [len_app, len_app]; omega) (by omega)
      have ad4 := fun T => add_ss (a := Str.ofString "(" ++ z ++ e ++ z) (b := Str.ofString ")") (S := T) (by rw [len_app, len_app, len_app]; omega) (by omega)
      rw [ev, b__law_spoilt, fnB_2]
      show RS.fin (sSeq _ _ [some (.loc w), some (.str z), none, none, none, none] S) = _
      rw [head]
      simp [e5, ad1, ad2, ad3, ad4, h8, -gAdd_ss]
    · rw [eq]; exact Sp.wrap he
    · rw [eq]
      unfold wrp
      intro c hc
      simp only [List.mem_cons, List.mem_append, List.not_mem_nil, or_false] at hc
      rcases hc with rfl | hc | hc | hc | rfl
      · simp [AL]
      · exact al c hc
      · exact ale c hc
      · exact al c hc
      · simp [AL]
  · refine fin (L2.cutS z (some (i : Int)) none ++ L2.cutS z none (some (i : Int))) ?_ ?_ ?_
    · rw [sgs_app, cut_to, cut_from]; exact sp_w7 i
    · rw [sgs_app, cut_to, cut_from]; exact (al.drop _).app (al.take _)
    · have c1 := cl (some (i : Int)) none
      have s1 := fun T => sl (some (i : Int)) none T
      have c2 := cl none (some (i : Int))
      have s2 := fun T => sl none (some (i : Int)) T
      generalize L2.cutS z (some (i : Int)) none = A at *
      generalize L2.cutS z none (some (i : Int)) = B at *
      have ad := fun T => add_ss (a := A) (b := B) (S := T) (by omega) (by omega)
      rw [ev, b__law_spoilt, fnB_2]
      show RS.fin (sSeq _ _ [some (.loc w), some (.str z), none, none, none, none] S) = _
      rw [head]
      simp [s1, s2, ad, -gAdd_ss]
end Kz
namespace Kw
open PySem PySem.Spec PyProof.Rows L2
noncomputable def tryCR (es : List Str) (cs : List ClF) (r : RS) : RS := match r with
  | .ex x ρ' S' => if x.cls ∈ es ∧ x.ns = [] then clsR x ρ' S' cs else .no
  | r => r
theorem sTryC_ap {es : List Str} {cs : List ClF} {b : FS} {ρ : FEnv} {S : Store} : sTryC es cs b ρ S = tryCR es cs (b ρ S) := by
  unfold sTryC tryCR
  cases b ρ S <;> rfl
section
variable {es : List Str} {cs : List ClF} {sub : Str → Bool} {o : Option Nat} {i : Nat} {c : Str → Addr → FS} {ρ : FEnv} {S : Store} {d : D} {y : Str} {r : RS}
@[simp] theorem tryCR_rt : tryCR es cs (.rt d S) = .rt d S := rfl
@[simp] theorem tryCR_nx : tryCR es cs (.nx ρ S) = .nx ρ S := rfl
theorem tryCR_ex (hy : y ∈ es) (h : clsR ⟨y, [], []⟩ ρ S cs = r) : tryCR es cs (.ex ⟨y, [], []⟩ ρ S) = r := by
  show (if y ∈ es ∧ ([] : List Str) = [] then _ else _) = _
  rw [if_pos ⟨hy, rfl⟩, h]
theorem clsR_hit (hs : sub y = true) (h : ∀ a, clRun o (c y) ρ S a = r) : clsR ⟨y, [], []⟩ ρ S ((sub, o, c) :: cs) = r := by
  unfold clsR
  rw [if_pos hs]
  exact aInd_eq h
end
end Kw
namespace Kz
open PySem PySem.Spec PyProof.Rows L2 Kw
def Eqd (d : D) (q : Nat) : Prop := ∃ p : PyData, (∀ S, pyS S d = some p) ∧ p.canLay0 = true ∧ p.depth ≤ q ∧ PyData.eqv p p = true
def EqdL (ds : List D) (q : Nat) : Prop := ∃ ps : List PyData, (∀ S, pySL S ds = some ps) ∧ PyData.canLayAll0 ps = true ∧ PyData.depthAll ps ≤ q ∧ PyData.eqvAll ps ps = true
theorem EqdL.nil {q : Nat} : EqdL [] q := ⟨[], fun _ => rfl, rfl, Nat.zero_le _, Kd.eqvAll_n⟩
theorem EqdL.cons {d : D} {ds : List D} {q : Nat} (h : Eqd d q) (t : EqdL ds q) : EqdL (d :: ds) q := by
  obtain ⟨p, e, a, b, c⟩ := h
  obtain ⟨ps, e', a', b', c'⟩ := t
  refine ⟨p :: ps, fun S => ?_, by simp [PyData.canLayAll0, a, a'], by simp only [PyData.depthAll]; omega, by rw [Kd.eqvAll_c, c, c']; rfl⟩
  show (pyS S d).bind (fun a => (pySL S ds).map (a :: ·)) = _
  rw [e S, e' S]; rfl
theorem EqdL.all {ds : List D} {q : Nat} (h : ∀ d ∈ ds, Eqd d q) : EqdL ds q := by
  induction ds with
  | nil => exact .nil
  | cons d ds ih => exact .cons (h d List.mem_cons_self) (ih fun e he => h e (List.mem_cons_of_mem _ he))
theorem Eqd.tup {ds : List D} {q : Nat} (h : EqdL ds q) : Eqd (.tup ds) (q + 1) := by
  obtain ⟨ps, e, a, b, c⟩ := h
  refine ⟨.tuple ps, fun S => ?_, by simpa [PyData.canLay0] using a, by simp only [PyData.depth]; omega, by rw [Kd.eqv_t, c]⟩
  show (pySL S ds).map PyData.tuple = _
  rw [e S]; rfl
theorem Eqd.lst {ds : List D} {q : Nat} (h : EqdL ds q) : Eqd (.lst ds) (q + 1) := by
  obtain ⟨ps, e, a, b, c⟩ := h
  refine ⟨.list ps, fun S => ?_, by simpa [PyData.canLay0] using a, by simp only [PyData.depth]; omega, by simp only [PyData.eqv]; exact c⟩
  show (pySL S ds).map PyData.list = _
  rw [e S]; rfl
theorem Eqd.non {q : Nat} : Eqd .non q := ⟨.none, fun _ => rfl, by simp [PyData.canLay0], by simp [PyData.depth], by simp only [PyData.eqv]⟩
theorem Eqd.bl {b : Bool} {q : Nat} : Eqd (.bl b) q := ⟨.bool b, fun _ => rfl, by simp [PyData.canLay0], by simp [PyData.depth], by simp only [PyData.eqv]; cases b <;> rfl⟩
theorem Eqd.str {x : Str} {q : Nat} (h : PyData.strOk x = true) : Eqd (.str x) q := ⟨.str x, fun _ => rfl, by simpa [PyData.canLay0] using h, by simp [PyData.depth], by rw [Kd.eqv_s]; simp⟩
theorem Eqd.kd (k : Kd) : Eqd k.d (k.dep + 1) := ⟨k.p, fun S => Kd.pyS_d S k, by simp, by simp [Kd.depth_p], by rw [Kd.eqv_p]; simp⟩
theorem Eqd.int {i : Int} {q : Nat} : Eqd (.int i) q := ⟨.int i, fun _ => rfl, by simp [PyData.canLay0], by simp [PyData.depth], by rw [Kd.eqv_i]; simp⟩
theorem Eqd.ne {d : D} {q : Nat} {S : Store} (h : Eqd d q) (hq : q ≤ 200) : gNe d d S = .ok (.bl false) S := by
  have gen : eqE S d d = none → gNe d d S = .ok (.bl false) S := by
    intro h0
    obtain ⟨p, e, a, b, c⟩ := h
    unfold gNe
    rw [h0, e S]
    have ok : okPy p p = true := by simp [okPy, a]; omega
    show (if okPy p p then RE.ok (D.bl (!PyData.eqv p p)) S else .no) = _
    rw [if_pos ok, c]; rfl
  have som : ∀ b, eqE S d d = some b → b = true → gNe d d S = .ok (.bl false) S := by
    intro b h1 h2
    unfold gNe
    rw [h1, h2]; rfl
  cases h0 : eqE S d d with
  | none => exact gen h0
  | some b =>
    refine som b h0 ?_
    unfold eqE at h0
    split at h0
    · simp [seqL] at h0; exact h0
    · simp at h0; exact h0
    · simp at h0; exact h0
    · simp at h0; exact h0
    · cases h0
end Kz
namespace Kz
open PySem PySem.Spec PyProof.Rows L2 Kw
/-- a text that is looked at -/
structure Gt (z : Str) : Prop where
  al : AlT (sgs z)
  len : (sgs z).length ≤ 400
  dp : Dp7 (sgs z)
def rK : Option Kd → D
  | none => .str "no text"
  | some k => k.d
theorem read_bad {n : Nat} (h : 1 ≤ n) {d : D} {S : Store} (e : ev n .f_read_kind [d] S = exT S) : ev (n + 1) .f__law_read [d] S = .ok (.str "no text") S := by
  rw [ev, b__law_read, fnB_1]
  show RS.fin (sTryC _ _ _ [some d, none] S) = _
  rw [sTryC_ap]
  have hb : sRet (fArg (ev n .f_read_kind) (fCons (fVar 0) fNil)) [some d, none] S = .ex ⟨"NoText", [], []⟩ [some d, none] S := by
    unfold exT at e
    simp [e]
  rw [hb]
  have h1 : isx "NoText" "ValueError" = true := by decide +kernel
  have h2 : isx "NoText" "NoForm" = false := by decide +kernel
  have h3 : isx "NoText" "NoKind" = false := by decide +kernel
  rw [tryCR_ex (r := .rt (.str "no text") S) (by decide +kernel) (clsR_hit (by decide +kernel) fun a => by simp [clRun, h1, h2, h3])]
  rfl
theorem read_ok {n : Nat} (h : 3 ≤ n) {z : Str} (g : Gt z) {S : Store} : ev n .f__law_read [.str z] S = .ok (rK (rd (sgs z))) S := by
  obtain ⟨m, rfl, hm⟩ := up (d := 2) h
  have e := read_any (n := m) (S := S) hm g.al (by have := g.len; omega) g.dp
  cases hr : rd (sgs z) with
  | none =>
    rw [hr] at e
    exact read_bad (by omega) e
  | some k =>
    rw [hr] at e
    show _ = RE.ok k.d S
    have e' : ev m .f_read_kind [.str z] S = .ok k.d S := e
    rw [ev, b__law_read, fnB_1]
    show RS.fin (sTryC _ _ _ [some (.str z), none] S) = _
    rw [sTryC_ap]
    have hb : sRet (fArg (ev m .f_read_kind) (fCons (fVar 0) fNil)) [some (.str z), none] S = .rt k.d S := by
      generalize k.d = X at *
      simp [e']
    rw [hb]; rfl
theorem sgs_tx : ∀ k : Kd, sgs (tx k) = tl k
  | .base i => rfl
  | .unit => rfl
  | .both a b => by
    have h1 := sgs_tx a
    have h2 := sgs_tx b
    show sgs (("(" : Str) ++ tx a ++ "*" ++ tx b ++ ")") = _
    simp only [sgs_app, h1, h2]
    show [40] ++ tl a ++ [42] ++ tl b ++ [41] = _
    simp [tl]
  | .frm a b => by
    have h1 := sgs_tx a
    have h2 := sgs_tx b
    show sgs (("(" : Str) ++ tx a ++ ">" ++ tx b ++ ")") = _
    simp only [sgs_app, h1, h2]
    show [40] ++ tl a ++ [62] ++ tl b ++ [41] = _
    simp [tl]
theorem tl_len (n : Nat) : ∀ k : Kd, k.sz ≤ n → (tl k).length + 1 = 2 * k.sz := by
  induction n with
  | zero => intro k h; have := k.sz_pos; omega
  | succ n ih =>
    intro k h
    rcases kd_two k with ⟨_, h1, c, h2, _⟩ | ⟨b, x, y, rfl⟩
    · rw [h2, h1]; rfl
    · have hs : (mk2 b x y).sz = x.sz + y.sz + 1 := by cases b <;> simp [mk2, Kd.sz] <;> omega
      have px := x.sz_pos; have py := y.sz_pos
      have x1 := ih x (by omega)
      have y1 := ih y (by omega)
      rw [tl_mk2, hs]
      simp
      omega
/-- one text, looked at twice -/
theorem one_go {m : Nat} (hm : 220 ≤ m) {z : Str} (g : Gt z) {S : Store} {x0 x1 x2 x3 x5 x7 x8 : Option D} :
    ∃ y7, l__law_right_1 (ev m) [x0, x1, x2, x3, some (.str z), x5, some (oK (rd (sgs z))), x7, x8] S = .nx [x0, x1, x2, x3, some (.str z), x5, some (oK (rd (sgs z))), y7, x8] S := by
  have h8 : sizeLine = 16777216 := rfl
  have e := read_ok (n := m) (by omega) g (S := S)
  cases hr : rd (sgs z) with
  | none =>
    rw [hr] at e
    have e' : ev m .f__law_read [.str z] S = .ok (.str "no text") S := e
    refine ⟨some (.str "no text"), ?_⟩
    show l__law_right_1 (ev m) [x0, x1, x2, x3, some (.str z), x5, some D.non, x7, x8] S = .nx [x0, x1, x2, x3, some (.str z), x5, some D.non, _, x8] S
    have g1 : gIs false .non .non S = .ok (.bl true) S := rfl
    have g2 : gIs true .non .non S = .ok (.bl false) S := rfl
    rw [l__law_right_1]
    simp [e', g1, g2]
  | some k =>
    rw [hr] at e
    have e' : ev m .f__law_read [.str z] S = .ok k.d S := e
    refine ⟨some k.d, ?_⟩
    show l__law_right_1 (ev m) [x0, x1, x2, x3, some (.str z), x5, some k.d, x7, x8] S = .nx [x0, x1, x2, x3, some (.str z), x5, some k.d, _, x8] S
    have ht := rd_tl hr
    have hz : tx k = z := by
      rw [str_sgs (sgs_tx k), str_sgs ht]
    have hl := tl_len k.sz k (Nat.le_refl _)
    have gl := g.len
    rw [ht] at gl
    have d1 := dep_nc k.sz k (Nat.le_refl _)
    have d2 := tl_nc k
    have n0 : isNon S k.d = some false := by cases k <;> rfl
    have g1 : gIs false k.d .non S = .ok (.bl false) S := by
      show (match isNon S k.d with | some q => RE.ok (D.bl (xor false q)) S | none => .no) = _
      rw [n0]; rfl
    have g2 : gIs true k.d .non S = .ok (.bl true) S := by
      show (match isNon S k.d with | some q => RE.ok (D.bl (xor true q)) S | none => .no) = _
      rw [n0]; rfl
    have g3 := (Eqd.kd k).ne (S := S) (by omega)
    have ek := kind_text_kd k (n := m) (S := S) (by omega) (by omega)
    rw [hz] at ek
    rw [l__law_right_1]
    generalize k.d = X at *
    simp [e', g1, g2, g3, ek]
section
variable {tg : FG} {b : FS} {g : Option (Nat × List D)} {ρ ρ1 ρ2 : FEnv} {S S1 S2 : Store} {d : D} {r : List D}
theorem forL_g (hg : gd g S) (ht : tg d ρ S = some (ρ1, S1)) (hb : b ρ1 S1 = .nx ρ2 S2) : forL tg b g (d :: r) ρ S = forL tg b g r ρ2 S2 := by
  show gchk g S _ _ = _
  rw [gchk, if_pos hg]
  simp only [ht, hb]
theorem forL_gn (hg : gd g S) : forL tg b g [] ρ S = .nx ρ S := by
  show gchk g S _ _ = _
  rw [gchk, if_pos hg]
end
theorem itR_two (S : Store) : itR [.int 2] S = .ok ([.int 0, .int 1], none) S := rfl
theorem text_go {m : Nat} (hm : 220 ≤ m) {z : Str} (g : Gt z) {S : Store} {x0 x1 x2 x3 x5 x6 x7 x8 : Option D} :
    ∃ y2 y6 y7, l__law_right_2 (ev m) [x0, x1, x2, x3, some (.str z), x5, x6, x7, x8] S = .nx [x0, x1, y2, x3, some (.str z), x5, y6, y7, x8] S := by
  have e0 := kind_in_any (n := m) (S := S) (by omega) g.al (by have := g.len; omega)
  obtain ⟨z7, e1⟩ := one_go hm g (S := S) (x0 := x0) (x1 := x1) (x2 := some (.int 0)) (x3 := x3) (x5 := x5) (x7 := x7) (x8 := x8)
  obtain ⟨y7, e2⟩ := one_go hm g (S := S) (x0 := x0) (x1 := x1) (x2 := some (.int 1)) (x3 := x3) (x5 := x5) (x7 := z7) (x8 := x8)
  refine ⟨some (.int 1), some (oK (rd (sgs z))), y7, ?_⟩
  have r2 := itR_two S
  have e3 : forL (gN 2) (l__law_right_1 (ev m)) none [.int 0, .int 1] [x0, x1, x2, x3, some (.str z), x5, some (oK (rd (sgs z))), x7, x8] S = .nx [x0, x1, some (.int 1), x3, some (.str z), x5, some (oK (rd (sgs z))), y7, x8] S := by
    rw [forL_g (by unfold gd; trivial) (by simp) e1, forL_g (by unfold gd; trivial) (by simp) e2, forL_gn (by unfold gd; trivial)]
  rw [l__law_right_2]
  generalize oK (rd (sgs z)) = O at *
  simp [e0, r2, e3, -itR_int]
theorem texts_go {m : Nat} (hm : 220 ≤ m) {S : Store} {gg : Option (Nat × List D)} (hg : gd gg S) {x0 x1 x3 x5 x8 : Option D} : ∀ (zs : List Str), (∀ z ∈ zs, Gt z) → ∀ {x2 x4 x6 x7 : Option D}, ∃ y2 y4 y6 y7, forL (gN 4) (l__law_right_2 (ev m)) gg (zs.map D.str) [x0, x1, x2, x3, x4, x5, x6, x7, x8] S = .nx [x0, x1, y2, x3, y4, x5, y6, y7, x8] S
  | [], _, x2, x4, x6, x7 => ⟨x2, x4, x6, x7, by rw [List.map_nil, forL_gn hg]⟩
  | z :: zs, h, x2, x4, x6, x7 => by
    obtain ⟨z2, z6, z7, e1⟩ := text_go hm (h z List.mem_cons_self) (S := S) (x0 := x0) (x1 := x1) (x2 := x2) (x3 := x3) (x5 := x5) (x6 := x6) (x7 := x7) (x8 := x8)
    obtain ⟨y2, y4, y6, y7, e2⟩ := texts_go hm hg zs (fun y hy => h y (List.mem_cons_of_mem _ hy)) (x0 := x0) (x1 := x1) (x3 := x3) (x5 := x5) (x8 := x8) (x2 := z2) (x4 := some (.str z)) (x6 := z6) (x7 := z7)
    refine ⟨y2, y4, y6, y7, ?_⟩
    rw [← e2, List.map_cons]
    exact forL_g hg (by simp) e1
def seven : List D := [.str "a", .str "b", .str "1", .str "(", .str ")", .str "*", .str ">"]
theorem seven_ok : ∀ d ∈ seven, ∃ y : Str, d = .str y ∧ ∃ c, sgs y = [c] ∧ c ∈ AL := by
  intro d hd
  simp only [seven, List.mem_cons, List.not_mem_nil, or_false] at hd
  rcases hd with rfl | rfl | rfl | rfl | rfl | rfl | rfl
  · exact ⟨_, rfl, 97, rfl, by simp [AL]⟩
  · exact ⟨_, rfl, 98, rfl, by simp [AL]⟩
  · exact ⟨_, rfl, 49, rfl, by simp [AL]⟩
  · exact ⟨_, rfl, 40, rfl, by simp [AL]⟩
  · exact ⟨_, rfl, 41, rfl, by simp [AL]⟩
  · exact ⟨_, rfl, 42, rfl, by simp [AL]⟩
  · exact ⟨_, rfl, 62, rfl, by simp [AL]⟩
theorem sgs_join : ∀ ys : List Str, sgs (Txt.join (Str.ofString "") ys) = (ys.map sgs).flatten := by
  intro ys
  show sgs (Builtin.Str.glued (Str.ofString "") ys) = _
  rw [StrLaws.glued_eq_join]
  induction ys with
  | nil => rfl
  | cons y ys ih =>
    cases ys with
    | nil => simp [Str.join]
    | cons y2 ys =>
      show sgs (y ++ Str.ofString "" ++ Str.join (Str.ofString "") (y2 :: ys)) = _
      rw [sgs_app, sgs_app, ih]
      show sgs y ++ [] ++ _ = _
      simp
theorem gt_row {ys : List Str} (h : ∀ y ∈ ys, ∃ c, sgs y = [c] ∧ c ∈ AL) (hl : ys.length ≤ 8) : Gt (Txt.join (Str.ofString "") ys) := by
  have e := sgs_join ys
  have len : ((ys.map sgs).flatten).length = ys.length := by
    clear e hl
    induction ys with
    | nil => rfl
    | cons y ys ih =>
      obtain ⟨c, hc, _⟩ := h y List.mem_cons_self
      rw [List.map_cons, List.flatten_cons, List.length_append, ih fun q hq => h q (List.mem_cons_of_mem _ hq), hc]
      simp; omega
  refine ⟨?_, by rw [e, len]; omega, ?_⟩
  · rw [e]
    intro c hc
    obtain ⟨l, hl2, hc⟩ := List.mem_flatten.mp hc
    obtain ⟨y, hy, rfl⟩ := List.mem_map.mp hl2
    obtain ⟨d, hd, ha⟩ := h y hy
    rw [hd] at hc
    simp at hc
    rw [hc]; exact ha
  · refine dp_few ?_
    rw [e]
    have : nc ((ys.map sgs).flatten) ≤ ((ys.map sgs).flatten).length := List.count_le_length
    omega
theorem fold_app : ∀ (l : List (Array Nat)) (a : Array Nat), (l.foldl (· ++ ·) a).toList = a.toList ++ (l.map Array.toList).flatten
  | [], a => by simp
  | x :: l, a => by
    rw [List.foldl_cons, fold_app l]
    simp
theorem sgs_rep (p : Str) {j : Nat} (hj : 1 ≤ j) : sgs (repS p (j : Int)) = (List.replicate j (sgs p)).flatten := by
  unfold repS
  rw [if_neg (by omega)]
  split
  · rename_i hc
    simp only [Bool.or_eq_true, beq_iff_eq] at hc
    rcases hc with h | h
    · have : j = 1 := by omega
      subst this
      simp
    · have h0 : sgs p = [] := List.length_eq_zero_iff.mp (by rw [sgs_len]; exact h)
      rw [h0]
      simp
  · show ((List.replicate (j : Int).toNat p.cps).foldl (· ++ ·) #[]).toList = _
    rw [fold_app, Int.toNat_natCast]
    simp [sgs]
def four : List D := [.str "(", .str ")", .str "(a", .str "a"]
theorem four_ok : ∀ d ∈ four, ∃ p : Str, d = .str p ∧ p.length ≤ 2 ∧ AlT (sgs p) ∧ (nc (sgs p) = 0 ∨ sgs p = [41]) := by
  intro d hd
  simp only [four, List.mem_cons, List.not_mem_nil, or_false] at hd
  rcases hd with rfl | rfl | rfl | rfl
  · exact ⟨_, rfl, by decide, by show AlT [40]; intro c hc; simp at hc; subst hc; simp [AL], .inl rfl⟩
  · exact ⟨_, rfl, by decide, by show AlT [41]; intro c hc; simp at hc; subst hc; simp [AL], .inr rfl⟩
  · exact ⟨_, rfl, by decide, by show AlT [40, 97]; intro c hc; simp at hc; rcases hc with rfl | rfl <;> simp [AL], .inl rfl⟩
  · exact ⟨_, rfl, by decide, by show AlT [97]; intro c hc; simp at hc; subst hc; simp [AL], .inl rfl⟩
theorem gt_many {p : Str} (hl : p.length ≤ 2) (al : AlT (sgs p)) (h : nc (sgs p) = 0 ∨ sgs p = [41]) {j : Nat} (h1 : 1 ≤ j) (hj : j ≤ 90) : Gt (repS p (j : Int)) := by
  have e := sgs_rep p h1
  have mem : ∀ c ∈ (List.replicate j (sgs p)).flatten, c ∈ sgs p := fun c hc => by
    obtain ⟨l, hl, hc⟩ := List.mem_flatten.mp hc
    rw [(List.mem_replicate.mp hl).2] at hc
    exact hc
  have len : ((List.replicate j (sgs p)).flatten).length = j * (sgs p).length := by simp
  rw [sgs_len] at len
  have le2 : j * p.length ≤ 90 * 2 := Nat.mul_le_mul hj hl
  refine ⟨by rw [e]; exact fun c hc => al c (mem c hc), by rw [e, len]; omega, ?_⟩
  rw [e]
  rcases h with h | h
  · refine dp_few ?_
    have : nc ((List.replicate j (sgs p)).flatten) = 0 := by
      refine List.count_eq_zero.mpr fun hc => ?_
      have := nc_mem (mem _ hc)
      omega
    omega
  · intro u k v he _ _
    obtain ⟨a, c, b, e1, lc, _⟩ := tl_deep k.sz k (Nat.le_refl _)
    have : c ∈ (List.replicate j (sgs p)).flatten := by rw [he, e1]; simp
    have := mem c this
    rw [h] at this
    simp at this
    exact absurd this (leaf_no lc).2
end Kz
namespace Kz
open PySem PySem.Spec PyProof.Rows L2 Kw
theorem base_of {r : Int} (h0 : 0 ≤ r) (h1 : r < 8) : ∃ k : Kd, k.d = .tup [.str "base", .int r] ∧ k.dep = 0 ∧ k.sz = 1 := by
  refine ⟨.base ⟨r.toNat, by omega⟩, ?_, rfl, rfl⟩
  simp [Kd.d]; omega
theorem law_kind (N : Nat) : ∀ {L n : Nat} {S : Store} {w : Nat}, 1 ≤ L → L ≤ N → N ≤ 1000 → N + 2 ≤ n → Well S w → ∃ k S', ev n .f__law_kind [.loc w, .int (L : Int)] S = .ok (Kd.d k) S' ∧ k.dep < L ∧ k.sz < 2 * L ∧ WS S w S' := by
  have h8 : sizeLine = 16777216 := rfl
  induction N with
  | zero => intro L n S w h1 h2; omega
  | succ N ih =>
    intro L n S w h1 h2 hN hn hw
    obtain ⟨m, rfl, h'⟩ := up (d := N + 2) hn
    by_cases hL : L < 2
    · have hL1 : L = 1 := by omega
      subst hL1
      obtain ⟨r1, S1, e1, a1, b1, w1⟩ := draw_sp (n := m) (S := S) (w := w) (m := 3) (by omega) hw (by decide) (by decide)
      obtain ⟨r2, S2, e2, a2, b2, w2⟩ := draw_sp (n := m) (S := S1) (w := w) (m := 8) (by omega) w1.well (by decide) (by decide)
      obtain ⟨d, S3, e3, m3, w3⟩ := one_sp (n := m) (S := S2) (w := w) (ds := [.tup [.str "base", .int r1], .tup [.str "base", .int r2], .tup [.str "base", .int 0], .tup [.str "unit"]]) (by omega) w2.well (by simp) (by simp)
      obtain ⟨k1, q1, p1, s1⟩ := base_of a1 (by omega)
      obtain ⟨k2, q2, p2, s2⟩ := base_of a2 (by omega)
      have hd : ∃ k : Kd, k.d = d ∧ k.dep < 1 ∧ k.sz < 2 := by
        simp only [List.mem_cons, List.not_mem_nil, or_false] at m3
        rcases m3 with rfl | rfl | rfl | rfl
        · exact ⟨k1, q1, by omega, by omega⟩
        · exact ⟨k2, q2, by omega, by omega⟩
        · exact ⟨.base 0, rfl, by decide, by decide⟩
        · exact ⟨.unit, rfl, by decide, by decide⟩
      obtain ⟨k, rfl, p, q⟩ := hd
      refine ⟨k, S3, ?_, p, q, (w1.trans w2).trans w3⟩
      rw [ev, b__law_kind]
      simp [e1, e2, h8, e3]
    · obtain ⟨r1, S1, e1, a1, b1, w1⟩ := draw_sp (n := m) (S := S) (w := w) (m := (L : Int) - 1) (by omega) hw (by omega) (by omega)
      obtain ⟨d, S2, e2, m2, w2⟩ := one_sp (n := m) (S := S1) (w := w) (ds := [.str "both", .str "from"]) (by omega) w1.well (by simp) (by simp)
      obtain ⟨k3, S3, e3, p3, s3, w3⟩ := ih (L := (1 + r1).toNat) (n := m) (S := S2) (w := w) (by omega) (by omega) (by omega) (by omega) w2.well
      obtain ⟨k4, S4, e4, p4, s4, w4⟩ := ih (L := ((L : Int) - (1 + r1)).toNat) (n := m) (S := S3) (w := w) (by omega) (by omega) (by omega) (by omega) w3.well
      have c3 : (((1 + r1).toNat : Nat) : Int) = 1 + r1 := by omega
      have c4 : ((((L : Int) - (1 + r1)).toNat : Nat) : Int) = (L : Int) - (1 + r1) := by omega
      rw [c3] at e3
      rw [c4] at e4
      have hd : ∃ b : Bool, d = .str (wd b) := by
        simp only [List.mem_cons, List.not_mem_nil, or_false] at m2
        rcases m2 with rfl | rfl
        · exact ⟨true, rfl⟩
        · exact ⟨false, rfl⟩
      obtain ⟨b, rfl⟩ := hd
      refine ⟨mk2 b k3 k4, S4, ?_, ?_, ?_, ((w1.trans w2).trans w3).trans w4⟩
      · rw [ev, b__law_kind, mk2_d]
        have hL' : ¬ ((L : Int) < 2) := by omega
        simp [hL', e1, e2, e3, e4, h8]
      · cases b <;> simp [mk2, Kd.dep] <;> omega
      · cases b <;> simp [mk2, Kd.sz] <;> omega
end Kz
namespace Kz
open PySem PySem.Spec PyProof.Rows L2 Kw
noncomputable def pr0 (cl : Fn → FF) : FS := (sSet 1 (fArg (cl .f_kind_text) (fCons (fArg (cl .f__law_kind) (fCons (fVar 0) (fCons (f2 (gAdd false) (fC (.int 1)) (fArg (cl .f__law_draw) (fCons (fVar 0) (fCons (fC (.int 7)) fNil)))) fNil))) fNil)))
noncomputable def pr1 (cl : Fn → FF) : FS := (sFor (fiR1 (fCons (fArg (cl .f__law_draw) (fCons (fVar 0) (fCons (fC (.int 3)) fNil))) fNil)) (gN 2) (l__law_right_0 cl))
noncomputable def pr2 (cl : Fn → FF) : FS := (sSet 3 (fArg mkCel (fCons (fVar 1) (fCons (fSM gJoin (fC (.str "")) (fCons (fLc false (fiR1 (fCons (fArg (cl .f__law_draw) (fCons (fVar 0) (fCons (fC (.int 9)) fNil))) fNil)) (gN 8) fYes (fArg (cl .f__law_one) (fCons (fVar 0) (fCons (fArg mkLst (fCons (fC (.str "a")) (fCons (fC (.str "b")) (fCons (fC (.str "1")) (fCons (fC (.str "(")) (fCons (fC (.str ")")) (fCons (fC (.str "*")) (fCons (fC (.str ">")) fNil)))))))) fNil))) [8]) fNil)) fNil))))
noncomputable def pr3 (cl : Fn → FF) : FS := (sExp (fMth gAppend (fVar 3) (fCons (f2 (gMul false) (fArg (cl .f__law_one) (fCons (fVar 0) (fCons (fArg mkLst (fCons (fC (.str "(")) (fCons (fC (.str ")")) (fCons (fC (.str "(a")) (fCons (fC (.str "a")) fNil))))) fNil))) (f2 (gAdd false) (fC (.int 1)) (fArg (cl .f__law_draw) (fCons (fVar 0) (fCons (fC (.int 90)) fNil))))) fNil)))
noncomputable def pr4 (cl : Fn → FF) : FS := (sFor (fiL (fVar 3)) (gN 4) (l__law_right_2 cl))
noncomputable def pr5 (cl : Fn → FF) : FS := (sSet 5 (fArg (cl .f__law_one) (fCons (fVar 0) (fCons (fArg mkLst (fCons (fC .non) (fCons (fC (.int 5)) (fCons (fArg mkLst (fCons (fVar 1) fNil)) (fCons (fArg mkTup (fCons (fVar 1) fNil)) (fCons (fC (.bl true)) (fCons (fArg mkTup (fCons (fC (.str "base")) (fCons (fC (.int 0)) fNil))) (fCons (fDic [] []) fNil)))))))) fNil))))
noncomputable def pr6 (cl : Fn → FF) : FS := (sRet (fAndV (f2 gEq (fArg (cl .f__law_read) (fCons (fVar 5) fNil)) (fC (.str "no text"))) (f2 gEq (fArg (cl .f__law_read) (fCons (fC (.str "")) fNil)) (fC (.str "no text")))))
theorem preq (cl : Fn → FF) : b__law_right cl = sSeq (pr0 cl) (sSeq (pr1 cl) (sSeq (pr2 cl) (sSeq (pr3 cl) (sSeq (pr4 cl) (sSeq (pr5 cl) (pr6 cl)))))) := rfl
theorem tl_al : ∀ k : Kd, AlT (tl k)
  | .base i => by
    have : ∀ i : _root_.Fin 8, 97 + i.val ∈ AL := by decide +kernel
    intro c hc
    simp [tl] at hc
    rw [hc]; exact this i
  | .unit => by intro c hc; simp [tl] at hc; rw [hc]; simp [AL]
  | .both a b => by
    have ha := tl_al a
    have hb := tl_al b
    intro c hc
    simp only [tl, List.mem_cons, List.mem_append, List.not_mem_nil, or_false] at hc
    rcases hc with rfl | hc | rfl | hc | rfl
    · simp [AL]
    · exact ha c hc
    · simp [AL]
    · exact hb c hc
    · simp [AL]
  | .frm a b => by
    have ha := tl_al a
    have hb := tl_al b
    intro c hc
    simp only [tl, List.mem_cons, List.mem_append, List.not_mem_nil, or_false] at hc
    rcases hc with rfl | hc | rfl | hc | rfl
    · simp [AL]
    · exact ha c hc
    · simp [AL]
    · exact hb c hc
    · simp [AL]
theorem rL0_go {m : Nat} (hm : 3 ≤ m) {S : Store} {w : Nat} {x2 : Option D} {r : List (Option D)} {z z' : Str} {S' : Store} (e : ev m .f__law_spoilt [.loc w, .str z] S = .ok (.str z') S') : l__law_right_0 (ev m) (some (.loc w) :: some (.str z) :: x2 :: r) S = .nx (some (.loc w) :: some (.str z') :: x2 :: r) S' := by
  rw [l__law_right_0]
  exact (by rw [sSet_ap]; simp [e])
theorem spoil_go {m : Nat} (hm : 3 ≤ m) {S : Store} {w : Nat} (hw : Well S w) {k : Kd} (hk : k.sz ≤ 13) {q : Int} (h0 : 0 ≤ q) (hq : q < 3) {x2 x3 x4 x5 x6 x7 x8 : Option D} :
    ∃ z y2 S', forL (gN 2) (l__law_right_0 (ev m)) none (rngD 0 q.toNat) [some (.loc w), some (.str (tx k)), x2, x3, x4, x5, x6, x7, x8] S = .nx [some (.loc w), some (.str z), y2, x3, x4, x5, x6, x7, x8] S' ∧ Gt z ∧ WS S w S' := by
  have c6 : nc (tl k) ≤ 6 := by have := tl_nc k; omega
  have l0 := tl_len k.sz k (Nat.le_refl _)
  have s0 := sgs_tx k
  have a0 : AlT (sgs (tx k)) := by rw [s0]; exact tl_al k
  have gd0 : ∀ T : Store, gd none T := fun T => by unfold gd; trivial
  obtain rfl | rfl | rfl : q = 0 ∨ q = 1 ∨ q = 2 := by omega
  · exact ⟨tx k, x2, S, forL_gn (gd0 S), ⟨a0, by rw [s0]; omega, by rw [s0]; exact dp_few (by omega)⟩, WS.refl hw⟩
  · obtain ⟨z1, S1, e1, p1, a1, w1⟩ := spoilt_ok hm hw (z := tx k) (by rw [s0]; omega) a0
    have p1' := p1
    rw [s0] at p1'
    have l1 := p1'.len
    refine ⟨z1, some (.int 0), S1, ?_, ⟨a1, by omega, dp_one c6 p1'⟩, w1⟩
    show forL _ _ none [.int 0] _ _ = _
    rw [forL_g (ρ1 := [some (.loc w), some (.str (tx k)), some (.int 0), x3, x4, x5, x6, x7, x8]) (gd0 _) (by simp) (rL0_go hm e1), forL_gn (gd0 _)]
  · obtain ⟨z1, S1, e1, p1, a1, w1⟩ := spoilt_ok hm hw (z := tx k) (by rw [s0]; omega) a0
    have p1' := p1
    rw [s0] at p1'
    have l1 := p1'.len
    obtain ⟨z2, S2, e2, p2, a2, w2⟩ := spoilt_ok hm w1.well (z := z1) (by omega) a1
    have l2 := p2.len
    refine ⟨z2, some (.int 1), S2, ?_, ⟨a2, by omega, dp_spoilt c6 p1' p2⟩, w1.trans w2⟩
    show forL _ _ none [.int 0, .int 1] _ _ = _
    rw [forL_g (ρ1 := [some (.loc w), some (.str (tx k)), some (.int 0), x3, x4, x5, x6, x7, x8]) (gd0 _) (by simp) (rL0_go hm e1), forL_g (ρ1 := [some (.loc w), some (.str z1), some (.int 1), x3, x4, x5, x6, x7, x8]) (gd0 _) (by simp) (rL0_go hm e2), forL_gn (gd0 _)]
theorem strsOf_map : ∀ ys : List Str, strsOf (ys.map D.str) = some ys
  | [] => rfl
  | y :: ys => by simp [strsOf, strsOf_map ys]
theorem join_go {ys : List Str} (h : ∀ y ∈ ys, ∃ c, sgs y = [c] ∧ c ∈ AL) (hl : ys.length ≤ 8) (S : Store) : gJoin (.str (Str.ofString "")) [.lst (ys.map D.str)] S = .ok (.str (Txt.join (Str.ofString "") ys)) S := by
  have hs : (ys.map (·.length)).sum = ys.length := by
    clear hl
    induction ys with
    | nil => rfl
    | cons y ys ih =>
      obtain ⟨c, hc, _⟩ := h y List.mem_cons_self
      have : y.length = 1 := by rw [← sgs_len, hc]; rfl
      rw [List.map_cons, List.sum_cons, ih fun q hq => h q (List.mem_cons_of_mem _ hq), this]
      simp; omega
  have h0 : (Str.ofString "").length = 0 := by decide
  have h1 : (seqL S (.lst (ys.map D.str))).bind strsOf = some ys := by
    show (some (ys.map D.str)).bind strsOf = _
    simp [strsOf_map]
  unfold gJoin
  simp only [h1]
  rw [if_pos (by rw [hs, h0]; omega)]
theorem row_go {m : Nat} (hm : 3 ≤ m) {S : Store} {w : Nat} (hw : Well S w) {q : Nat} (hq : q ≤ 8) {x1 x2 x3 x4 x5 x6 x7 : Option D} :
    ∃ (ys : List Str) (S' : Store), compL (gN 8) fYes (fArg (ev m .f__law_one) (fCons (fVar 0) (fCons (fArg mkLst (fCons (fC (.str "a")) (fCons (fC (.str "b")) (fCons (fC (.str "1")) (fCons (fC (.str "(")) (fCons (fC (.str ")")) (fCons (fC (.str "*")) (fCons (fC (.str ">")) fNil)))))))) fNil))) none [some (.loc w), x1, x2, x3, x4, x5, x6, x7, none] (rngD 0 q) [] S = .ok (ys.map .str) S' ∧ (∀ y ∈ ys, ∃ c, sgs y = [c] ∧ c ∈ AL) ∧ ys.length ≤ 8 ∧ WS S w S' := by
  have h8 : sizeLine = 16777216 := rfl
  obtain ⟨acc, S', e, ⟨⟨ys, hy, hall⟩, ws⟩, hl⟩ := compL_inv (tg := gN 8) (tt := fYes) (te := fArg (ev m .f__law_one) (fCons (fVar 0) (fCons (fArg mkLst (fCons (fC (.str "a")) (fCons (fC (.str "b")) (fCons (fC (.str "1")) (fCons (fC (.str "(")) (fCons (fC (.str ")")) (fCons (fC (.str "*")) (fCons (fC (.str ">")) fNil)))))))) fNil))) (ρ := [some (.loc w), x1, x2, x3, x4, x5, x6, x7, none])
    (fun T acc => (∃ ys : List Str, acc = ys.map D.str ∧ ∀ y ∈ ys, ∃ c, sgs y = [c] ∧ c ∈ AL) ∧ WS S w T) (rngD 0 q) [] S
    (fun d hd T acc ⟨⟨ys, hy, hall⟩, ws⟩ => by
      obtain ⟨d2, T2, e3, m3, w3⟩ := one_sp (n := m) (S := T) (w := w) (ds := seven) (by omega) ws.well (by simp [seven]) (by simp [seven])
      obtain ⟨y, rfl, hy2⟩ := seven_ok d2 m3
      have e3' : ev m Fn.f__law_one [.loc w, .lst [.str "a", .str "b", .str "1", .str "(", .str ")", .str "*", .str ">"]] T = .ok (.str y) T2 := e3
      refine ⟨_, .str y, T2, rfl, rfl, ?_, ⟨ys ++ [y], by simp [hy], fun q hq => ?_⟩, ws.trans w3⟩
      · simp [e3', h8]
      · rcases List.mem_append.mp hq with hq | hq
        · exact hall q hq
        · simp at hq; rw [hq]; exact hy2)
    ⟨⟨[], rfl, fun z hz => nomatch hz⟩, WS.refl hw⟩ (by rw [h8, rngD_len]; simp; omega)
  subst hy
  refine ⟨ys, S', e, hall, ?_, ws⟩
  rw [rngD_len] at hl
  simp at hl
  omega
theorem read_odd {n : Nat} (h : 1 ≤ n) {S : Store} {d : D} (hd : isiR "str" d S = .ok (.bl false) S) : ev n .f_read_kind [d] S = exT S := by
  obtain ⟨m, rfl, h'⟩ := up h
  have : fnB 1 3 (b_read_kind (ev m)) [d] S = .ex ⟨"NoText", [], []⟩ (S ++ []) := by
    rw [b_read_kind]
    simp [hd]
  rw [ev, fnC_ap, this, cut_exT]; rfl
theorem law_right {n : Nat} (hn : 225 ≤ n) {S : Store} {w : Nat} (hw : Well S w) : ∃ S', ev n .f__law_right [.loc w] S = .ok (.bl true) S' := by
  have h8 : sizeLine = 16777216 := rfl
  obtain ⟨m, rfl, hm⟩ := up (d := 224) hn
  obtain ⟨r, S1, e1, a1, b1, w1⟩ := draw_sp (n := m) (S := S) (w := w) (m := 7) (by omega) hw (by decide) (by decide)
  obtain ⟨k, S2, e2, p2, s2, w2⟩ := law_kind 7 (L := (1 + r).toNat) (n := m) (S := S1) (w := w) (by omega) (by omega) (by omega) (by omega) w1.well
  rw [show (((1 + r).toNat : Nat) : Int) = 1 + r by omega] at e2
  have ek := kind_text_kd k (n := m) (S := S2) (by omega) (by omega)
  obtain ⟨q, S3, e3, a3, b3, w3⟩ := draw_sp (n := m) (S := S2) (w := w) (m := 3) (by omega) w2.well (by decide) (by decide)
  obtain ⟨z, y2, S4, e4, g4, w4⟩ := spoil_go (m := m) (by omega) w3.well (k := k) (by omega) a3 b3 (x2 := none) (x3 := none) (x4 := none) (x5 := none) (x6 := none) (x7 := none) (x8 := none)
  obtain ⟨r5, S5, e5, a5, b5, w5⟩ := draw_sp (n := m) (S := S4) (w := w) (m := 9) (by omega) w4.well (by decide) (by decide)
  obtain ⟨ys, S6, e6, hys, lys, w6⟩ := row_go (m := m) (by omega) w5.well (q := r5.toNat) (by omega) (x1 := some (.str z)) (x2 := y2) (x3 := none) (x4 := none) (x5 := none) (x6 := none) (x7 := none)
  have ej := join_go hys lys S6
  have gr := gt_row hys lys
  generalize Txt.join (Str.ofString "") ys = row at *
  have wq := ((((w1.trans w2).trans w3).trans w4).trans w5).trans w6
  have lS6 : S6.length = S.length := wq.len
  have wlt : w < S.length := by obtain ⟨_, _, _, _, _, _, _, h⟩ := hw; exact lt_of_at h
  generalize hS7 : S6 ++ [Cell.lst [.str z, .str row]] = S7 at *
  have at7 : S7[S.length]? = some (.lst [.str z, .str row]) := by rw [← hS7, ← lS6]; simp
  have w7 : Well S7 w := by
    obtain ⟨a, b, c, ha, hb, hb', hc, h⟩ := wq.well
    refine ⟨a, b, c, ha, hb, hb', hc, ?_⟩
    rw [← hS7, List.getElem?_append_left (by omega)]; exact h
  obtain ⟨d8, S8, e8, m8, w8⟩ := one_sp (n := m) (S := S7) (w := w) (ds := four) (by omega) w7 (by simp [four]) (by simp [four])
  obtain ⟨p, rfl, lp, ap, hp⟩ := four_ok d8 m8
  have e8' : ev m Fn.f__law_one [.loc w, .lst [.str "(", .str ")", .str "(a", .str "a"]] S7 = .ok (.str p) S8 := e8
  obtain ⟨r9, S9, e9, a9, b9, w9⟩ := draw_sp (n := m) (S := S8) (w := w) (m := 90) (by omega) w8.well (by decide) (by decide)
  obtain ⟨j, rfl⟩ : ∃ j : Nat, r9 = (j : Int) := ⟨r9.toNat, by omega⟩
  have gm := gt_many (p := p) lp ap hp (j := 1 + j) (by omega) (by omega)
  have k1 : ((1 + j : Nat) : Int) = 1 + (j : Int) := by omega
  rw [k1] at gm
  have mu : ∀ T, gMul false (.str p) (.int (1 + (j : Int))) T = .ok (.str (repS p (1 + (j : Int)))) T := fun T => by
    have h1 : p.length * (1 + (j : Int)).toNat ≤ 2 * 100 := Nat.mul_le_mul lp (by omega)
    unfold gMul
    simp only
    rw [if_pos ⟨by omega, by omega, by omega, by omega⟩]
  generalize repS p (1 + (j : Int)) = many at *
  have at9 : S9[S.length]? = some (.lst [.str z, .str row]) := by rw [w9.same _ (by omega), w8.same _ (by omega)]; exact at7
  have hlt9 := lt_of_at at9
  have ga : gAppend (.loc S.length) [.str many] S9 = .ok .non (S9.set S.length (.lst ([.str z, .str row] ++ [.str many]))) := gAppend_loc (cellM_of at9) (by rw [h8]; simp)
  have e10 : [D.str z, .str row] ++ [.str many] = [z, row, many].map D.str := rfl
  rw [e10] at ga
  generalize hSA : S9.set S.length (.lst ([z, row, many].map D.str)) = SA at *
  have atA : SA[S.length]? = some (.lst ([z, row, many].map D.str)) := by rw [← hSA]; exact List.getElem?_set_self hlt9
  have wA : Well SA w := by
    obtain ⟨a, b, c, ha, hb, hb', hc, h⟩ := w9.well
    refine ⟨a, b, c, ha, hb, hb', hc, ?_⟩
    rw [← hSA, List.getElem?_set_ne (by omega)]; exact h
  have hgA : gd (some (S.length, [z, row, many].map D.str)) SA := cellOf_of atA
  obtain ⟨z2, z4, z6, z7, e11⟩ := texts_go (m := m) (by omega) hgA (x0 := some (.loc w)) (x1 := some (.str z)) (x3 := some (.loc S.length)) (x5 := none) (x8 := none) [z, row, many] (fun y hy => by
    simp only [List.mem_cons, List.not_mem_nil, or_false] at hy
    rcases hy with rfl | rfl | rfl
    · exact g4
    · exact gr
    · exact gm) (x2 := y2) (x4 := none) (x6 := none) (x7 := none)
  obtain ⟨od, SB, e12, m12, w12⟩ := one_sp (n := m) (S := SA) (w := w) (ds := [.non, .int 5, .lst [.str z], .tup [.str z], .bl true, .tup [.str "base", .int 0], .dic [] []]) (by omega) wA (by simp) (by simp)
  have hod : isiR "str" od SB = .ok (.bl false) SB := by
    simp only [List.mem_cons, List.not_mem_nil, or_false] at m12
    rcases m12 with rfl | rfl | rfl | rfl | rfl | rfl | rfl <;> simp
  obtain ⟨m', rfl⟩ : ∃ m', m = m' + 1 := ⟨m - 1, by omega⟩
  have e13 := read_bad (n := m') (d := od) (S := SB) (by omega) (read_odd (by omega) hod)
  have e14 := read_ok (n := m' + 1) (z := Str.ofString "") (S := SB) (by omega) ⟨(fun c hc => by cases hc), by decide, dp_few (by decide)⟩
  have e14' : ev (m' + 1) .f__law_read [.str (Str.ofString "")] SB = .ok (.str "no text") SB := e14
  have r3 : itR [.int q] S3 = .ok (rngD 0 q.toNat, none) S3 := by
    show (if -(2 ^ 62) ≤ q ∧ q < 2 ^ 62 then RE.ok (rngD 0 q.toNat, none) S3 else .no) = _
    rw [if_pos ⟨by omega, by omega⟩]
  have r5' : itR [.int r5] S5 = .ok (rngD 0 r5.toNat, none) S5 := by
    show (if -(2 ^ 62) ≤ r5 ∧ r5 < 2 ^ 62 then RE.ok (rngD 0 r5.toNat, none) S5 else .no) = _
    rw [if_pos ⟨by omega, by omega⟩]
  have s0 : pr0 (ev (m' + 1)) [some (.loc w), none, none, none, none, none, none, none, none] S = .nx [some (.loc w), some (.str (tx k)), none, none, none, none, none, none, none] S2 := by
    unfold pr0
    generalize k.d = X at *
    generalize tx k = TX at *
    rw [sSet_ap]
    simp [e1, e2, ek]
  have s1 : pr1 (ev (m' + 1)) [some (.loc w), some (.str (tx k)), none, none, none, none, none, none, none] S2 = .nx [some (.loc w), some (.str z), y2, none, none, none, none, none, none] S4 := by
    unfold pr1
    generalize tx k = TX at *
    simp [e3, r3, e4, -itR_int]
  have s2' : pr2 (ev (m' + 1)) [some (.loc w), some (.str z), y2, none, none, none, none, none, none] S4 = .nx [some (.loc w), some (.str z), y2, some (.loc S.length), none, none, none, none, none] S7 := by
    unfold pr2
    generalize ys.map D.str = YS at *
    rw [sSet_ap]
    simp [fSM, e5, r5', wipeR, e6, ej, h8, lS6, hS7, -itR_int]
  have hmt := fun (ρ : FEnv) (fa : FA) => mth_app (ρ := ρ) (fa := fa) at7
  have s3 : pr3 (ev (m' + 1)) [some (.loc w), some (.str z), y2, some (.loc S.length), none, none, none, none, none] S7 = .nx [some (.loc w), some (.str z), y2, some (.loc S.length), none, none, none, none, none] SA := by
    unfold pr3
    generalize hc : (S.length : Nat) = c at *
    simp [hmt, e8', e9, mu, ga, h8]
  have it4 : iSeq SA (.loc S.length) = some ([z, row, many].map D.str, some (S.length, [z, row, many].map D.str)) := by
    simp [iSeq, cellOf_of atA]
  have s4 : pr4 (ev (m' + 1)) [some (.loc w), some (.str z), y2, some (.loc S.length), none, none, none, none, none] SA = .nx [some (.loc w), some (.str z), z2, some (.loc S.length), z4, none, z6, z7, none] SA := by
    unfold pr4
    rw [sFor_ap]
    show (match iSeq SA (.loc S.length) with | some p => RE.ok p SA | none => .no).toS _ _ = _
    rw [it4]
    exact e11
  have s5 : pr5 (ev (m' + 1)) [some (.loc w), some (.str z), z2, some (.loc S.length), z4, none, z6, z7, none] SA = .nx [some (.loc w), some (.str z), z2, some (.loc S.length), z4, some od, z6, z7, none] SB := by
    unfold pr5
    rw [sSet_ap]
    simp [fDic, e12, h8]
  have s6 : pr6 (ev (m' + 1)) [some (.loc w), some (.str z), z2, some (.loc S.length), z4, some od, z6, z7, none] SB = .rt (.bl true) SB := by
    unfold pr6
    simp [e13, e14']
  have sq : ∀ {a b : FS} {ρ ρ' : FEnv} {T T' : Store}, a ρ T = .nx ρ' T' → sSeq a b ρ T = b ρ' T' := fun {a b ρ ρ' T T'} h => by rw [sSeq_ap, h]; rfl
  have body : fnB 1 9 (b__law_right (ev (m' + 1))) [.loc w] S = .ok (.bl true) SB := by
    rw [preq, fnB_1]
    show RS.fin (sSeq _ _ [some (.loc w), none, none, none, none, none, none, none, none] S) = _
    rw [sq s0, sq s1, sq s2', sq s3, sq s4, sq s5, s6]
    rfl
  have cok : CutOk S SB := by
    have lA : SA.length = S.length + 1 := by rw [← hSA, List.length_set, w9.len, w8.len, ← hS7, List.length_append, lS6]; rfl
    refine ⟨by rw [w12.len]; omega, fun i c hi e => ?_⟩
    by_cases hiw : i = w
    · right
      subst hiw
      obtain ⟨a, b, d, _, _, _, _, h⟩ := w12.well
      rw [h] at e
      cases e
      simp [Cell.under, underL, D.under]
    · left
      rw [w12.same i hiw, ← hSA, List.getElem?_set_ne (by omega), w9.same i hiw, w8.same i hiw, ← hS7, List.getElem?_append_left (by omega), wq.same i hiw] at e
      exact e
  refine ⟨SB.take S.length, ?_⟩
  rw [ev, fnC_ap, body]
  unfold cutR
  simp only
  rw [if_pos ⟨rfl, cok⟩]
theorem law_loop {m : Nat} (h : 226 ≤ m) {t : Option D} : ∀ (ns : List Int) {S : Store} {x : Option D}, ∃ x' S', forL (gN 1) (l_law_0 (ev m)) none (ns.map D.int) [t, x] S = .nx [t, x'] S'
  | [], S, x => ⟨x, S, by simp⟩
  | i :: ns, S, x => by
    obtain ⟨c, e1, hw⟩ := well_new (n := m) (S := S) (i := i) (by omega)
    obtain ⟨S2, e2⟩ := law_right (n := m) (by omega) hw
    obtain ⟨x', S', e3⟩ := law_loop h ns (S := S2) (x := some (.int i))
    refine ⟨x', S', ?_⟩
    rw [← e3]
    show forL _ _ _ (.int i :: ns.map D.int) _ _ = _
    rw [forL_cons]
    have hb : l_law_0 (ev m) [t, some (.int i)] S = .nx [t, some (.int i)] S2 := by
      rw [l_law_0]
      simp [e1, e2]
    simp [hb]
theorem cutL_map {α β : Type} (f : α → β) (xs : List α) (lo hi : Option Int) : cutL (xs.map f) lo hi = (cutL xs lo hi).map f := by
  simp [cutL]
theorem cutL_len {α : Type} (xs : List α) (lo hi : Option Int) : (cutL xs lo hi).length ≤ xs.length := by
  simp [cutL]; omega
theorem law_true (ns : List Int) (hl : ns.length ≤ 63) : ∃ S', Kw.fnB 1 2 (b_law (ev 230)) [.fls (ns.map .int)] [] = .ok (.bl true) S' := by
  obtain ⟨d, e1, hd⟩ := cell_at (n := 230) (S := []) (ds := ns.map D.int) (k := 0) (by omega)
  have hi : ∃ i : Int, d = .int i := by
    rcases hd with hd | rfl
    · obtain ⟨i, _, rfl⟩ := List.mem_map.mp hd
      exact ⟨i, rfl⟩
    · exact ⟨0, rfl⟩
  obtain ⟨i, rfl⟩ := hi
  obtain ⟨x', S', e2⟩ := law_loop (m := 230) (by omega) (t := some (.fls (ns.map D.int))) (i :: cutL ns (some 1) (some 12)) (S := []) (x := none)
  refine ⟨S', ?_⟩
  have hc := cutL_len ns (some 1) (some 12)
  have h9 : (cutL ns (some 1) (some 12)).length + 1 ≤ sizeLine := by
    have : sizeLine = 16777216 := rfl
    omega
  have h0 : ((0 : Nat) : Int) = 0 := rfl
  rw [h0] at e1
  simp at e2
  rw [b_law]
  simp [e1, cutL_map, h9, e2]
end Kz
open PySem PySem.W PyProof.Rows
local macro_rules | `(tactic| o_head $t:term) => do
  let (hw, hc) := (Lean.mkIdent `hw, Lean.mkIdent `hc)
  `(tactic| (refine PySem.W.holds_open (r := Kz.Hd.R) (q := Kz.Hd.qv) (loose := Kz.Hd.nm) (Xt := fun s => xlAt Kz.Hd.qv [] s && recOk (RowW.records (OpenRow.toRowW Kz.Hd.R)) s) (XP := XL Kz.Hd.qv []) (Yf := Hook.obs $t) (Ya := Hook.val $t) (YP := Hook.says $t) (N := 9600) ?hlx (Hook.of $t) (Hook.keeps $t) (fun s e => xl_of s (Bool.and_eq_true_iff.mp e).1) XL.keeps (by rfl) (by rfl) (by rfl) (fun s e => recFacts_of (Bool.and_eq_true_iff.mp e).2) (by rfl) (by first | assumption | decide +kernel) (by decide +kernel) ⟨rfl, rfl, rfl, rfl, rfl, by decide +kernel⟩ ?$hw ?$hc; (case hlx => (refine Kz.Hd.left_k (M := 9000) (by kernel_rfl) (by rfl) (fun s => by kernel_rfl) (by rfl) ?hf ?ht; (case hf => exact Kz.Hd.runF); (case ht => exact Kz.Hd.runT)))))
set_option maxRecDepth 100000 in
set_option maxHeartbeats 0 in
theorem PySem.Challenge.cw_kindswap_k03_texts_of_no_kind_holds : PySem.Challenge.rw_kindswap_k03_texts_of_no_kind.Holds := by
  w_on; o_law; k_head; (case hw => w_witness2)
  as_aux_lemma =>
    k_fill
    refine Kw.walk_g (l := PySem.Challenge.rw_kindswap_k03_texts_of_no_kind) (k := 230 + 1) (x := "_law_script") rfl rfl ⟨⟨by decide, by decide, by decide⟩, rfl⟩ (fun w h Y => PySem.W.kIn_of Y) ?F (fun w H s e s' h => Kw.cx_no h)
    case F =>
      intro w mg fa h KX G hmg
      letI : Kw.Wo := ⟨w⟩
      have t_is_from : Kw.TF (L2.KOf KX) mg "is_from" Kz.s_is_from ["thing", "low", "high"] := by
        unfold L2.KOf
        refine' Kw.tf_mk KX G ?a ?l ?c ?k ?b
        (case a => k_is); (case l => k_is); (case c => k_is); (case k => k_is)
        (case b => exact fun _ _ _ _ _ _ us hl => match us, hl with | [_, _, _], _ => rfl)
      have t_inner_of : Kw.TF (L2.KOf KX) mg "inner_of" Kz.s_inner_of ["thing"] := by
        unfold L2.KOf
        refine' Kw.tf_mk KX G ?a ?l ?c ?k ?b
        (case a => k_is); (case l => k_is); (case c => k_is); (case k => k_is)
        (case b => exact fun _ _ _ _ _ _ us hl => match us, hl with | [_], _ => rfl)
      have t_is_kind : Kw.TF (L2.KOf KX) mg "is_kind" Kz.s_is_kind ["thing"] := by
        unfold L2.KOf
        refine' Kw.tf_mk KX G ?a ?l ?c ?k ?b
        (case a => k_is); (case l => k_is); (case c => k_is); (case k => k_is)
        (case b => exact fun _ _ _ _ _ _ us hl => match us, hl with | [_], _ => rfl)
      have t_sure_kind : Kw.TF (L2.KOf KX) mg "sure_kind" Kz.s_sure_kind ["thing"] := by
        unfold L2.KOf
        refine' Kw.tf_mk KX G ?a ?l ?c ?k ?b
        (case a => k_is); (case l => k_is); (case c => k_is); (case k => k_is)
        (case b => exact fun _ _ _ _ _ _ us hl => match us, hl with | [_], _ => rfl)
      have t_plain_text : Kw.TF (L2.KOf KX) mg "plain_text" Kz.s_plain_text ["kind"] := by
        unfold L2.KOf
        refine' Kw.tf_mk KX G ?a ?l ?c ?k ?b
        (case a => k_is); (case l => k_is); (case c => k_is); (case k => k_is)
        (case b => exact fun _ _ _ _ _ _ us hl => match us, hl with | [_], _ => rfl)
      have t_kind_text : Kw.TF (L2.KOf KX) mg "kind_text" Kz.s_kind_text ["kind"] := by
        unfold L2.KOf
        refine' Kw.tf_mk KX G ?a ?l ?c ?k ?b
        (case a => k_is); (case l => k_is); (case c => k_is); (case k => k_is)
        (case b => exact fun _ _ _ _ _ _ us hl => match us, hl with | [_], _ => rfl)
      have t_closed : Kw.TF (L2.KOf KX) mg "closed" Kz.s_closed ["things"] := by
        unfold L2.KOf
        refine' Kw.tf_mk KX G ?a ?l ?c ?k ?b
        (case a => k_is); (case l => k_is); (case c => k_is); (case k => k_is)
        (case b => exact fun _ _ _ _ _ _ us hl => match us, hl with | [_], _ => rfl)
      have t_read_kind : Kw.TF (L2.KOf KX) mg "read_kind" Kz.s_read_kind ["text"] := by
        unfold L2.KOf
        refine' Kw.tf_mk KX G ?a ?l ?c ?k ?b
        (case a => k_is); (case l => k_is); (case c => k_is); (case k => k_is)
        (case b => exact fun _ _ _ _ _ _ us hl => match us, hl with | [_], _ => rfl)
      have t__law_cell_at : Kw.TF (L2.KOf KX) mg "_law_cell_at" Kz.s__law_cell_at ["_law_script", "_law_k"] := by
        unfold L2.KOf
        refine' Kw.tf_mk KX G ?a ?l ?c ?k ?b
        (case a => k_is); (case l => k_is); (case c => k_is); (case k => k_is)
        (case b => exact fun _ _ _ _ _ _ us hl => match us, hl with | [_, _], _ => rfl)
      have t__law_well : Kw.TF (L2.KOf KX) mg "_law_well" Kz.s__law_well ["_law_cell"] := by
        unfold L2.KOf
        refine' Kw.tf_mk KX G ?a ?l ?c ?k ?b
        (case a => k_is); (case l => k_is); (case c => k_is); (case k => k_is)
        (case b => exact fun _ _ _ _ _ _ us hl => match us, hl with | [_], _ => rfl)
      have t__law_draw : Kw.TF (L2.KOf KX) mg "_law_draw" Kz.s__law_draw ["_law_well_here", "_law_below"] := by
        unfold L2.KOf
        refine' Kw.tf_mk KX G ?a ?l ?c ?k ?b
        (case a => k_is); (case l => k_is); (case c => k_is); (case k => k_is)
        (case b => exact fun _ _ _ _ _ _ us hl => match us, hl with | [_, _], _ => rfl)
      have t__law_one : Kw.TF (L2.KOf KX) mg "_law_one" Kz.s__law_one ["_law_well_here", "_law_some"] := by
        unfold L2.KOf
        refine' Kw.tf_mk KX G ?a ?l ?c ?k ?b
        (case a => k_is); (case l => k_is); (case c => k_is); (case k => k_is)
        (case b => exact fun _ _ _ _ _ _ us hl => match us, hl with | [_, _], _ => rfl)
      have t__law_kind : Kw.TF (L2.KOf KX) mg "_law_kind" Kz.s__law_kind ["_law_well_here", "_law_leaves"] := by
        unfold L2.KOf
        refine' Kw.tf_mk KX G ?a ?l ?c ?k ?b
        (case a => k_is); (case l => k_is); (case c => k_is); (case k => k_is)
        (case b => exact fun _ _ _ _ _ _ us hl => match us, hl with | [_, _], _ => rfl)
      have t__law_kind_in : Kw.TF (L2.KOf KX) mg "_law_kind_in" Kz.s__law_kind_in ["_law_text"] := by
        unfold L2.KOf
        refine' Kw.tf_mk KX G ?a ?l ?c ?k ?b
        (case a => k_is); (case l => k_is); (case c => k_is); (case k => k_is)
        (case b => exact fun _ _ _ _ _ _ us hl => match us, hl with | [_], _ => rfl)
      have t__law_spoilt : Kw.TF (L2.KOf KX) mg "_law_spoilt" Kz.s__law_spoilt ["_law_well_here", "_law_text"] := by
        unfold L2.KOf
        refine' Kw.tf_mk KX G ?a ?l ?c ?k ?b
        (case a => k_is); (case l => k_is); (case c => k_is); (case k => k_is)
        (case b => exact fun _ _ _ _ _ _ us hl => match us, hl with | [_, _], _ => rfl)
      have t__law_read : Kw.TF (L2.KOf KX) mg "_law_read" Kz.s__law_read ["_law_text"] := by
        unfold L2.KOf
        refine' Kw.tf_mk KX G ?a ?l ?c ?k ?b
        (case a => k_is); (case l => k_is); (case c => k_is); (case k => k_is)
        (case b => exact fun _ _ _ _ _ _ us hl => match us, hl with | [_], _ => rfl)
      have t__law_right : Kw.TF (L2.KOf KX) mg "_law_right" Kz.s__law_right ["_law_well_here"] := by
        unfold L2.KOf
        refine' Kw.tf_mk KX G ?a ?l ?c ?k ?b
        (case a => k_is); (case l => k_is); (case c => k_is); (case k => k_is)
        (case b => exact fun _ _ _ _ _ _ us hl => match us, hl with | [_], _ => rfl)
      have m_ValueError : mg "ValueError" = none := by
        refine' Kw.bl_mk KX G ?a
        (case a => k_is)
      have m_bool : mg "bool" = none := by
        refine' Kw.bl_mk KX G ?a
        (case a => k_is)
      have m_int : mg "int" = none := by
        refine' Kw.bl_mk KX G ?a
        (case a => k_is)
      have m_isinstance : mg "isinstance" = none := by
        refine' Kw.bl_mk KX G ?a
        (case a => k_is)
      have m_len : mg "len" = none := by
        refine' Kw.bl_mk KX G ?a
        (case a => k_is)
      have m_list : mg "list" = none := by
        refine' Kw.bl_mk KX G ?a
        (case a => k_is)
      have m_max : mg "max" = none := by
        refine' Kw.bl_mk KX G ?a
        (case a => k_is)
      have m_min : mg "min" = none := by
        refine' Kw.bl_mk KX G ?a
        (case a => k_is)
      have m_range : mg "range" = none := by
        refine' Kw.bl_mk KX G ?a
        (case a => k_is)
      have m_str : mg "str" = none := by
        refine' Kw.bl_mk KX G ?a
        (case a => k_is)
      have m_tuple : mg "tuple" = none := by
        refine' Kw.bl_mk KX G ?a
        (case a => k_is)
      have c_LETTERS : Kw.GC mg "LETTERS" (.str "abcdefgh") := by
        refine' Kw.gc_str KX G ?a
        (case a => k_is)
      have c_MARKS : Kw.GD (L2.KOf KX) w.params mg "MARKS" Kz.kv_MARKS := by
        unfold L2.KOf
        refine' Kw.gd_mk KX G ?a ?l ?k ?s ?e
        (case a => k_is); (case l => k_is); (case k => exact ⟨⟨_, _, rfl, rfl⟩, ⟨_, _, rfl, rfl⟩, trivial⟩); (case s => rfl); (case e => exact (Kw.Ents.cons (v := .str "*") ⟨_, rfl⟩ rfl (Kw.Ents.cons (v := .str ">") ⟨_, rfl⟩ rfl Kw.Ents.nil)))
      have c_SIGNS : Kw.GD (L2.KOf KX) w.params mg "SIGNS" Kz.kv_SIGNS := by
        unfold L2.KOf
        refine' Kw.gd_mk KX G ?a ?l ?k ?s ?e
        (case a => k_is); (case l => k_is); (case k => exact ⟨⟨_, _, rfl, rfl⟩, ⟨_, _, rfl, rfl⟩, trivial⟩); (case s => rfl); (case e => exact (Kw.Ents.cons (v := .str "both") ⟨_, rfl⟩ rfl (Kw.Ents.cons (v := .str "from") ⟨_, rfl⟩ rfl Kw.Ents.nil)))
      have c_UNIT : Kw.GC mg "UNIT" (.str "1") := by
        refine' Kw.gc_str KX G ?a
        (case a => k_is)
      have x_NoKind : Kw.ExcF (L2.KOf KX) mg "NoKind" := by
        unfold L2.KOf
        refine' Kw.exc_mk KX G ?a ?b ?c ?d ?e
        (case a => k_is); (case b => k_exc); (case c => k_is); (case d => k_is); (case e => k_is)
      have x_NoText : Kw.ExcF (L2.KOf KX) mg "NoText" := by
        unfold L2.KOf
        refine' Kw.exc_mk KX G ?a ?b ?c ?d ?e
        (case a => k_is); (case b => k_exc); (case c => k_is); (case d => k_is); (case e => k_is)
      have xk_NoKind : Kw.ExcK (L2.KOf KX) mg "NoKind" := by
        unfold L2.KOf
        refine' Kw.exck_mk KX G ?kz20 ⟨?kz21, ?kz22, ?kz23, ?kz24, ?kz25, ?kz26, ?kz27, ?kz28⟩
        (case kz20 => k_is)
        (case kz21 => k_is)
        (case kz22 => k_is)
        (case kz23 => k_is)
        (case kz24 => k_is)
        (case kz25 => k_is)
        (case kz26 => k_is)
        (case kz27 => k_is)
        (case kz28 => k_is)

      have xk_NoText : Kw.ExcK (L2.KOf KX) mg "NoText" := by
        unfold L2.KOf
        refine' Kw.exck_mk KX G ?kz40 ⟨?kz41, ?kz42, ?kz43, ?kz44, ?kz45, ?kz46, ?kz47, ?kz48⟩
        (case kz40 => k_is)
        (case kz41 => k_is)
        (case kz42 => k_is)
        (case kz43 => k_is)
        (case kz44 => k_is)
        (case kz45 => k_is)
        (case kz46 => k_is)
        (case kz47 => k_is)
        (case kz48 => k_is)

      have xk : ∀ y ∈ Kz.excs, Kw.ExcK (L2.KOf KX) mg y := (List.forall_mem_cons.mpr ⟨xk_NoKind, (List.forall_mem_cons.mpr ⟨xk_NoText, (by simp)⟩)⟩)
      have c_NoText : Kw.CatF (L2.KOf KX) mg Kz.excs "NoText" (fun y => Kz.isx y "NoText") := by
        unfold L2.KOf
        refine' Kw.cat_mk KX G ?kz60 ?kz61
        (case kz60 => k_is)

        refine' List.forall_mem_cons.mpr ⟨Kw.caty_mk KX G ?kz80 ?kz81 ?kz82 ?kz83 ?kz84 ?kz85, ?kz86⟩
        (case kz80 => k_is)
        (case kz81 => exact (show Kz.isx "NoKind" "NoText" = false by decide +kernel))
        (case kz82 => k_is)
        (case kz83 => k_is)
        (case kz84 => k_is)
        (case kz85 => k_is)
        refine' List.forall_mem_cons.mpr ⟨Kw.caty_mk KX G ?kz100 ?kz101 ?kz102 ?kz103 ?kz104 ?kz105, ?kz106⟩
        (case kz100 => k_is)
        (case kz101 => exact (show Kz.isx "NoText" "NoText" = true by decide +kernel))
        (case kz102 => k_is)
        (case kz103 => k_is)
        (case kz104 => k_is)
        (case kz105 => k_is)
        simp
      have c_SwapError : Kw.CatF (L2.KOf KX) mg Kz.excs "SwapError" (fun y => Kz.isx y "SwapError") := by
        unfold L2.KOf
        refine' Kw.cat_mk KX G ?kz120 ?kz121
        (case kz120 => k_is)

        refine' List.forall_mem_cons.mpr ⟨Kw.caty_mk KX G ?kz140 ?kz141 ?kz142 ?kz143 ?kz144 ?kz145, ?kz146⟩
        (case kz140 => k_is)
        (case kz141 => exact (show Kz.isx "NoKind" "SwapError" = true by decide +kernel))
        (case kz142 => k_is)
        (case kz143 => k_is)
        (case kz144 => k_is)
        (case kz145 => k_is)
        refine' List.forall_mem_cons.mpr ⟨Kw.caty_mk KX G ?kz160 ?kz161 ?kz162 ?kz163 ?kz164 ?kz165, ?kz166⟩
        (case kz160 => k_is)
        (case kz161 => exact (show Kz.isx "NoText" "SwapError" = true by decide +kernel))
        (case kz162 => k_is)
        (case kz163 => k_is)
        (case kz164 => k_is)
        (case kz165 => k_is)
        simp
      have i_NoForm_NoKind : Kw.IsxO (L2.KOf KX) mg "NoKind" "NoForm" (Kz.isx "NoKind" "NoForm") := by
        unfold L2.KOf
        refine' Kw.isxo_mk (b' := false) KX G ?kz180 ?kz181 ?kz182 ?kz183 ?kz184 ?kz185 ?kz186
        (case kz180 => k_is)
        (case kz181 => k_is)
        (case kz182 => exact (show Kz.isx "NoKind" "NoForm" = false by decide +kernel))
        (case kz183 => k_is)
        (case kz184 => k_is)
        (case kz185 => k_is)
        (case kz186 => decide)

      have i_NoForm_NoText : Kw.IsxO (L2.KOf KX) mg "NoText" "NoForm" (Kz.isx "NoText" "NoForm") := by
        unfold L2.KOf
        refine' Kw.isxo_mk (b' := false) KX G ?kz200 ?kz201 ?kz202 ?kz203 ?kz204 ?kz205 ?kz206
        (case kz200 => k_is)
        (case kz201 => k_is)
        (case kz202 => exact (show Kz.isx "NoText" "NoForm" = false by decide +kernel))
        (case kz203 => k_is)
        (case kz204 => k_is)
        (case kz205 => k_is)
        (case kz206 => decide)

      have i_NoForm : ∀ y ∈ Kz.excs, Kw.IsxO (L2.KOf KX) mg y "NoForm" (Kz.isx y "NoForm") := (List.forall_mem_cons.mpr ⟨i_NoForm_NoKind, (List.forall_mem_cons.mpr ⟨i_NoForm_NoText, (by simp)⟩)⟩)
      have i_NoKind_NoKind : Kw.IsxO (L2.KOf KX) mg "NoKind" "NoKind" (Kz.isx "NoKind" "NoKind") := by
        unfold L2.KOf
        refine' Kw.isxo_mk (b' := true) KX G ?kz220 ?kz221 ?kz222 ?kz223 ?kz224 ?kz225 ?kz226
        (case kz220 => k_is)
        (case kz221 => k_is)
        (case kz222 => exact (show Kz.isx "NoKind" "NoKind" = true by decide +kernel))
        (case kz223 => k_is)
        (case kz224 => k_is)
        (case kz225 => k_is)
        (case kz226 => decide)

      have i_NoKind_NoText : Kw.IsxO (L2.KOf KX) mg "NoText" "NoKind" (Kz.isx "NoText" "NoKind") := by
        unfold L2.KOf
        refine' Kw.isxo_mk (b' := false) KX G ?kz240 ?kz241 ?kz242 ?kz243 ?kz244 ?kz245 ?kz246
        (case kz240 => k_is)
        (case kz241 => k_is)
        (case kz242 => exact (show Kz.isx "NoText" "NoKind" = false by decide +kernel))
        (case kz243 => k_is)
        (case kz244 => k_is)
        (case kz245 => k_is)
        (case kz246 => decide)

      have i_NoKind : ∀ y ∈ Kz.excs, Kw.IsxO (L2.KOf KX) mg y "NoKind" (Kz.isx y "NoKind") := (List.forall_mem_cons.mpr ⟨i_NoKind_NoKind, (List.forall_mem_cons.mpr ⟨i_NoKind_NoText, (by simp)⟩)⟩)
      have i_ValueError_NoKind : Kw.IsxB (L2.KOf KX) mg "NoKind" "ValueError" (Kz.isx "NoKind" "ValueError") := by
        unfold L2.KOf
        refine' Kw.isxb_mk (b' := true) KX G ?kz260 ?kz261 ?kz262 ?kz263
        (case kz260 => k_is)
        (case kz261 => exact (show Kz.isx "NoKind" "ValueError" = true by decide +kernel))
        (case kz262 => decide)
        (case kz263 => k_is)

      have i_ValueError_NoText : Kw.IsxB (L2.KOf KX) mg "NoText" "ValueError" (Kz.isx "NoText" "ValueError") := by
        unfold L2.KOf
        refine' Kw.isxb_mk (b' := true) KX G ?kz280 ?kz281 ?kz282 ?kz283
        (case kz280 => k_is)
        (case kz281 => exact (show Kz.isx "NoText" "ValueError" = true by decide +kernel))
        (case kz282 => decide)
        (case kz283 => k_is)

      have i_ValueError : ∀ y ∈ Kz.excs, Kw.IsxB (L2.KOf KX) mg y "ValueError" (Kz.isx y "ValueError") := (List.forall_mem_cons.mpr ⟨i_ValueError_NoKind, (List.forall_mem_cons.mpr ⟨i_ValueError_NoText, (by simp)⟩)⟩)
      have T : Kz.Txt (L2.KOf KX) w.params mg := ⟨t_is_from, t_inner_of, t_is_kind, t_sure_kind, t_plain_text, t_kind_text, t_closed, t_read_kind, t__law_cell_at, t__law_well, t__law_draw, t__law_one, t__law_kind, t__law_kind_in, t__law_spoilt, t__law_read, t__law_right, m_ValueError, m_bool, m_int, m_isinstance, m_len, m_list, m_max, m_min, m_range, m_str, m_tuple, c_LETTERS, c_MARKS, c_SIGNS, c_UNIT, x_NoKind, x_NoText, xk, c_NoText, c_SwapError, i_NoForm, i_NoKind, i_ValueError⟩
      refine' Kw.law_mk (st := Kz.s_law) (k := 230) KX G hmg ?a ?l ?c ?k (fun _ _ _ _ _ _ us hl => match us, hl with | [_], _ => rfl) Kz.sc_law (fun base Kb Gb => Kz.ok_law T rfl (Kz.all_ok T rfl 230)) (fun ns h hb => Kz.law_true ns h)
      (case a => k_is); (case l => k_is); (case c => k_is); (case k => k_is)
