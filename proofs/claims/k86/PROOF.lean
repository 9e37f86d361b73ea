import PyProof.Rows.All
import PySem.Challenge.RW_kindswap_k86_names_that_stand_twice
import HandS.Head0
import HandS.Head1
import HandS.Head2
import Wide.All
import OpenK.AllK
import Wide.FinOn
import HandS.ForMost
import HandS.ForExc
import HandS.Flow
import HandS.IsInst
import HandS.Wide
import HandS.Lambda
import HandS.Style
import HandS.TupAny
import HandS.Deep
import HandS.Zip
import HandS.StrMore
import HandS.ExcOwn
import HandS.More
import HandS.EndBits
import HandS.ExcIs
import HandS.TryMany
import PyProof.ReprRoads
import HandS.Conv
import KE.SortData
import HandS.SortKw
import HandS.ExcValue
import KE.SortKeyHeap
import HandS.NoneIn
import KE.DataCmp
import HandS.Strs
import PyProof.SetRoads
import PyProof.Rows.SetFrom
import KE.DataFind
import HandS.Dict
import KE.KTryMore
import HandS.ExcInit
import HandS.ExcField
import HandS.ClsMeth
import HandS.Exc
set_option Elab.async false
set_option linter.all false
set_option maxRecDepth 100000
set_option maxHeartbeats 4000000
open PySem PySem.W PyProof.Rows
namespace Kz.Hd
open PySem PySem.W PySem.Calls PyProof.Rows
def nm0 : List PySem.Str := ["SwapError", "NoKind", "NoForm", "NoTerm", "Unlike", "NoLibrary", "NoName", "LETTERS", "MARKS", "is_from", "inner_of", "is_kind", "sure_kind", "MOST_BASE", "in_order", "wants_with", "plain_form", "form", "alike", "is_base", "is_factor", "is_form", "kind_by", "kind_of"]
def nm1 : List PySem.Str := ["BASES", "MOST_COUNT", "ENOUGH", "DIVISORS", "small_power", "count_of", "power_rest", "totient", "rest_of", "drawn_sizes", "apart", "PARTS", "sure_given", "is_shape", "kind_of_given", "kind_of_two", "kind_in", "sure_kind_in", "term_kind", "Loose", "Bound", "opened", "meant", "said"]
def nm2 : List PySem.Str := ["chain_said", "plain_in", "same", "put_back", "Leaf", "Result", "Body", "factors_from", "parts", "built", "turner", "lifted", "is_of", "goes_round", "turn_fault", "is_library", "sure_library", "without", "with_more", "left_to_hand_in", "wished_from", "search", "search_fault", "_law_well"]
def nm3 : List PySem.Str := ["_law_draw", "_law_word", "_law_library", "_law_twice"]
def nm : List PySem.Str := nm0 ++ nm1 ++ nm2 ++ nm3
abbrev R : OpenRow := OpenLaw.row PySem.Challenge.rw_kindswap_k86_names_that_stand_twice
abbrev qv : Program := view R.prog [17, 86]
/-- the run's equation at a world -/
def RunK (p q : Program) (loose : List PySem.Str) (Xt : Shared → Bool) (K : Params → PySem.W.Frag) (as ts : List Addr) (M : Nat) (w : World) : Prop :=
  ∀ os : OsState, (HandSHeadRun.endF (HandSHeadRun.stepQ (HandSHeadRun.denQ HandSHeadRun.tabQ) p w) M p w os).map (fun s => (HandSHeadRun.looksF p (boot_heap w.params) s.abs, HandSHeadRun.seenQ q loose (importedModules p.main.body) Xt s.abs, (as.map (HandSHeadRun.getT s), ts.map (HandSHeadRun.getT s)))) = some (true, openGood q loose, ((K w.params).map fun x => some x.2, ts.map fun _ => some (tabObj #[])))
/-- LeftO of that run, for kmHook; the run is shown for each answer of special-get-raises -/
theorem left_km {p q : Program} {loose : List PySem.Str} {Xt : Shared → Bool} {K : Params → PySem.W.Frag} {as ts : List Addr} {ek : ∀ P, as = (K P).map (·.1)} {N M : Nat}
    (e : opening p = plainProg p.main.scope.names) (hN : Nat.ble 600 N = true) (f : ∀ s, fenceModules? p s = some s) (le : Nat.ble M N = true)
    (hf : ∀ w : World, RunK p q loose Xt K as ts M (w.withFollow "special-get-raises" false)) (ht : ∀ w : World, RunK p q loose Xt K as ts M (w.withFollow "special-get-raises" true)) :
    LeftO p q loose Xt (Hook.obs (kmHook K as ek ts)) (Hook.val (kmHook K as ek ts)) N true :=
  HandSHeadRun.left_one (M := M) e hN f le fun w os => by
    have z := byRow2 "special-get-raises" (P := fun w => RunK p q loose Xt K as ts M w) hf ht w os
    have eo : (fun s : SharedT => (HandSHeadRun.looksF p (boot_heap w.params) s.abs, HandSHeadRun.seenQ q loose (importedModules p.main.body) Xt s.abs, (as.map (HandSHeadRun.getT s), ts.map (HandSHeadRun.getT s)))) = fun s => (HandSHeadRun.looksF p (boot_heap w.params) s.abs, HandSHeadRun.seenQ q loose (importedModules p.main.body) Xt s.abs, Hook.obs (kmHook K as ek ts) s.abs) := by
      funext s
      have q1 : as.map (HandSHeadRun.getT s) = as.map s.abs.heap.get? := List.map_congr_left fun a _ => HandSHeadRun.getT_eq s a
      have q2 : ts.map (HandSHeadRun.getT s) = ts.map s.abs.heap.get? := List.map_congr_left fun a _ => HandSHeadRun.getT_eq s a
      rw [q1, q2]
      rfl
    rw [eo] at z
    simp only [HandSHeadRun.endQ_eq, HandSHeadRun.seenQ_eq]
    exact z
end Kz.Hd
local macro_rules | `(tactic| o_head $t:term) => do
  let hl := Lean.mkIdent `hl
  let (hw, hc) := (Lean.mkIdent `hw, Lean.mkIdent `hc)
  `(tactic| (refine PySem.W.holds_open (r := Kz.Hd.R) (q := Kz.Hd.qv) (loose := Kz.Hd.nm) (Xt := fun s => xlAt Kz.Hd.qv [] s && recOk (RowW.records (OpenRow.toRowW Kz.Hd.R)) s) (XP := XL Kz.Hd.qv []) (Yf := Hook.obs $t) (Ya := Hook.val $t) (YP := Hook.says $t) (N := 7600) ?hlx (Hook.of $t) (Hook.keeps $t) (fun s e => xl_of s (Bool.and_eq_true_iff.mp e).1) XL.keeps (by rfl) (by rfl) (by rfl) (fun s e => recFacts_of (Bool.and_eq_true_iff.mp e).2) (by rfl) (by first | assumption | decide +kernel) (by decide +kernel) ⟨rfl, rfl, rfl, rfl, rfl, by decide +kernel⟩ ?$hw ?$hc; (case hlx => exact $hl _)))
set_option maxRecDepth 100000 in
set_option maxHeartbeats 0 in
open PySem PySem.W PySem.Calls PyProof.Rows in
theorem Kz.Hd.t1 (hl : ∀ H : Hook, LeftO Kz.Hd.R.prog Kz.Hd.qv Kz.Hd.nm (fun s => xlAt Kz.Hd.qv [] s && recOk (RowW.records (OpenRow.toRowW Kz.Hd.R)) s) (Hook.obs H) (Hook.val H) 7600 true) (hc : ∀ (d : DefRec) (kwd : List (PySem.Str × PySem.Expr)) (YP : World → Heap → Prop), WalkO Kz.Hd.qv Kz.Hd.nm (XL Kz.Hd.qv []) YP (OpenRow.toRowW Kz.Hd.R) d kwd fun f vs => PySem.call f vs) : PySem.Challenge.rw_kindswap_k86_names_that_stand_twice.Holds := by
  w_on; o_law; k_head; (case hw => w_witness2)
  exact hc _ _ _
namespace Kz.Hd
open PySem PySem.W PySem.Calls PyProof.Rows
set_option maxHeartbeats 0 in
theorem runF (w : World) : RunK R.prog qv nm (fun s => xlAt qv [] s && recOk (RowW.records (OpenRow.toRowW R)) s) t1.heap_39 ((t1.heap_39 w.params).map (·.1)) [137, 620] 7000 (w.withFollow "special-get-raises" false) := by
  intro os; kernel_rfl
set_option maxHeartbeats 0 in
theorem runT (w : World) : RunK R.prog qv nm (fun s => xlAt qv [] s && recOk (RowW.records (OpenRow.toRowW R)) s) t1.heap_39 ((t1.heap_39 w.params).map (·.1)) [137, 620] 7000 (w.withFollow "special-get-raises" true) := by
  intro os; kernel_rfl
end Kz.Hd
namespace Kw
open PySem PySem.Spec PyProof.Rows L2
/-- a value as a tree; a list that is changed is a cell of the store -/
inductive D where
  | non | bl (b : Bool) | int (i : Int) | str (x : Str)
  | tup (ds : List D) | lst (ds : List D) | dic (ks : List Key) (ds : List D)
  | ins (c : Str) (fs : List Str) (ds : List D)
  | loc (n : Nat) | glo (x : Str) | fls (ds : List D) | exn (a : Addr)
  | exo (c : Str) (ns : List Str) (ds : List D)
  | lam (i : Nat) (q : Str) (ob : Addr → Value → Value → Obj)
inductive Cell where
  | lst (ds : List D) | frz (ds : List D) | dead
  | tab (x : Str) | sys
  | gst (ρ : List (Option D)) (σ : L2.St)
  | ob (c : Str) (fs : List Str) (ds : List D)
abbrev Store := List Cell
/-- what is raised: the class's name, its own fields -/
structure Ex where
  cls : Str
  ns : List Str := []
  ds : List D := []
inductive RE (α : Type) where
  | ok (a : α) (S : Store) | ex (x : Ex) (S : Store) | no
def RE.bnd {α β : Type} (m : RE α) (f : α → Store → RE β) : RE β := match m with
  | .ok a S => f a S
  | .ex x S => .ex x S
  | .no => .no
abbrev FEnv := List (Option D)
abbrev FE := FEnv → Store → RE D
abbrev FT := FEnv → Store → RE Bool
abbrev FA := FEnv → Store → RE (List D)
/-- the addresses of the store's cells (none: dead); hd: objects that no value leads to -/
structure Wd where
  φ : List (Option Addr)
  hd : List Addr
/-- a is no cell, and not hidden -/
def Wd.Off (w : Wd) (a : Addr) : Prop := (¬ some a ∈ w.φ) ∧ ¬ a ∈ w.hd
section
variable (K : PySem.W.Frag) (mg : Str → Option Value)
/-- a list that is not changed any more, by the model's own word -/
def Fp (w : Wd) (H : Hp) (a : Addr) (xs : List V) : Prop :=
  (∃ o, H a = some (.frz o (.lst xs)) ∧ w.Off a) ∨
    ∃ (o : Obj) (its : Array Value) (n : Nat), K.lookup a = some o ∧ o.cls = .type "list" ∧ o.dict = none ∧ o.data = .seq its n ∧ its.size ≤ sizeLine ∧ Vals xs its.toList
/-- a tuple that stands -/
def Tp (w : Wd) (H : Hp) (a : Addr) (xs : List V) : Prop :=
  (H a = some (.tup xs) ∧ w.Off a) ∨
    ∃ (o : Obj) (its : Array Value) (n : Nat), K.lookup a = some o ∧ o.cls = .type "tuple" ∧ o.data = .seq its n ∧ its.size ≤ sizeLine ∧ Vals xs its.toList
/-- the one object at f -/
def LamO (f : Addr) (o : Obj) : HO := .ext fun h => h.get? f = some o
/-- an exception object that nobody raised: its class, its dict -/
def ExOd (cls : Value) (od : Option Addr) (a : Addr) : HO := .ext fun h => ∃ (oe : Obj) (vs : Array Value), h.get? a = some oe ∧ Zc cls od oe ∧ oe.data = .fields vs ∧ vs[1]? = some .none ∧ vs[2]? = some .none ∧ 4 < vs.size
mutual
/-- the tree d lies at v -/
def Rp (w : Wd) (H : Hp) : D → V → Prop
  | .non, v => v = .non
  | .bl b, v => v = .bl b
  | .int i, v => v = .int i
  | .str x, v => v = .str x
  | .tup ds, v => ∃ a xs, v = .ref a ∧ Tp K w H a xs ∧ RpL w H ds xs
  | .lst ds, v => ∃ a xs, v = .ref a ∧ H a = some (.lst xs) ∧ w.Off a ∧ RpL w H ds xs
  | .dic ks ds, v => ∃ a vs, v = .ref a ∧ H a = some (.dK (ks.zip vs)) ∧ w.Off a ∧ ks.length = vs.length ∧ RpL w H ds vs
  | .ins c fs ds, v => ∃ a C dx vs, v = .ref a ∧ mg c = some (.ref C) ∧ H a = some (.ins C dx (fs.zip vs)) ∧ w.Off a ∧ fs.length = vs.length ∧ RpL w H ds vs
  | .loc n, v => n < w.φ.length ∧ ∀ a, w.φ[n]? = some (some a) → v = .ref a
  | .glo x, v => ∃ a, v = .ref a ∧ mg x = some (.ref a)
  | .exn a, v => v = .ref a
  | .fls ds, v => ∃ a xs, v = .ref a ∧ Fp K w H a xs ∧ RpL w H ds xs
  | .lam _ q ob, v => ∃ f c' pm ctv, v = .ref f ∧ H f = some (LamO f (ob c' pm ctv)) ∧ w.Off f ∧ H c' = some (LamX.CodeO c' q) ∧ w.Off c'
  | .exo c ns ds, v => ∃ a C od vs, v = .ref a ∧ mg c = some (.ref C) ∧ H a = some (ExOd (.ref C) od a) ∧ w.Off a ∧ (od = none ↔ ns = []) ∧ (∀ d, od = some d → H d = some (.xd (ns.zip vs)) ∧ w.Off d) ∧ ns.length = vs.length ∧ RpL w H ds vs
def RpL (w : Wd) (H : Hp) : List D → List V → Prop
  | [], vs => vs = []
  | d :: ds, vs => ∃ v r, vs = v :: r ∧ Rp w H d v ∧ RpL w H ds r
end
/-- the world goes on -/
structure Ext (w : Wd) (H : Hp) (w' : Wd) (H' : Hp) : Prop where
  fr : ∀ a o, H a = some o → some a ∉ w.φ → H' a = some o
  ln : w.φ.length ≤ w'.φ.length
  ph : ∀ (n : Nat) a, w'.φ[n]? = some (some a) → n < w.φ.length → w.φ[n]? = some (some a)
  nw : ∀ a, some a ∈ w'.φ → some a ∈ w.φ ∨ H a = none
  hd : w'.hd = w.hd
/-- what is known of the modules' table: a dict -/
def SysQ (φ : Heap → Prop) : Prop := ∀ h, φ h → ∃ o es n, h.get? sysModules = some o ∧ o.data = .dict es n
/-- a table of code objects lies at P, all of the name q -/
def TabW (w : Wd) (H : Hp) (P : Addr) (q : Str) : Prop := ∃ ps : Array Value, H P = some (.tbl ps) ∧ TriplesOk ps.toList ∧ ∀ (pos : Pos) (cv : Value), codeAmong pos ps.toList = some cv → ∃ c, cv = .ref c ∧ H c = some (LamX.CodeO c q) ∧ w.Off c
/-- the name that the lambdas of the def x bear -/
def tabQ (x : Str) : Str := x ++ ".<locals>." ++ "<lambda>"
/-- the slots -/
structure EnvR (w : Wd) (H : Hp) (ρ : FEnv) (σ : L2.St) : Prop where
  len : ρ.length = σ.length
  at_ : ∀ (i : Nat) d, ρ[i]? = some (some d) → ∃ v, σ[i]? = some (some v) ∧ Rp K mg w H d v
def CellR (w : Wd) (H : Hp) (c : Cell) (n : Nat) : Prop := match c with
  | .lst ds => ∃ a xs, w.φ[n]? = some (some a) ∧ H a = some (.lst xs) ∧ RpL K mg w H ds xs
  | .frz ds => ∃ a xs o, w.φ[n]? = some (some a) ∧ H a = some (.frz o (.lst xs)) ∧ RpL K mg w H ds xs
  | .dead => w.φ[n]? = some none
  | .tab x => ∃ c P, PySem.W.tabIn K x = some (c, P) ∧ w.φ[n]? = some (some P) ∧ TabW w H P (tabQ x)
  | .sys => w.φ[n]? = some none ∧ sysModules ∈ w.hd ∧ some sysModules ∉ w.φ ∧ (∃ φ, H sysModules = some (.ext φ) ∧ SysQ φ) ∧ K.lookup sysModules = none
  | .gst ρ σ => w.φ[n]? = some none ∧ EnvR K mg w H ρ σ
  | .ob c fs ds => ∃ a C dx vs, w.φ[n]? = some (some a) ∧ mg c = some (.ref C) ∧ H a = some (.ins C dx (fs.zip vs)) ∧ fs.length = vs.length ∧ RpL K mg w H ds vs
/-- the store lies in the heap -/
structure Sto (w : Wd) (S : Store) (H : Hp) : Prop where
  len : w.φ.length = S.length
  nd : ∀ (m n : Nat) a, w.φ[m]? = some (some a) → w.φ[n]? = some (some a) → m = n
  ap : ∀ a, a ∈ w.hd → H a ≠ none ∧ some a ∉ w.φ
  cell : ∀ (n : Nat) c, S[n]? = some c → CellR K mg w H c n
/-- the exception -/
def ExR (w : Wd) (H : Hp) (x : Ex) (c : Value) (od : Option Addr) : Prop :=
  mg x.cls = some c ∧ ((x.ns = [] ∧ x.ds = [] ∧ od = none) ∨ ∃ d vs, x.ns ≠ [] ∧ od = some d ∧ H d = some (.xd (x.ns.zip vs)) ∧ w.Off d ∧ x.ns.length = vs.length ∧ RpL K mg w H x.ds vs)
/-- what a result gives -/
def End {α β : Type} (R : Wd → Hp → α → β → Prop) (w : Wd) (H : Hp) (r : RE α) (Q : β → Hp → Prop) (E : Value → Option Addr → Hp → Prop) : Prop :=
  match r with
  | .ok a S' => ∀ w' H' b, Ext w H w' H' → Sto K mg w' S' H' → R w' H' a b → Q b H'
  | .ex x S' => ∀ w' H' c od, Ext w H w' H' → Sto K mg w' S' H' → ExR K mg w' H' x c od → E c od H'
  | .no => False
end
/-- readings by functions over trees -/
def tF (X : Cx) (W : WX) (f : FE) : TE := fun σ H Q => ∃ w ρ S, Sto X.K X.mg w S H ∧ EnvR X.K X.mg w H ρ σ ∧ End X.K X.mg (fun w H => Rp X.K X.mg w H) w H (f ρ S) Q (fun c od H' => W c od σ H')
def tT (X : Cx) (W : WX) (f : FT) : TT := fun σ H Q => ∃ w ρ S, Sto X.K X.mg w S H ∧ EnvR X.K X.mg w H ρ σ ∧ End X.K X.mg (fun _ _ (a b : Bool) => b = a) w H (f ρ S) Q (fun c od H' => W c od σ H')
def tA (X : Cx) (W : WX) (f : FA) : TA := fun σ H Q => ∃ w ρ S, Sto X.K X.mg w S H ∧ EnvR X.K X.mg w H ρ σ ∧ End X.K X.mg (fun w H => RpL X.K X.mg w H) w H (f ρ S) Q (fun c od H' => W c od σ H')
section
variable {K : PySem.W.Frag} {mg : Str → Option Value} {w w' w'' : Wd} {H H' H'' : Hp} {S : Store}
theorem Ext.refl : Ext w H w H := ⟨fun _ _ h _ => h, Nat.le_refl _, fun _ _ h _ => h, fun _ h => .inl h, rfl⟩
theorem Ext.trans (a : Ext w H w' H') (b : Ext w' H' w'' H'') : Ext w H w'' H'' where
  fr := fun c o h n => b.fr c o (a.fr c o h n) fun z => by
    rcases a.nw c z with z | z
    · exact n z
    · rw [h] at z; cases z
  ln := Nat.le_trans a.ln b.ln
  ph := fun n c h l => a.ph n c (b.ph n c h (Nat.lt_of_lt_of_le l a.ln)) l
  nw := fun c h => by
    rcases b.nw c h with z | z
    · exact a.nw c z
    · by_cases q : some c ∈ w.φ
      · exact .inl q
      · cases e : H c with
        | none => exact .inr rfl
        | some o => rw [a.fr c o e q] at z; cases z
  hd := b.hd.trans a.hd
theorem Ext.out {a : Addr} {o : HO} (e : Ext w H w' H') (h : H a = some o) (n : w.Off a) : w'.Off a := by
  refine ⟨fun z => ?_, by rw [e.hd]; exact n.2⟩
  rcases e.nw _ z with z | z
  · exact n.1 z
  · rw [h] at z; cases z
theorem Tp.ext {a : Addr} {xs : List V} (e : Ext w H w' H') (h : Tp K w H a xs) : Tp K w' H' a xs := by
  rcases h with ⟨h, n⟩ | h
  · exact .inl ⟨e.fr _ _ h n.1, e.out h n⟩
  · exact .inr h
theorem Fp.ext {a : Addr} {xs : List V} (e : Ext w H w' H') (h : Fp K w H a xs) : Fp K w' H' a xs := by
  rcases h with ⟨o, h, n⟩ | h
  · exact .inl ⟨o, e.fr _ _ h n.1, e.out h n⟩
  · exact .inr h
mutual
theorem Rp.ext (e : Ext w H w' H') : ∀ (d : D) (v : V), Rp K mg w H d v → Rp K mg w' H' d v
  | .non, _, h => by unfold Rp at h ⊢; exact h
  | .bl _, _, h => by unfold Rp at h ⊢; exact h
  | .int _, _, h => by unfold Rp at h ⊢; exact h
  | .str _, _, h => by unfold Rp at h ⊢; exact h
  | .tup ds, v, h => by
    unfold Rp at h ⊢
    obtain ⟨a, xs, e1, t, r⟩ := h
    exact ⟨a, xs, e1, t.ext e, RpL.ext e ds xs r⟩
  | .lst ds, v, h => by
    unfold Rp at h ⊢
    obtain ⟨a, xs, e1, t, n, r⟩ := h
    exact ⟨a, xs, e1, e.fr _ _ t n.1, e.out t n, RpL.ext e ds xs r⟩
  | .dic ks ds, v, h => by
    unfold Rp at h ⊢
    obtain ⟨a, vs, e1, t, n, l, r⟩ := h
    exact ⟨a, vs, e1, e.fr _ _ t n.1, e.out t n, l, RpL.ext e ds vs r⟩
  | .ins c fs ds, v, h => by
    unfold Rp at h ⊢
    obtain ⟨a, C, dx, vs, e1, m, t, n, l, r⟩ := h
    exact ⟨a, C, dx, vs, e1, m, e.fr _ _ t n.1, e.out t n, l, RpL.ext e ds vs r⟩
  | .loc n, v, h => by
    unfold Rp at h ⊢
    exact ⟨Nat.lt_of_lt_of_le h.1 e.ln, fun a q => h.2 a (e.ph n a q h.1)⟩
  | .glo _, _, h => by unfold Rp at h ⊢; exact h
  | .exn _, _, h => by unfold Rp at h ⊢; exact h
  | .fls ds, v, h => by
    unfold Rp at h ⊢
    obtain ⟨a, xs, e1, t, r⟩ := h
    exact ⟨a, xs, e1, t.ext e, RpL.ext e ds xs r⟩
  | .lam i q ob, v, h => by
    unfold Rp at h ⊢
    obtain ⟨f, c', pm, ctv, e1, t, n, t2, n2⟩ := h
    exact ⟨f, c', pm, ctv, e1, e.fr _ _ t n.1, e.out t n, e.fr _ _ t2 n2.1, e.out t2 n2⟩
  | .exo c ns ds, v, h => by
    unfold Rp at h ⊢
    obtain ⟨a, C, od, vs, e1, m, t, n, z, q, l, r⟩ := h
    exact ⟨a, C, od, vs, e1, m, e.fr _ _ t n.1, e.out t n, z, fun d hd => ⟨e.fr _ _ (q d hd).1 (q d hd).2.1, e.out (q d hd).1 (q d hd).2⟩, l, RpL.ext e ds vs r⟩
theorem RpL.ext (e : Ext w H w' H') : ∀ (ds : List D) (vs : List V), RpL K mg w H ds vs → RpL K mg w' H' ds vs
  | [], _, h => by unfold RpL at h ⊢; exact h
  | d :: ds, vs, h => by
    unfold RpL at h ⊢
    obtain ⟨v, r, e1, h1, h2⟩ := h
    exact ⟨v, r, e1, Rp.ext e d v h1, RpL.ext e ds r h2⟩
end
theorem RpL.length : ∀ {ds : List D} {vs : List V}, RpL K mg w H ds vs → ds.length = vs.length
  | [], _, h => by unfold RpL at h; subst h; rfl
  | d :: ds, vs, h => by
    unfold RpL at h
    obtain ⟨v, r, e1, _, h2⟩ := h
    rw [e1, List.length_cons, List.length_cons, RpL.length h2]
theorem RpL.append : ∀ {ds es : List D} {vs us : List V}, RpL K mg w H ds vs → RpL K mg w H es us → RpL K mg w H (ds ++ es) (vs ++ us)
  | [], _, _, _, h, k => by unfold RpL at h; rw [h]; exact k
  | d :: ds, es, vs, us, h, k => by
    unfold RpL at h
    obtain ⟨v, r, e1, h1, h2⟩ := h
    rw [List.cons_append]; unfold RpL
    exact ⟨v, r ++ us, by rw [e1, List.cons_append], h1, RpL.append h2 k⟩
theorem RpL.get : ∀ {ds : List D} {vs : List V} {i : Nat} {d : D}, RpL K mg w H ds vs → ds[i]? = some d → ∃ v, vs[i]? = some v ∧ Rp K mg w H d v
  | [], _, _, _, _, e => by simp at e
  | d :: ds, vs, 0, _, h, e => by
    unfold RpL at h
    obtain ⟨v, r, e1, h1, _⟩ := h
    simp at e
    exact ⟨v, by rw [e1]; rfl, e ▸ h1⟩
  | d :: ds, vs, i + 1, _, h, e => by
    unfold RpL at h
    obtain ⟨v, r, e1, _, h2⟩ := h
    obtain ⟨u, h3, h4⟩ := RpL.get (i := i) h2 (by simpa using e)
    exact ⟨u, by rw [e1]; simpa using h3, h4⟩
theorem RpL.drop : ∀ {ds : List D} {vs : List V} (n : Nat), RpL K mg w H ds vs → RpL K mg w H (ds.drop n) (vs.drop n)
  | _, _, 0, h => h
  | [], vs, n + 1, h => by unfold RpL at h; rw [h]; simp; unfold RpL; rfl
  | d :: ds, vs, n + 1, h => by
    unfold RpL at h
    obtain ⟨v, r, e1, _, h2⟩ := h
    rw [e1]; exact RpL.drop n h2
theorem RpL.take : ∀ {ds : List D} {vs : List V} (n : Nat), RpL K mg w H ds vs → RpL K mg w H (ds.take n) (vs.take n)
  | _, _, 0, h => by simp; unfold RpL; rfl
  | [], vs, n + 1, h => by unfold RpL at h; rw [h]; simp; unfold RpL; rfl
  | d :: ds, vs, n + 1, h => by
    unfold RpL at h
    obtain ⟨v, r, e1, h1, h2⟩ := h
    rw [e1, List.take_succ_cons, List.take_succ_cons]; unfold RpL
    exact ⟨v, _, rfl, h1, RpL.take n h2⟩
theorem RpL.set : ∀ {ds : List D} {vs : List V} {d : D} {v : V} (i : Nat), RpL K mg w H ds vs → Rp K mg w H d v → RpL K mg w H (ds.set i d) (vs.set i v)
  | [], vs, _, _, _, h, _ => by unfold RpL at h; rw [h]; simp; unfold RpL; rfl
  | d :: ds, vs, e, u, 0, h, k => by
    unfold RpL at h
    obtain ⟨v, r, e1, h1, h2⟩ := h
    rw [e1, List.set_cons_zero, List.set_cons_zero]; unfold RpL
    exact ⟨u, r, rfl, k, h2⟩
  | d :: ds, vs, e, u, i + 1, h, k => by
    unfold RpL at h
    obtain ⟨v, r, e1, h1, h2⟩ := h
    rw [e1, List.set_cons_succ, List.set_cons_succ]; unfold RpL
    exact ⟨v, _, rfl, h1, RpL.set i h2 k⟩
theorem RpL.one {d : D} {v : V} (h : Rp K mg w H d v) : RpL K mg w H [d] [v] := by unfold RpL; exact ⟨v, [], rfl, h, by unfold RpL; rfl⟩
theorem RpL.nil : RpL K mg w H [] [] := by unfold RpL; rfl
theorem RpL.cons {d : D} {v : V} {ds : List D} {vs : List V} (h : Rp K mg w H d v) (t : RpL K mg w H ds vs) : RpL K mg w H (d :: ds) (v :: vs) := by unfold RpL; exact ⟨v, vs, rfl, h, t⟩
theorem RpL.nil_iff {ds : List D} {vs : List V} (h : RpL K mg w H ds vs) : ds = [] ↔ vs = [] := by
  have e := h.length
  constructor
  · rintro rfl; exact List.eq_nil_of_length_eq_zero e.symm
  · rintro rfl; exact List.eq_nil_of_length_eq_zero e
theorem RpL.one_inv {d : D} {vs : List V} (h : RpL K mg w H [d] vs) : ∃ v, vs = [v] ∧ Rp K mg w H d v := by
  unfold RpL at h
  obtain ⟨v, r, e1, h1, h2⟩ := h
  unfold RpL at h2
  exact ⟨v, by rw [e1, h2], h1⟩
theorem EnvR.ext {ρ : FEnv} {σ : L2.St} (e : Ext w H w' H') (h : EnvR K mg w H ρ σ) : EnvR K mg w' H' ρ σ := ⟨h.len, fun i d q => by
  obtain ⟨v, h1, h2⟩ := h.at_ i d q
  exact ⟨v, h1, Rp.ext e _ _ h2⟩⟩
theorem Sto.tracked (s : Sto K mg w S H) {a : Addr} (h : some a ∈ w.φ) : H a ≠ none := by
  obtain ⟨n, hn, e⟩ := List.mem_iff_getElem.mp h
  have h1 : w.φ[n]? = some (some a) := by rw [List.getElem?_eq_getElem hn, e]
  have hs : n < S.length := s.len ▸ hn
  have c := s.cell n S[n] (List.getElem?_eq_getElem hs)
  unfold CellR at c
  split at c
  · obtain ⟨b, xs, h2, h3, _⟩ := c
    rw [h1] at h2; cases h2; rw [h3]; exact fun z => nomatch z
  · obtain ⟨b, xs, o, h2, h3, _⟩ := c
    rw [h1] at h2; cases h2; rw [h3]; exact fun z => nomatch z
  · rw [h1] at c; cases c
  · obtain ⟨_, _, _, h2, ps, h3, _⟩ := c
    rw [h1] at h2; cases h2; rw [h3]; exact fun z => nomatch z
  · rw [h1] at c; cases c.1
  · rw [h1] at c; cases c.1
  · obtain ⟨b, C, dx, vs, h2, _, h3, _⟩ := c
    rw [h1] at h2; cases h2; rw [h3]; exact fun z => nomatch z
theorem Sto.new (s : Sto K mg w S H) {p : Addr} (h : H p = none) : w.Off p := ⟨fun z => s.tracked z h, fun z => (s.ap p z).1 h⟩
theorem Ext.new {p : Addr} {o : HO} (h : H p = none) : Ext w H w (upd H p o) := ⟨fun a u e _ => by rw [upd_ne (ne_of_none e h)]; exact e, Nat.le_refl _, fun _ _ h _ => h, fun _ h => .inl h, rfl⟩
theorem CellR.ext {c : Cell} {n : Nat} (e : Ext w H w' H') (hw : ∀ a, w.φ[n]? = some (some a) → w'.φ[n]? = some (some a) ∧ H' a = H a) (hd : w.φ[n]? = some none → w'.φ[n]? = some none) (h : CellR K mg w H c n) : CellR K mg w' H' c n := by
  unfold CellR at h ⊢
  split at h
  · obtain ⟨b, xs, h2, h3, h4⟩ := h
    exact ⟨b, xs, (hw b h2).1, by rw [(hw b h2).2]; exact h3, RpL.ext e _ _ h4⟩
  · obtain ⟨b, xs, o, h2, h3, h4⟩ := h
    exact ⟨b, xs, o, (hw b h2).1, by rw [(hw b h2).2]; exact h3, RpL.ext e _ _ h4⟩
  · exact hd h
  · obtain ⟨c0, P, ht, h2, ps, h3, h4, h5⟩ := h
    refine ⟨c0, P, ht, (hw _ h2).1, ps, by rw [(hw _ h2).2]; exact h3, h4, fun pos cv hc => ?_⟩
    obtain ⟨c, e1, e2, e3⟩ := h5 pos cv hc
    exact ⟨c, e1, e.fr _ _ e2 e3.1, e.out e2 e3⟩
  · obtain ⟨h1, h2, h3, ⟨φ, h4, h6⟩, h5⟩ := h
    refine ⟨hd h1, by rw [e.hd]; exact h2, fun z => ?_, ⟨φ, e.fr _ _ h4 h3, h6⟩, h5⟩
    rcases e.nw _ z with z | z
    · exact h3 z
    · rw [h4] at z; cases z
  · exact ⟨hd h.1, EnvR.ext e h.2⟩
  · obtain ⟨b, C, dx, vs, h2, h3, h4, h5, h6⟩ := h
    exact ⟨b, C, dx, vs, (hw b h2).1, h3, by rw [(hw b h2).2]; exact h4, h5, RpL.ext e _ _ h6⟩
theorem upd_some {p a : Addr} {o : HO} (h : H a ≠ none) : upd H p o a ≠ none := by
  by_cases e : a = p
  · subst e; rw [upd_same]; exact fun z => nomatch z
  · rw [upd_ne e]; exact h
/-- a new object beside -/
theorem Sto.beside {p : Addr} {o : HO} (s : Sto K mg w S H) (h : H p = none) : Sto K mg w S (upd H p o) := ⟨s.len, s.nd, fun a ha => ⟨upd_some (s.ap a ha).1, (s.ap a ha).2⟩, fun n c q => CellR.ext (Ext.new h) (fun a ha => ⟨ha, by
  have : a ≠ p := fun z => by subst z; exact (s.new h).1 (List.mem_of_getElem? ha)
  rw [upd_ne this]⟩) id (s.cell n c q)⟩
end
section
variable {K : PySem.W.Frag} {mg : Str → Option Value} {α β γ δ : Type} {R : Wd → Hp → α → β → Prop} {R' : Wd → Hp → γ → δ → Prop} {w w1 : Wd} {H H1 : Hp} {r : RE α} {E : Value → Option Addr → Hp → Prop}
theorem End.imp {Q Q' : β → Hp → Prop} {E' : Value → Option Addr → Hp → Prop} (h : End K mg R w H r Q E) (hq : ∀ b H', Q b H' → Q' b H') (he : ∀ c od H', E c od H' → E' c od H') : End K mg R w H r Q' E' := by
  unfold End at h ⊢
  split
  · exact fun w' H' b e s k => hq _ _ (h w' H' b e s k)
  · exact fun w' H' b od e s k => he _ _ _ (h w' H' b od e s k)
  · exact h
theorem End.on {Q : β → Hp → Prop} (x : Ext w H w1 H1) (h : End K mg R w H r Q E) : End K mg R w1 H1 r Q E := by
  unfold End at h ⊢
  split
  · exact fun w' H' b e s k => h w' H' b (x.trans e) s k
  · exact fun w' H' b od e s k => h w' H' b od (x.trans e) s k
  · exact h
/-- one after the other -/
theorem End.bind {k : α → Store → RE γ} {Q : δ → Hp → Prop} (h : End K mg R' w H (r.bnd k) Q E) :
    End K mg R w H r (fun b H1 => ∃ w1 S1 a, Ext w H w1 H1 ∧ Sto K mg w1 S1 H1 ∧ R w1 H1 a b ∧ End K mg R' w1 H1 (k a S1) Q E) E := by
  cases r with
  | ok a S1 =>
    have h' : End K mg R' w H (k a S1) Q E := h
    exact fun w' H' b e s kk => ⟨w', S1, a, e, s, kk, h'.on e⟩
  | ex x S1 => exact h
  | no => exact h
theorem End.ret {Q : β → Hp → Prop} {a : α} {b : β} {S : Store} (h : End K mg R w H (.ok a S) Q E) (s : Sto K mg w S H) (k : R w H a b) : Q b H := h w H b Ext.refl s k
end
section
variable {X : Cx} {W : WX}
theorem PE.wk {e : Expr} {t t' : TE} (h : PE X e t) (m : ∀ σ H Q, t' σ H Q → t σ H Q) : PE X e t' := ⟨fun pins s σ H Q I k => h.run pins s σ H Q I (m σ H Q k)⟩
theorem PT.wk {e : Expr} {t t' : TT} (h : PT X e t) (m : ∀ σ H Q, t' σ H Q → t σ H Q) : PT X e t' := ⟨fun pins s σ H Q I k => h.run pins s σ H Q I (m σ H Q k)⟩
theorem PW.wk {e : Expr} {t t' : TT} (h : PW X e t) (m : ∀ σ H Q, t' σ H Q → t σ H Q) : PW X e t' := ⟨fun wh pins s σ H Q I k => h.run wh pins s σ H Q I (m σ H Q k)⟩
theorem PA.wk {e : List Expr} {t t' : TA} (h : PA X e t) (m : ∀ σ H Q, t' σ H Q → t σ H Q) : PA X e t' := ⟨fun pos pins s σ H Q I k => h.run pos pins s σ H Q I (m σ H Q k)⟩
theorem PS.wk {e : Stmt} {t t' : TS} (h : PS X e t) (m : ∀ D σ H, t' D σ H → t D σ H) : PS X e t' := ⟨fun pins s σ H D I k => h.run pins s σ H D I (m D σ H k)⟩
theorem PSs.wk {e : List Stmt} {t t' : TS} (h : PSs X e t) (m : ∀ D σ H, t' D σ H → t D σ H) : PSs X e t' := ⟨fun pins s σ H D I k => h.run pins s σ H D I (m D σ H k)⟩
end
end Kw
namespace Kw
open PySem PySem.Spec PyProof.Rows L2
def cellOf (S : Store) (n : Nat) : Option (List D) := match S[n]? with
  | some (.lst ds) => some ds
  | some (.frz ds) => some ds
  | _ => none
def cellM (S : Store) (n : Nat) : Option (List D) := match S[n]? with
  | some (.lst ds) => some ds
  | _ => none
/-- a list that is read -/
def seqL (S : Store) : D → Option (List D)
  | .lst ds => some ds
  | .fls ds => some ds
  | .loc n => cellOf S n
  | _ => none
/-- a list that is no locked one -/
def seqM (S : Store) : D → Option (List D)
  | .lst ds => some ds
  | .loc n => cellM S n
  | _ => none
/-- a list or a tuple -/
def seqA (S : Store) : D → Option (List D)
  | .lst ds => some ds
  | .fls ds => some ds
  | .loc n => cellOf S n
  | .tup ds => some ds
  | _ => none
mutual
def py0 : D → Option PyData
  | .non => some .none
  | .bl b => some (.bool b)
  | .int i => some (.int i)
  | .str x => some (.str x)
  | .tup ds => (py0L ds).map .tuple
  | .lst ds => (py0L ds).map .list
  | .fls ds => (py0L ds).map .list
  | _ => none
def py0L : List D → Option (List PyData)
  | [] => some []
  | d :: ds => (py0 d).bind fun a => (py0L ds).map (a :: ·)
end
mutual
/-- a value as plain data -/
def pyS (S : Store) : D → Option PyData
  | .non => some .none
  | .bl b => some (.bool b)
  | .int i => some (.int i)
  | .str x => some (.str x)
  | .tup ds => (pySL S ds).map .tuple
  | .lst ds => (pySL S ds).map .list
  | .fls ds => (pySL S ds).map .list
  | .loc n => ((cellOf S n).bind py0L).map .list
  | _ => none
def pySL (S : Store) : List D → Option (List PyData)
  | [] => some []
  | d :: ds => (pyS S d).bind fun a => (pySL S ds).map (a :: ·)
end
section
variable {K : PySem.W.Frag} {mg : Str → Option Value} {w : Wd} {H : Hp} {S : Store}
theorem cellOf_at (s : Sto K mg w S H) {n : Nat} {ds : List D} (h : cellOf S n = some ds) : ∃ a xs, w.φ[n]? = some (some a) ∧ Rd H a (.lst xs) ∧ RpL K mg w H ds xs := by
  unfold cellOf at h
  split at h
  · rename_i e he
    cases h
    obtain ⟨a, xs, h1, h2, h3⟩ := s.cell n _ he
    exact ⟨a, xs, h1, .inl h2, h3⟩
  · rename_i e he
    cases h
    obtain ⟨a, xs, o, h1, h2, h3⟩ := s.cell n _ he
    exact ⟨a, xs, h1, .inr ⟨o, h2⟩, h3⟩
  · cases h
theorem cellM_at (s : Sto K mg w S H) {n : Nat} {ds : List D} (h : cellM S n = some ds) : ∃ a xs, w.φ[n]? = some (some a) ∧ H a = some (.lst xs) ∧ RpL K mg w H ds xs := by
  unfold cellM at h
  split at h
  · rename_i e he
    cases h
    obtain ⟨a, xs, h1, h2, h3⟩ := s.cell n _ he
    exact ⟨a, xs, h1, h2, h3⟩
  · cases h
theorem Fp.sq {a : Addr} {xs : List V} (h : Fp K w H a xs) : SqL K H a xs := by
  rcases h with ⟨o, h, _⟩ | h
  · exact .inl (.inr ⟨o, h⟩)
  · exact .inr h
theorem seqL_at (s : Sto K mg w S H) {d : D} {v : V} {ds : List D} (r : Rp K mg w H d v) (h : seqL S d = some ds) : ∃ a xs, v = .ref a ∧ SqL K H a xs ∧ RpL K mg w H ds xs := by
  cases d <;> simp only [seqL] at h <;> try (cases h; done)
  · cases h
    unfold Rp at r
    obtain ⟨a, xs, e, t, _, q⟩ := r
    exact ⟨a, xs, e, .of t, q⟩
  · obtain ⟨a, xs, h1, h2, h3⟩ := cellOf_at s h
    unfold Rp at r
    exact ⟨a, xs, r.2 a h1, .inl h2, h3⟩
  · cases h
    unfold Rp at r
    obtain ⟨a, xs, e, t, q⟩ := r
    exact ⟨a, xs, e, t.sq, q⟩
theorem seqM_at (s : Sto K mg w S H) {d : D} {v : V} {ds : List D} (r : Rp K mg w H d v) (h : seqM S d = some ds) : ∃ a xs, v = .ref a ∧ H a = some (.lst xs) ∧ RpL K mg w H ds xs := by
  cases d <;> simp only [seqM] at h <;> try (cases h; done)
  · cases h
    unfold Rp at r
    obtain ⟨a, xs, e, t, _, q⟩ := r
    exact ⟨a, xs, e, t, q⟩
  · obtain ⟨a, xs, h1, h2, h3⟩ := cellM_at s h
    unfold Rp at r
    exact ⟨a, xs, r.2 a h1, h2, h3⟩
theorem Tp.sq {a : Addr} {xs : List V} (h : Tp K w H a xs) : SqT K H a xs := by
  rcases h with ⟨h, _⟩ | h
  · exact .of h
  · exact .inr h
theorem tup_at {ds : List D} {v : V} (r : Rp K mg w H (.tup ds) v) : ∃ a xs, v = .ref a ∧ SqT K H a xs ∧ RpL K mg w H ds xs := by
  unfold Rp at r
  obtain ⟨a, xs, e, t, q⟩ := r
  exact ⟨a, xs, e, t.sq, q⟩
theorem seqA_at (s : Sto K mg w S H) {d : D} {v : V} {ds : List D} (r : Rp K mg w H d v) (h : seqA S d = some ds) : ∃ a xs, v = .ref a ∧ (SqL K H a xs ∨ SqT K H a xs) ∧ RpL K mg w H ds xs := by
  cases d <;> simp only [seqA] at h <;> try (cases h; done)
  · cases h
    obtain ⟨a, xs, e, t, q⟩ := tup_at r
    exact ⟨a, xs, e, .inr t, q⟩
  · cases h
    unfold Rp at r
    obtain ⟨a, xs, e, t, _, q⟩ := r
    exact ⟨a, xs, e, .inl (.of t), q⟩
  · obtain ⟨a, xs, h1, h2, h3⟩ := cellOf_at s h
    unfold Rp at r
    exact ⟨a, xs, r.2 a h1, .inl (.inl h2), h3⟩
  · cases h
    unfold Rp at r
    obtain ⟨a, xs, e, t, q⟩ := r
    exact ⟨a, xs, e, .inl t.sq, q⟩
mutual
theorem py0_at : ∀ (d : D) (v : V) (p : PyData), Rp K mg w H d v → py0 d = some p → Dp K H v p
  | .non, v, p, r, h => by unfold Rp at r; simp only [py0] at h; cases h; subst r; exact .non
  | .bl _, v, p, r, h => by unfold Rp at r; simp only [py0] at h; cases h; subst r; exact .bl _
  | .int _, v, p, r, h => by unfold Rp at r; simp only [py0] at h; cases h; subst r; exact .int _
  | .str _, v, p, r, h => by unfold Rp at r; simp only [py0] at h; cases h; subst r; exact .str _
  | .tup ds, v, p, r, h => by
    obtain ⟨a, xs, e, t, q⟩ := tup_at r
    simp only [py0, Option.map_eq_some_iff] at h
    obtain ⟨ps, h1, h2⟩ := h
    subst e; subst h2
    exact .tup t (py0L_at ds xs ps q h1)
  | .lst ds, v, p, r, h => by
    unfold Rp at r
    obtain ⟨a, xs, e, t, _, q⟩ := r
    simp only [py0, Option.map_eq_some_iff] at h
    obtain ⟨ps, h1, h2⟩ := h
    subst e; subst h2
    exact .lst (.of t) (py0L_at ds xs ps q h1)
  | .dic _ _, v, p, r, h => by simp [py0] at h
  | .ins _ _ _, v, p, r, h => by simp [py0] at h
  | .loc _, v, p, r, h => by simp [py0] at h
  | .glo _, v, p, r, h => by simp [py0] at h
  | .exn _, v, p, r, h => by simp [py0] at h
  | .exo _ _ _, v, p, r, h => by simp [py0] at h
  | .lam _ _ _, v, p, r, h => by simp [py0] at h
  | .fls ds, v, p, r, h => by
    unfold Rp at r
    obtain ⟨a, xs, e, t, q⟩ := r
    simp only [py0, Option.map_eq_some_iff] at h
    obtain ⟨ps, h1, h2⟩ := h
    subst e; subst h2
    exact .lst t.sq (py0L_at ds xs ps q h1)
theorem py0L_at : ∀ (ds : List D) (vs : List V) (ps : List PyData), RpL K mg w H ds vs → py0L ds = some ps → DpAll K H vs ps
  | [], vs, ps, r, h => by unfold RpL at r; simp only [py0L] at h; cases h; subst r; exact .nil
  | d :: ds, vs, ps, r, h => by
    unfold RpL at r
    obtain ⟨v, vs', e, r1, r2⟩ := r
    simp only [py0L, Option.bind_eq_some_iff, Option.map_eq_some_iff] at h
    obtain ⟨a, h1, b, h2, h3⟩ := h
    subst e; subst h3
    exact .cons (py0_at d v a r1 h1) (py0L_at ds vs' b r2 h2)
end
mutual
theorem pyS_at (s : Sto K mg w S H) : ∀ (d : D) (v : V) (p : PyData), Rp K mg w H d v → pyS S d = some p → Dp K H v p
  | .non, v, p, r, h => by unfold Rp at r; simp only [pyS] at h; cases h; subst r; exact .non
  | .bl _, v, p, r, h => by unfold Rp at r; simp only [pyS] at h; cases h; subst r; exact .bl _
  | .int _, v, p, r, h => by unfold Rp at r; simp only [pyS] at h; cases h; subst r; exact .int _
  | .str _, v, p, r, h => by unfold Rp at r; simp only [pyS] at h; cases h; subst r; exact .str _
  | .tup ds, v, p, r, h => by
    obtain ⟨a, xs, e, t, q⟩ := tup_at r
    simp only [pyS, Option.map_eq_some_iff] at h
    obtain ⟨ps, h1, h2⟩ := h
    subst e; subst h2
    exact .tup t (pySL_at s ds xs ps q h1)
  | .lst ds, v, p, r, h => by
    unfold Rp at r
    obtain ⟨a, xs, e, t, _, q⟩ := r
    simp only [pyS, Option.map_eq_some_iff] at h
    obtain ⟨ps, h1, h2⟩ := h
    subst e; subst h2
    exact .lst (.of t) (pySL_at s ds xs ps q h1)
  | .loc n, v, p, r, h => by
    simp only [pyS, Option.map_eq_some_iff, Option.bind_eq_some_iff] at h
    obtain ⟨ps, ⟨ds, h0, h1⟩, h2⟩ := h
    obtain ⟨a, xs, h3, h4, h5⟩ := cellOf_at s h0
    unfold Rp at r
    have e := r.2 a h3
    subst e; subst h2
    exact .lst (.inl h4) (py0L_at ds xs ps h5 h1)
  | .dic _ _, v, p, r, h => by simp [pyS] at h
  | .ins _ _ _, v, p, r, h => by simp [pyS] at h
  | .glo _, v, p, r, h => by simp [pyS] at h
  | .exn _, v, p, r, h => by simp [pyS] at h
  | .exo _ _ _, v, p, r, h => by simp [pyS] at h
  | .lam _ _ _, v, p, r, h => by simp [pyS] at h
  | .fls ds, v, p, r, h => by
    unfold Rp at r
    obtain ⟨a, xs, e, t, q⟩ := r
    simp only [pyS, Option.map_eq_some_iff] at h
    obtain ⟨ps, h1, h2⟩ := h
    subst e; subst h2
    exact .lst t.sq (pySL_at s ds xs ps q h1)
theorem pySL_at (s : Sto K mg w S H) : ∀ (ds : List D) (vs : List V) (ps : List PyData), RpL K mg w H ds vs → pySL S ds = some ps → DpAll K H vs ps
  | [], vs, ps, r, h => by unfold RpL at r; simp only [pySL] at h; cases h; subst r; exact .nil
  | d :: ds, vs, ps, r, h => by
    unfold RpL at r
    obtain ⟨v, vs', e, r1, r2⟩ := r
    simp only [pySL, Option.bind_eq_some_iff, Option.map_eq_some_iff] at h
    obtain ⟨a, h1, b, h2, h3⟩ := h
    subst e; subst h3
    exact .cons (pyS_at s d v a r1 h1) (pySL_at s ds vs' b r2 h2)
end
end
def fVar (i : Nat) : FE := fun ρ S => match ρ[i]? with
  | some (some d) => .ok d S
  | _ => .no
def fC (d : D) : FE := fun _ S => .ok d S
def f1 (g : D → Store → RE D) (a : FE) : FE := fun ρ S => (a ρ S).bnd fun x S1 => g x S1
def f2 (g : D → D → Store → RE D) (a b : FE) : FE := fun ρ S => (a ρ S).bnd fun x S1 => (b ρ S1).bnd fun y S2 => g x y S2
def fNil : FA := fun _ S => .ok [] S
def fCons (a : FE) (r : FA) : FA := fun ρ S => (a ρ S).bnd fun x S1 => (r ρ S1).bnd fun xs S2 => .ok (x :: xs) S2
def fArg (g : List D → Store → RE D) (a : FA) : FE := fun ρ S => (a ρ S).bnd g
/-- what the operation's reading asks is given -/
def OpV (K : PySem.W.Frag) (mg : Str → Option Value) (r : R2) (g : D → D → Store → RE D) : Prop :=
  ∀ (w : Wd) (S : Store) (H : Hp) (x y : V) (d e : D) (Q : VK) (E : Value → Option Addr → Hp → Prop), Sto K mg w S H → Rp K mg w H d x → Rp K mg w H e y → End K mg (fun w H => Rp K mg w H) w H (g d e S) Q E → r x y H Q
def CallV (K : PySem.W.Frag) (mg : Str → Option Value) (r : List V → Hp → VK → Prop) (g : List D → Store → RE D) : Prop :=
  ∀ (w : Wd) (S : Store) (H : Hp) (xs : List V) (ds : List D) (Q : VK) (E : Value → Option Addr → Hp → Prop), Sto K mg w S H → RpL K mg w H ds xs → End K mg (fun w H => Rp K mg w H) w H (g ds S) Q E → r xs H Q
section
variable {X : Cx} {W : WX} {a b e : Expr} {es : List Expr} {fa fb : FE} {fs : FA} {pos : Pos}
theorem two {r : R2} {g : D → D → Store → RE D} (hv : OpV X.K X.mg r g) {σ : L2.St} {H : Hp} {Q : VK} (h : tF X W (f2 g fa fb) σ H Q) : tOp r (tF X W fa) (tF X W fb) σ H Q := by
  obtain ⟨w, ρ, S, s, en, h⟩ := h
  refine ⟨w, ρ, S, s, en, (End.bind h).imp ?_ (fun _ _ _ z => z)⟩
  rintro x H1 ⟨w1, S1, d, e1, s1, r1, h1⟩
  refine ⟨w1, ρ, S1, s1, en.ext e1, (End.bind h1).imp ?_ (fun _ _ _ z => z)⟩
  rintro y H2 ⟨w2, S2, d2, e2, s2, r2, h2⟩
  exact hv w2 S2 H2 x y d d2 Q _ s2 (Rp.ext e2 _ _ r1) r2 h2
theorem q_var (i : Nat) {x : Str} (hN : X.N[i]? = some x := by rfl) (hv : Vis X.env.scope x := by first | exact Or.inl rfl | exact Or.inr (Or.inl rfl) | exact Or.inr (Or.inr rfl)) (hd : (x == ("__debug__" : Str)) = false := by decide)
    (hcd : (x == ("__classdict__" : Str)) = false := by decide) : PE X (.Name x pos) (tF X W (fVar i)) :=
  PE.wk (pe_var hN hv hd hcd) fun σ H Q ⟨w, ρ, S, s, en, h⟩ => by
    unfold fVar at h
    split at h
    · rename_i d hd
      obtain ⟨v, h1, h2⟩ := en.at_ i d hd
      exact ⟨v, h1, h.ret s h2⟩
    · exact h.elim
theorem q_const {d : D} {v : V} (hr : ∀ w H, Rp X.K X.mg w H d v) (h : PE X e (tC v)) : PE X e (tF X W (fC d)) := PE.wk h fun σ H Q ⟨w, ρ, S, s, en, h⟩ => h.ret s (hr w H)
theorem q_int {i j} : PE X (.Constant (.int i) j pos) (tF X W (fC (.int i))) := q_const (fun w H => by unfold Rp; rfl) pe_int
theorem q_bl {i j} : PE X (.Constant (.bool i) j pos) (tF X W (fC (.bl i))) := q_const (fun w H => by unfold Rp; rfl) pe_bl
theorem q_non {j} : PE X (.Constant .none j pos) (tF X W (fC .non)) := q_const (fun w H => by unfold Rp; rfl) pe_non
theorem q_str {i j} : PE X (.Constant (.str i) j pos) (tF X W (fC (.str i))) := q_const (fun w H => by unfold Rp; rfl) pe_str
theorem q_op {op : Operator} {r : R2} {g : D → D → Store → RE D} (ho : OpR X (binaryOp op) r) (hv : OpV X.K X.mg r g) (ha : PE X a (tF X W fa)) (hb : PE X b (tF X W fb)) : PE X (.BinOp a op b pos) (tF X W (f2 g fa fb)) :=
  PE.wk (pe_op ho ha hb) fun σ H Q h => two hv h
theorem q_cmp {op : CmpOp} {r : R2} {g : D → D → Store → RE D} (ho : OpR X (compareOp op) r) (hv : OpV X.K X.mg r g) (ha : PE X a (tF X W fa)) (hb : PE X b (tF X W fb)) (hm : behindInMarks op b = false) : PE X (.Compare a [op] [b] pos) (tF X W (f2 g fa fb)) :=
  PE.wk (pe_cmpR ho ha hb hm) fun σ H Q h => two hv h
/-- a value that is a truth, as a test -/
def fB (f : FE) : FT := fun ρ S => (f ρ S).bnd fun x S1 => match x with
  | .bl k => .ok k S1
  | _ => .no
theorem tF_of_fB {f : FE} {σ : L2.St} {H : Hp} {Q : Bool → Hp → Prop} (h : tT X W (fB f) σ H Q) : tF X W f σ H (fun v H' => ∃ k, v = .bl k ∧ Q k H') := by
  obtain ⟨w, ρ, S, s, en, h⟩ := h
  refine ⟨w, ρ, S, s, en, (End.bind (R := fun w H => Rp X.K X.mg w H) h).imp ?_ (fun _ _ _ z => z)⟩
  rintro x H1 ⟨w1, S1, d, e1, s1, r1, h1⟩
  cases d <;> try exact h1.elim
  unfold Rp at r1
  exact ⟨_, r1, h1.ret s1 rfl⟩
theorem qt_cmp {op : CmpOp} {r : R2} {g : D → D → Store → RE D} (ho : OpR X (compareOp op) r) (hv : OpV X.K X.mg r g) (ha : PE X a (tF X W fa)) (hb : PE X b (tF X W fb)) (hm : behindInMarks op b = false) : PT X (.Compare a [op] [b] pos) (tT X W (fB (f2 g fa fb))) :=
  PT.wk (pt_cmpR ho ha hb hm) fun σ H Q h => two hv (tF_of_fB h)
/-- a op1 b op2 c -/
def fChain (g g' : D → D → Store → RE D) (a b c : FE) : FE := fun ρ S => (a ρ S).bnd fun x S1 => (b ρ S1).bnd fun y S2 => (g x y S2).bnd fun k S3 => match k with
  | .bl true => (c ρ S3).bnd fun z S4 => g' y z S4
  | .bl false => .ok (.bl false) S3
  | _ => .no
theorem chain {r r' : R2} {g g' : D → D → Store → RE D} (hv : OpV X.K X.mg r g) (hv' : OpV X.K X.mg r' g') {fc : FE} {σ : L2.St} {H : Hp} {Q : VK} (h : tF X W (fChain g g' fa fb fc) σ H Q) : tChain r r' (tF X W fa) (tF X W fb) (tF X W fc) σ H Q := by
  obtain ⟨w, ρ, S, s, en, h⟩ := h
  refine ⟨w, ρ, S, s, en, (End.bind h).imp ?_ (fun _ _ _ z => z)⟩
  rintro x H1 ⟨w1, S1, d, e1, s1, r1, h1⟩
  refine ⟨w1, ρ, S1, s1, en.ext e1, (End.bind h1).imp ?_ (fun _ _ _ z => z)⟩
  rintro y H2 ⟨w2, S2, d2, e2, s2, r2, h2⟩
  refine hv w2 S2 H2 x y d d2 _ _ s2 (Rp.ext e2 _ _ r1) r2 ((End.bind h2).imp ?_ (fun _ _ _ z => z))
  rintro z H3 ⟨w3, S3, d3, e3, s3, r3, h3⟩
  cases d3 <;> try exact h3.elim
  rename_i k
  unfold Rp at r3
  refine ⟨k, r3, ?_⟩
  cases k with
  | false => rw [if_neg (by decide)]; exact h3.ret s3 (by unfold Rp; rfl)
  | true =>
    rw [if_pos rfl]
    refine ⟨w3, ρ, S3, s3, ((en.ext e1).ext e2).ext e3, (End.bind h3).imp ?_ (fun _ _ _ z => z)⟩
    rintro u H4 ⟨w4, S4, d4, e4, s4, r4, h4⟩
    exact hv' w4 S4 H4 y u d2 d4 _ _ s4 (Rp.ext e4 _ _ (Rp.ext e3 _ _ r2)) r4 h4
theorem q_chain {c : Expr} {fc : FE} {op op' : CmpOp} {r r' : R2} {g g' : D → D → Store → RE D} (ho : OpR X (compareOp op) r) (hv : OpV X.K X.mg r g) (ho' : OpR X (compareOp op') r') (hv' : OpV X.K X.mg r' g') (ha : PE X a (tF X W fa)) (hb : PE X b (tF X W fb)) (hc : PE X c (tF X W fc))
    (hm : lastMarks [op, op'] [b, c] = false := by with_unfolding_all rfl) : PE X (.Compare a [op, op'] [b, c] pos) (tF X W (fChain g g' fa fb fc)) :=
  PE.wk (pe_chain ho ho' ha hb hc hm) fun σ H Q h => chain hv hv' h
theorem qt_chain {c : Expr} {fc : FE} {op op' : CmpOp} {r r' : R2} {g g' : D → D → Store → RE D} (ho : OpR X (compareOp op) r) (hv : OpV X.K X.mg r g) (ho' : OpR X (compareOp op') r') (hv' : OpV X.K X.mg r' g') (ha : PE X a (tF X W fa)) (hb : PE X b (tF X W fb)) (hc : PE X c (tF X W fc))
    (hm : lastMarks [op, op'] [b, c] = false := by with_unfolding_all rfl) : PT X (.Compare a [op, op'] [b, c] pos) (tT X W (fB (fChain g g' fa fb fc))) :=
  PT.wk (pt_chain ho ho' ha hb hc hm) fun σ H Q h => chain hv hv' (tF_of_fB h)
def fAnd (a b : FT) : FT := fun ρ S => (a ρ S).bnd fun k S1 => match k with
  | true => b ρ S1
  | false => .ok false S1
def fOr (a b : FT) : FT := fun ρ S => (a ρ S).bnd fun k S1 => match k with
  | true => .ok true S1
  | false => b ρ S1
def fNot (a : FT) : FT := fun ρ S => (a ρ S).bnd fun k S1 => .ok (!k) S1
def fIf (c : FT) (a b : FE) : FE := fun ρ S => (c ρ S).bnd fun k S1 => match k with
  | true => a ρ S1
  | false => b ρ S1
variable {ta tb : FT} {rest : List Expr}
theorem tT_bind {β : Type} {R' : Wd → Hp → β → β → Prop} {f : FT} {σ : L2.St} {H : Hp} {t : Bool → Hp → Prop} {w : Wd} {ρ : FEnv} {S : Store} {γ δ : Type} {RR : Wd → Hp → γ → δ → Prop} {k : Bool → Store → RE γ} {Q : δ → Hp → Prop}
    (s : Sto X.K X.mg w S H) (en : EnvR X.K X.mg w H ρ σ) (h : End X.K X.mg RR w H ((f ρ S).bnd k) Q (fun c od H' => W c od σ H'))
    (hk : ∀ w1 S1 H1 b, Sto X.K X.mg w1 S1 H1 → EnvR X.K X.mg w1 H1 ρ σ → End X.K X.mg RR w1 H1 (k b S1) Q (fun c od H' => W c od σ H') → t b H1) : tT X W f σ H t := by
  refine ⟨w, ρ, S, s, en, (End.bind h).imp ?_ (fun _ _ _ z => z)⟩
  rintro v H1 ⟨w1, S1, d, e1, s1, r1, h1⟩
  cases r1
  exact hk w1 S1 H1 _ s1 (en.ext e1) h1
theorem qw_one {op : BoolOp} (ha : PT X a (tT X W ta)) : PW X (.BoolOp op [a] pos) (tT X W ta) := by
  cases op
  · exact pw_and1 ha
  · exact pw_or1 ha
theorem qw_and (ha : PT X a (tT X W ta)) (hb : PW X (.BoolOp .And (b :: rest) pos) (tT X W tb)) : PW X (.BoolOp .And (a :: b :: rest) pos) (tT X W (fAnd ta tb)) :=
  PW.wk (pw_and ha hb) fun σ H Q ⟨w, ρ, S, s, en, h⟩ => tT_bind (R' := fun _ _ (a b : Nat) => True) s en h fun w1 S1 H1 k s1 en1 h1 => by
    cases k with
    | true => rw [if_pos rfl]; exact ⟨w1, ρ, S1, s1, en1, h1⟩
    | false => rw [if_neg (by decide)]; exact h1.ret s1 rfl
theorem qw_or (ha : PT X a (tT X W ta)) (hb : PW X (.BoolOp .Or (b :: rest) pos) (tT X W tb)) : PW X (.BoolOp .Or (a :: b :: rest) pos) (tT X W (fOr ta tb)) :=
  PW.wk (pw_or ha hb) fun σ H Q ⟨w, ρ, S, s, en, h⟩ => tT_bind (R' := fun _ _ (a b : Nat) => True) s en h fun w1 S1 H1 k s1 en1 h1 => by
    cases k with
    | true => rw [if_pos rfl]; exact h1.ret s1 rfl
    | false => rw [if_neg (by decide)]; exact ⟨w1, ρ, S1, s1, en1, h1⟩
theorem qt_not (ha : PT X a (tT X W ta)) : PT X (.UnaryOp .Not a pos) (tT X W (fNot ta)) :=
  PT.wk (pt_not ha) fun σ H Q ⟨w, ρ, S, s, en, h⟩ => tT_bind (R' := fun _ _ (a b : Nat) => True) s en h fun w1 S1 H1 k s1 en1 h1 => h1.ret s1 rfl
theorem q_if {c : Expr} {tc : FT} (hc : PT X c (tT X W tc)) (ha : PE X a (tF X W fa)) (hb : PE X b (tF X W fb)) : PE X (.IfExp c a b pos) (tF X W (fIf tc fa fb)) :=
  PE.wk (pe_ifExp hc ha hb) fun σ H Q ⟨w, ρ, S, s, en, h⟩ => tT_bind (R' := fun _ _ (a b : Nat) => True) s en h fun w1 S1 H1 k s1 en1 h1 => by
    cases k with
    | true => rw [if_pos rfl]; exact ⟨w1, ρ, S1, s1, en1, h1⟩
    | false => rw [if_neg (by decide)]; exact ⟨w1, ρ, S1, s1, en1, h1⟩
/-- and, or, not as values: all but the last one truths -/
def fAndV (a b : FE) : FE := fun ρ S => (a ρ S).bnd fun k S1 => match k with
  | .bl true => b ρ S1
  | .bl false => .ok (.bl false) S1
  | _ => .no
def fOrV (a b : FE) : FE := fun ρ S => (a ρ S).bnd fun k S1 => match k with
  | .bl true => .ok (.bl true) S1
  | .bl false => b ρ S1
  | _ => .no
theorem q_one {op : BoolOp} (ha : PE X a (tF X W fa)) : PE X (.BoolOp op [a] pos) (tF X W fa) := pe_one ha
theorem q_and (ha : PE X a (tF X W fa)) (hb : PE X (.BoolOp .And (b :: rest) pos) (tF X W fb)) : PE X (.BoolOp .And (a :: b :: rest) pos) (tF X W (fAndV fa fb)) :=
  PE.wk (pe_and ha hb) fun σ H Q ⟨w, ρ, S, s, en, h⟩ => by
    refine ⟨w, ρ, S, s, en, (End.bind h).imp ?_ (fun _ _ _ z => z)⟩
    rintro x H1 ⟨w1, S1, d, e1, s1, r1, h1⟩
    cases d <;> try exact h1.elim
    rename_i k
    unfold Rp at r1
    refine ⟨k, r1, ?_⟩
    cases k with
    | true => rw [if_pos rfl]; exact ⟨w1, ρ, S1, s1, en.ext e1, h1⟩
    | false => rw [if_neg (by decide)]; exact h1.ret s1 (by unfold Rp; rfl)
/-- truth -/
def truD (S : Store) : D → Option Bool
  | .non => some false
  | .bl b => some b
  | .int i => some (i != 0)
  | .str y => if y.length ≤ sizeLine then some ((y.length : Int) != 0) else none
  | .tup ds => some (!ds.isEmpty)
  | .lst ds => some (!ds.isEmpty)
  | .fls ds => some (!ds.isEmpty)
  | .loc n => (cellOf S n).map fun ds => !ds.isEmpty
  | _ => none
def fTru (f : FE) : FT := fun ρ S => (f ρ S).bnd fun x S1 => match truD S1 x with
  | some k => .ok k S1
  | none => .no
theorem RpL.emp {K : PySem.W.Frag} {mg : Str → Option Value} {w : Wd} {H : Hp} {ds : List D} {vs : List V} (h : RpL K mg w H ds vs) : (!ds.isEmpty) = !vs.isEmpty := by
  cases ds <;> unfold RpL at h
  · subst h; rfl
  · obtain ⟨v, r, e, _⟩ := h; subst e; rfl
theorem truD_at {K : PySem.W.Frag} {mg : Str → Option Value} {w : Wd} {H : Hp} {S : Store} {d : D} {v : V} {k : Bool} (s : Sto K mg w S H) (r : Rp K mg w H d v) (h : truD S d = some k) : TruV K v H k := by
  cases d with
  | non => unfold Rp at r; subst r; simp only [truD] at h; cases h; rfl
  | bl b => unfold Rp at r; subst r; simp only [truD] at h; cases h; rfl
  | int i => unfold Rp at r; subst r; simp only [truD] at h; cases h; rfl
  | str y =>
    unfold Rp at r; subst r; simp only [truD] at h
    split at h
    · rename_i hl; cases h; exact ⟨hl, rfl⟩
    · cases h
  | tup ds =>
    obtain ⟨a, xs, e, t, q⟩ := tup_at r
    simp only [truD] at h; cases h; subst e
    exact .inr (.inl ⟨xs, t, q.emp⟩)
  | lst ds =>
    obtain ⟨a, xs, e, t, q⟩ := seqL_at (S := S) s r rfl
    simp only [truD] at h; cases h; subst e
    exact .inl ⟨xs, t, q.emp⟩
  | fls ds =>
    obtain ⟨a, xs, e, t, q⟩ := seqL_at (S := S) (d := .fls ds) s r rfl
    simp only [truD] at h; cases h; subst e
    exact .inl ⟨xs, t, q.emp⟩
  | loc n =>
    simp only [truD, Option.map_eq_some_iff] at h
    obtain ⟨ds, h1, h2⟩ := h
    obtain ⟨a, xs, e, t, q⟩ := seqL_at (S := S) (d := .loc n) s r h1
    subst e; subst h2
    exact .inl ⟨xs, t, q.emp⟩
  | _ => simp [truD] at h
theorem qt_tru (ha : PE X a (tF X W fa)) (he : ∀ whole, isTrue a X.env whole = (do let v ← whole; standAt a.pos; holding [v] (truthy v)) := by intro _; rfl) : PT X a (tT X W (fTru fa)) :=
  PT.wk (pt_truth ha he) fun σ H Q ⟨w, ρ, S, s, en, h⟩ => by
    refine ⟨w, ρ, S, s, en, (End.bind (R := fun w H => Rp X.K X.mg w H) h).imp ?_ (fun _ _ _ z => z)⟩
    rintro x H1 ⟨w1, S1, d, e1, s1, r1, h1⟩
    split at h1
    · rename_i k hk
      exact ⟨k, truD_at s1 r1 hk, h1.ret s1 rfl⟩
    · exact h1.elim
/-- not e, as a value, by truth -/
def fNotV (f : FE) : FE := fun ρ S => (f ρ S).bnd fun x S1 => match truD S1 x with
  | some k => .ok (.bl (!k)) S1
  | none => .no
theorem q_not (ha : PE X a (tF X W fa)) : PE X (.UnaryOp .Not a pos) (tF X W (fNotV fa)) :=
  PE.wk (pe_notT ha) fun σ H Q ⟨w, ρ, S, s, en, h⟩ => by
    refine ⟨w, ρ, S, s, en, (End.bind (R := fun w H => Rp X.K X.mg w H) h).imp ?_ (fun _ _ _ z => z)⟩
    rintro x H1 ⟨w1, S1, d, e1, s1, r1, h1⟩
    split at h1
    · rename_i k hk
      exact ⟨k, truD_at s1 r1 hk, h1.ret s1 (by unfold Rp; rfl)⟩
    · exact h1.elim
theorem q_nil : PA X [] (tA X W fNil) := PA.wk pa_nil fun σ H Q ⟨w, ρ, S, s, en, h⟩ => h.ret s RpL.nil
theorem q_cons (ha : PE X e (tF X W fa)) (hr : PA X es (tA X W fs)) (hs : starEach (e :: es) X.env = (false, eval e X.env) :: starEach es X.env := by rfl) : PA X (e :: es) (tA X W (fCons fa fs)) :=
  PA.wk (pa_cons ha hr hs) fun σ H Q ⟨w, ρ, S, s, en, h⟩ => by
    refine ⟨w, ρ, S, s, en, (End.bind h).imp ?_ (fun _ _ _ z => z)⟩
    rintro x H1 ⟨w1, S1, d, e1, s1, r1, h1⟩
    refine ⟨w1, ρ, S1, s1, en.ext e1, (End.bind h1).imp ?_ (fun _ _ _ z => z)⟩
    rintro xs H2 ⟨w2, S2, ds, e2, s2, r2, h2⟩
    exact h2.ret s2 (RpL.cons (Rp.ext e2 _ _ r1) r2)
/-- a new tuple, a new list -/
def mkTup (ds : List D) (S : Store) : RE D := if ds.length ≤ sizeLine then .ok (.tup ds) S else .no
def mkLst (ds : List D) (S : Store) : RE D := if ds.length ≤ sizeLine then .ok (.lst ds) S else .no
def mkCel (ds : List D) (S : Store) : RE D := if ds.length ≤ sizeLine then .ok (.loc S.length) (S ++ [.lst ds]) else .no
section
variable {K : PySem.W.Frag} {mg : Str → Option Value} {w : Wd} {H : Hp} {S : Store} {Q : VK} {E : Value → Option Addr → Hp → Prop} {ds : List D} {xs : List V} {p : Addr}
theorem mkTup_at (s : Sto K mg w S H) (r : RpL K mg w H ds xs) (h : End K mg (fun w H => Rp K mg w H) w H (mkTup ds S) Q E) : xs.length ≤ sizeLine ∧ ∀ p, H p = none → Q (.ref p) (upd H p (.tup xs)) := by
  unfold mkTup at h
  split at h
  · rename_i hl
    refine ⟨by rw [← r.length]; exact hl, fun p np => h w _ _ (Ext.new np) (s.beside np) ?_⟩
    show Rp _ _ _ _ _ _
    unfold Rp
    exact ⟨p, xs, rfl, .inl ⟨upd_same, s.new np⟩, RpL.ext (Ext.new np) _ _ r⟩
  · exact h.elim
theorem mkLst_at (s : Sto K mg w S H) (r : RpL K mg w H ds xs) (h : End K mg (fun w H => Rp K mg w H) w H (mkLst ds S) Q E) : xs.length ≤ sizeLine ∧ ∀ p, H p = none → Q (.ref p) (upd H p (.lst xs)) := by
  unfold mkLst at h
  split at h
  · rename_i hl
    refine ⟨by rw [← r.length]; exact hl, fun p np => h w _ _ (Ext.new np) (s.beside np) ?_⟩
    show Rp _ _ _ _ _ _
    unfold Rp
    exact ⟨p, xs, rfl, upd_same, s.new np, RpL.ext (Ext.new np) _ _ r⟩
  · exact h.elim
theorem Ext.cell {o : HO} (np : H p = none) : Ext w H ⟨w.φ ++ [some p], w.hd⟩ (upd H p o) where
  fr := fun a u e _ => by rw [upd_ne (ne_of_none e np)]; exact e
  ln := by show w.φ.length ≤ (w.φ ++ [some p]).length; rw [List.length_append]; exact Nat.le_add_right _ _
  ph := fun n a h l => by
    have h' : (w.φ ++ [some p])[n]? = some (some a) := h
    rw [List.getElem?_append_left l] at h'; exact h'
  nw := fun a h => by
    rcases List.mem_append.mp (show some a ∈ w.φ ++ [some p] from h) with h | h
    · exact .inl h
    · simp at h; subst h; exact .inr np
  hd := rfl
theorem Sto.cellNew (s : Sto K mg w S H) (np : H p = none) (r : RpL K mg w H ds xs) : Sto K mg ⟨w.φ ++ [some p], w.hd⟩ (S ++ [.lst ds]) (upd H p (.lst xs)) := by
  have s2 := s.beside (o := .lst xs) np
  have ex : Ext w H ⟨w.φ ++ [some p], w.hd⟩ (upd H p (.lst xs)) := Ext.cell np
  refine ⟨by show (w.φ ++ [some p]).length = _; rw [List.length_append, List.length_append, s.len]; rfl, fun m n a h1 h2 => ?_, fun a ha => ⟨upd_some (s.ap a ha).1, fun z => ?_⟩, fun n c hc => ?_⟩
  · have key : ∀ k, (w.φ ++ [some p])[k]? = some (some a) → (w.φ[k]? = some (some a) ∧ k < w.φ.length) ∨ (k = w.φ.length ∧ a = p) := fun k hk => by
      by_cases hl : k < w.φ.length
      · rw [List.getElem?_append_left hl] at hk; exact .inl ⟨hk, hl⟩
      · have hl' : w.φ.length ≤ k := Nat.le_of_not_lt hl
        rw [List.getElem?_append_right hl'] at hk
        have : k - w.φ.length = 0 := by
          cases e : k - w.φ.length with
          | zero => rfl
          | succ j => rw [e] at hk; simp at hk
        rw [this] at hk; simp at hk
        exact .inr ⟨by omega, hk.symm⟩
    rcases key m h1 with ⟨a1, b1⟩ | ⟨a1, b1⟩ <;> rcases key n h2 with ⟨a2, b2⟩ | ⟨a2, b2⟩
    · exact s.nd m n a a1 a2
    · subst b2; exact absurd (List.mem_of_getElem? a1) (s.new np).1
    · subst b1; exact absurd (List.mem_of_getElem? a2) (s.new np).1
    · omega
  · rcases List.mem_append.mp (show some a ∈ w.φ ++ [some p] from z) with h | h
    · exact (s.ap a ha).2 h
    · simp at h; subst h; exact (s.ap a ha).1 np
  · by_cases hl : n < S.length
    · rw [List.getElem?_append_left hl] at hc
      refine CellR.ext ex (fun a ha => ⟨by show (w.φ ++ [some p])[n]? = _; rw [List.getElem?_append_left (s.len ▸ hl)]; exact ha, ?_⟩) (fun hd => by show (w.φ ++ [some p])[n]? = _; rw [List.getElem?_append_left (s.len ▸ hl)]; exact hd) (s.cell n c hc)
      have : a ≠ p := fun z => by subst z; exact (s.new np).1 (List.mem_of_getElem? ha)
      rw [upd_ne this]
    · have hl' : S.length ≤ n := Nat.le_of_not_lt hl
      rw [List.getElem?_append_right hl'] at hc
      have e0 : n - S.length = 0 := by
        cases e : n - S.length with
        | zero => rfl
        | succ j => rw [e] at hc; simp at hc
      rw [e0] at hc; simp at hc; subst hc
      have en : n = w.φ.length := by rw [s.len]; omega
      subst en
      exact ⟨p, xs, by show (w.φ ++ [some p])[w.φ.length]? = _; rw [List.getElem?_append_right (Nat.le_refl _), Nat.sub_self]; rfl, upd_same, RpL.ext ex _ _ r⟩
theorem mkCel_at (s : Sto K mg w S H) (r : RpL K mg w H ds xs) (h : End K mg (fun w H => Rp K mg w H) w H (mkCel ds S) Q E) : xs.length ≤ sizeLine ∧ ∀ p, H p = none → Q (.ref p) (upd H p (.lst xs)) := by
  unfold mkCel at h
  split at h
  · rename_i hl
    refine ⟨by rw [← r.length]; exact hl, fun p np => h _ _ _ (Ext.cell np) (s.cellNew np r) ?_⟩
    show Rp _ _ _ _ _ _
    unfold Rp
    refine ⟨by show S.length < (w.φ ++ [some p]).length; rw [List.length_append, s.len]; exact Nat.lt_succ_self _, fun a ha => ?_⟩
    have ha' : (w.φ ++ [some p])[S.length]? = some (some a) := ha
    rw [← s.len, List.getElem?_append_right (Nat.le_refl _), Nat.sub_self] at ha'
    simp at ha'; rw [ha']
  · exact h.elim
end
theorem q_tup {x1} (h : PA X es (tA X W fs)) : PE X (.Tuple es x1 pos) (tF X W (fArg mkTup fs)) :=
  PE.wk (pe_tup h) fun σ H Q ⟨w, ρ, S, s, en, h⟩ => ⟨w, ρ, S, s, en, (End.bind (R := fun w H => RpL X.K X.mg w H) h).imp (fun xs H1 ⟨w1, S1, ds, e1, s1, r1, h1⟩ => mkTup_at s1 r1 h1) (fun _ _ _ z => z)⟩
theorem q_lst (h : PA X es (tA X W fs)) : PE X (.List es pos) (tF X W (fArg mkLst fs)) :=
  PE.wk (pe_lst h) fun σ H Q ⟨w, ρ, S, s, en, h⟩ => ⟨w, ρ, S, s, en, (End.bind (R := fun w H => RpL X.K X.mg w H) h).imp (fun xs H1 ⟨w1, S1, ds, e1, s1, r1, h1⟩ => mkLst_at s1 r1 h1) (fun _ _ _ z => z)⟩
theorem q_cel (h : PA X es (tA X W fs)) : PE X (.List es pos) (tF X W (fArg mkCel fs)) :=
  PE.wk (pe_lst h) fun σ H Q ⟨w, ρ, S, s, en, h⟩ => ⟨w, ρ, S, s, en, (End.bind (R := fun w H => RpL X.K X.mg w H) h).imp (fun xs H1 ⟨w1, S1, ds, e1, s1, r1, h1⟩ => mkCel_at s1 r1 h1) (fun _ _ _ z => z)⟩
theorem argsTo {r : List V → Hp → VK → Prop} {g : List D → Store → RE D} (hv : CallV X.K X.mg r g) {σ : L2.St} {H : Hp} {Q : VK} (h : tF X W (fArg g fs) σ H Q) : tA X W fs σ H (fun vs H1 => r vs H1 Q) := by
  obtain ⟨w, ρ, S, s, en, h⟩ := h
  refine ⟨w, ρ, S, s, en, (End.bind h).imp ?_ (fun _ _ _ z => z)⟩
  rintro xs H1 ⟨w1, S1, ds, e1, s1, r1, h1⟩
  exact hv w1 S1 H1 xs ds Q _ s1 r1 h1
theorem q_callB {x : Str} {p : Pos} {id : String} {r : List V → Hp → VK → Prop} {g : List D → Store → RE D} (hc : CallR X (.builtin id) r) (hv : CallV X.K X.mg r g) (hg : Gl X x) (hm : X.mg x = none) (hb : bootBuiltins x = some (.builtin id)) (ha : PA X (e :: es) (tA X W fs)) (hn : x ≠ "__name__" := by decide) (hdb : (x == ("__debug__" : Str)) = false := by decide)
    (he : starEach (e :: es) X.env = (false, eval e X.env) :: starEach es X.env := by rfl) (hpl : (backTo pos (starEach es X.env)).any (·.1) = false := by rfl) : PE X (.Call (.Name x p) (e :: es) [] pos) (tF X W (fArg g fs)) :=
  PE.wk (pe_callB hc hg hm hb ha hn hdb he hpl) fun σ H Q h => argsTo hv h
theorem q_callTy {x : Str} {p : Pos} {T : String} {r : List V → Hp → VK → Prop} {g : List D → Store → RE D} (hc : CallR X (.type T) r) (hv : CallV X.K X.mg r g) (hg : Gl X x) (hm : X.mg x = none) (hb : bootBuiltins x = some (.type T)) (ha : PA X (e :: es) (tA X W fs)) (hn : x ≠ "__name__" := by decide) (hdb : (x == ("__debug__" : Str)) = false := by decide)
    (he : starEach (e :: es) X.env = (false, eval e X.env) :: starEach es X.env := by rfl) (hpl : (backTo pos (starEach es X.env)).any (·.1) = false := by rfl) : PE X (.Call (.Name x p) (e :: es) [] pos) (tF X W (fArg g fs)) :=
  PE.wk (pe_callTy hc hg hm hb ha hn hdb he hpl) fun σ H Q h => argsTo hv h
end
end Kw
namespace Kw
open PySem PySem.Spec PyProof.Rows L2
section
variable {K : PySem.W.Frag} {mg : Str → Option Value} {w : Wd} {H : Hp} {S : Store}
theorem rp_int {i : Int} {v : V} (h : Rp K mg w H (.int i) v) : v = .int i := by unfold Rp at h; exact h
theorem rp_bl {i : Bool} {v : V} (h : Rp K mg w H (.bl i) v) : v = .bl i := by unfold Rp at h; exact h
theorem rp_str {i : Str} {v : V} (h : Rp K mg w H (.str i) v) : v = .str i := by unfold Rp at h; exact h
theorem rp_non {v : V} (h : Rp K mg w H .non v) : v = .non := by unfold Rp at h; exact h
theorem rp_i {i : Int} : Rp K mg w H (.int i) (.int i) := by unfold Rp; rfl
theorem rp_b {i : Bool} : Rp K mg w H (.bl i) (.bl i) := by unfold Rp; rfl
theorem rp_s {i : Str} : Rp K mg w H (.str i) (.str i) := by unfold Rp; rfl
theorem rp_n : Rp K mg w H .non .non := by unfold Rp; rfl
end
def catL (c : Bool) (x y : Option (List D)) (S : Store) : RE D := match x, y with
  | some xs, some ys => if c then mkCel (xs ++ ys) S else mkLst (xs ++ ys) S
  | _, _ => .no
/-- c: the sum of two lists is a cell -/
def gAdd (c : Bool) (x y : D) (S : Store) : RE D := match x with
  | .int i => (match y with
    | .int j => .ok (.int (i + j)) S
    | .bl k => .ok (.int (i + b2i k)) S
    | _ => .no)
  | .str a => (match y with
    | .str b => if a.length + b.length ≤ sizeLine then .ok (.str (a ++ b)) S else .no
    | _ => .no)
  | .tup xs => (match y with
    | .tup ys => mkTup (xs ++ ys) S
    | _ => .no)
  | x => catL c (seqM S x) (seqM S y) S
def gSub (x y : D) (S : Store) : RE D := match x, y with
  | .int i, .int j => .ok (.int (i - j)) S
  | _, _ => .no
instance (i j : Int) : Decidable (CMulW i j) := inferInstanceAs (Decidable (_ < _))
instance (i j : Int) : Decidable (CMul i j) := inferInstanceAs (Decidable (_ ∨ _))
/-- a text so many times -/
def repS (a : Str) (n : Int) : Str := if n < 1 then Str.empty else if (n == 1 || a.length == 0) = true then a else ⟨(List.replicate n.toNat a.cps).foldl (· ++ ·) #[]⟩
/-- c: a list that is repeated is a cell -/
def gMul (c : Bool) (x y : D) (S : Store) : RE D := match y with
  | .int j => (match x with
    | .int i => if CMul i j ∨ CMulW i j then .ok (.int (i * j)) S else .no
    | .str a => if a.length * j.toNat ≤ 16777216 ∧ a.length ≤ 1000 ∧ -(2 ^ 63) ≤ j ∧ j ≤ 100000 then .ok (.str (repS a j)) S else .no
    | x => (match seqM S x with
      | some xs => if xs.length * j.toNat ≤ sizeLine ∧ -(2 ^ 63) ≤ j ∧ j < 2 ^ 63 then (if c then mkCel (List.replicate j.toNat xs).flatten S else mkLst (List.replicate j.toNat xs).flatten S) else .no
      | none => .no))
  | _ => .no
/-- the divisor is positive -/
def gMod (x y : D) (S : Store) : RE D := match x, y with
  | .int i, .int j => if 0 < j then .ok (.int (i % j)) S else .no
  | _, _ => .no
def gDiv (x y : D) (S : Store) : RE D := match x, y with
  | .int i, .int j => if 0 < j ∧ j.natAbs.log2 < 9000 then .ok (.int (i / j)) S else .no
  | _, _ => .no
def gPow (x y : D) (S : Store) : RE D := match x, y with
  | .int i, .int j => if 0 ≤ j ∧ j ≤ 1000000 ∧ i.natAbs < 2 ^ 64 then .ok (.int (i ^ j.toNat)) S else .no
  | _, _ => .no
section
variable {K : PySem.W.Frag} {mg : Str → Option Value}
def rAddU (K : PySem.W.Frag) : R2 := fun x y H Q => (∃ i j, x = .int i ∧ y = .int j ∧ Q (.int (i + j)) H) ∨ (∃ i k, x = .int i ∧ y = .bl k ∧ Q (.int (i + b2i k)) H) ∨
  (∃ i j, x = .str i ∧ y = .str j ∧ i.length + j.length ≤ sizeLine ∧ Q (.str (i ++ j)) H) ∨ rCat x y H Q ∨ rCatA K x y H Q
theorem op_addU {X : Cx} : OpR X (binaryOp .Add) (rAddU X.K) := op_add.or (op_add_ib.or (op_add_str.or (op_cat.or op_catA)))
theorem addU_v {c : Bool} : OpV K mg (rAddU K) (gAdd c) := by
  intro w S H x y d e Q E s r1 r2 h
  have lists : ∀ xs ys, seqM S d = some xs → seqM S e = some ys → End K mg (fun w H => Rp K mg w H) w H (if c then mkCel (xs ++ ys) S else mkLst (xs ++ ys) S) Q E → rCat x y H Q := fun xs ys h1 h2 h => by
    obtain ⟨a, vs, e1, t1, q1⟩ := seqM_at s r1 h1
    obtain ⟨b, us, e2, t2, q2⟩ := seqM_at s r2 h2
    have q := q1.append q2
    refine ⟨a, b, vs, us, e1, e2, t1, t2, ?_⟩
    have l : (vs ++ us).length = vs.length + us.length := List.length_append
    cases c
    · have z := mkLst_at s q h
      rw [l] at z; exact z
    · have z := mkCel_at s q h
      rw [l] at z; exact z
  have lists' : End K mg (fun w H => Rp K mg w H) w H (catL c (seqM S d) (seqM S e) S) Q E → rCat x y H Q := fun h => by
    unfold catL at h
    split at h
    · rename_i xs ys h1 h2; exact lists xs ys h1 h2 h
    · exact h.elim
  cases d <;> simp only [gAdd] at h
  case int i =>
    cases e <;> simp only [] at h <;> try exact h.elim
    · exact .inr (.inl ⟨i, _, rp_int r1, rp_bl r2, h.ret s rp_i⟩)
    · exact .inl ⟨i, _, rp_int r1, rp_int r2, h.ret s rp_i⟩
  case str a =>
    cases e <;> simp only [] at h <;> try exact h.elim
    split at h
    · rename_i hl; exact .inr (.inr (.inl ⟨a, _, rp_str r1, rp_str r2, hl, h.ret s rp_s⟩))
    · exact h.elim
  case tup xs =>
    cases e <;> simp only [] at h <;> try exact h.elim
    rename_i ys
    refine .inr (.inr (.inr (.inr ?_)))
    have r1' := r1
    have r2' := r2
    unfold Rp at r1' r2'
    obtain ⟨a, vs, e1, t1, q1⟩ := r1'
    obtain ⟨b, us, e2, t2, q2⟩ := r2'
    have q := q1.append q2
    have z := mkTup_at s q h
    have l : (vs ++ us).length = vs.length + us.length := List.length_append
    refine ⟨a, b, vs, us, e1, e2, t1.sq, t2.sq, by rw [← l]; exact z.1, fun ev => ?_, fun _ eu => ?_, fun _ _ => z.2⟩
    · subst ev
      have : xs = [] := q1.nil_iff.mpr rfl
      subst this
      unfold mkTup at h
      split at h
      · exact h.ret s (show Rp K mg w H _ _ by unfold Rp; exact ⟨b, us, rfl, t2, q2⟩)
      · exact h.elim
    · subst eu
      have : ys = [] := q2.nil_iff.mpr rfl
      subst this
      unfold mkTup at h
      split at h
      · exact h.ret s (show Rp K mg w H _ _ by unfold Rp; exact ⟨a, vs, rfl, t1, by rw [List.append_nil]; exact q1⟩)
      · exact h.elim
  all_goals exact .inr (.inr (.inr (.inl (lists' h))))
theorem sub_v : OpV K mg (rI0 fun i j => .int (i - j)) gSub := by
  intro w S H x y d e Q E s r1 r2 h
  cases d <;> cases e <;> simp only [gSub] at h <;> try exact h.elim
  exact ⟨_, _, rp_int r1, rp_int r2, h.ret s rp_i⟩
theorem repS_fold : ∀ (k : Nat) (b a : Array Nat), ((List.replicate k a).foldl (· ++ ·) b).size = b.size + a.size * k
  | 0, b, a => by simp
  | k + 1, b, a => by rw [List.replicate_succ, List.foldl_cons, repS_fold k, Array.size_append, Nat.mul_succ]; omega
theorem repS_length (a : Str) (n : Int) : (repS a n).length ≤ a.length * n.toNat := by
  unfold repS
  by_cases h : n < 1
  · rw [if_pos h]; exact Nat.zero_le _
  · rw [if_neg h]
    have h1 : 1 ≤ n.toNat := by omega
    split
    · exact Nat.le_mul_of_pos_right _ h1
    · show ((List.replicate n.toNat a.cps).foldl (· ++ ·) #[]).size ≤ _
      rw [repS_fold]; show 0 + a.cps.size * _ ≤ _; rw [Nat.zero_add]; exact Nat.le_refl _
def rRepS : R2 := fun x y H Q => ∃ a j, x = .str a ∧ y = .int j ∧ a.length * j.toNat ≤ 16777216 ∧ a.length ≤ 1000 ∧ -(2 ^ 63) ≤ j ∧ j ≤ 100000 ∧ Q (.str (repS a j)) H
theorem op_repS {X : Cx} : OpR X (binaryOp .Mult) rRepS := by
  intro pins s σ H x y v u Q I rx ry h
  obtain ⟨a, j, rfl, rfl, h1, h2, h3, h4, q⟩ := h
  obtain ⟨t, rfl⟩ := rx
  obtain ⟨t2, rfl⟩ := ry
  have hz : a.length * j.toNat ≤ sizeLine := by rw [sizeLine_eq]; exact h1
  have n1 : ¬ j < -(2 ^ 63 : Int) := by omega
  have n2 : ¬ j ≥ (2 ^ 63 : Int) := by omega
  refine PySem.P.mul_str (by rw [decide_eq_false n1, decide_eq_false n2]; rfl) (fun g _ z => ?_) (fun _ _ => ?_) ?_
  · have g1 : (92233720368547 : Int) ≤ (2 ^ 63 - 1) / j := by
      rw [Int.le_ediv_iff_mul_le (by omega)]
      omega
    have : (a.length : Int) ≤ 1000 := by omega
    omega
  · unfold Builtin.Str.tooLong
    exact decide_eq_false (by omega)
  · have hl := repS_length a j
    unfold repS at q hl
    by_cases c : j < 1
    · rw [if_pos c] at q ⊢
      exact ⟨Nat.zero_le _, .str _, H, I.tok _, ⟨_, rfl⟩, q⟩
    · rw [if_neg c] at q hl ⊢
      by_cases c2 : (j == 1 || a.length == 0) = true
      · rw [if_pos c2] at q ⊢
        exact ⟨.str a, H, I, ⟨t, rfl⟩, q⟩
      · rw [if_neg c2] at q hl ⊢
        exact ⟨Nat.le_trans hl hz, .str _, H, I.tok _, ⟨_, rfl⟩, q⟩
def rMulU : R2 := fun x y H Q => rI CMul (fun i j => .int (i * j)) x y H Q ∨ rI CMulW (fun i j => .int (i * j)) x y H Q ∨ rRep x y H Q ∨ rRepS x y H Q
theorem op_mulU {X : Cx} : OpR X (binaryOp .Mult) rMulU := op_mul.or (op_mulW.or (op_rep.or op_repS))
theorem RpL.rep {w : Wd} {H : Hp} {xs : List D} {vs : List V} (h : RpL K mg w H xs vs) : ∀ n : Nat, RpL K mg w H (List.replicate n xs).flatten (List.replicate n vs).flatten
  | 0 => RpL.nil
  | n + 1 => by rw [List.replicate_succ, List.replicate_succ, List.flatten_cons, List.flatten_cons]; exact h.append (RpL.rep h n)
theorem mulU_v {c : Bool} : OpV K mg rMulU (gMul c) := by
  intro w S H x y d e Q E s r1 r2 h
  cases e <;> simp only [gMul] at h <;> try exact h.elim
  rename_i j
  have lists : End K mg (fun w H => Rp K mg w H) w H (match seqM S d with
      | some xs => if xs.length * j.toNat ≤ sizeLine ∧ -(2 ^ 63) ≤ j ∧ j < 2 ^ 63 then (if c then mkCel (List.replicate j.toNat xs).flatten S else mkLst (List.replicate j.toNat xs).flatten S) else .no
      | none => .no) Q E → rRep x y H Q := fun h => by
    split at h
    · rename_i xs h1
      split at h
      · rename_i hl
        obtain ⟨a, vs, e1, t1, q1⟩ := seqM_at s r1 h1
        refine ⟨a, j, vs, e1, rp_int r2, t1, hl.2.1, hl.2.2, by rw [← q1.length]; exact hl.1, ?_⟩
        cases c
        · exact (mkLst_at s (q1.rep j.toNat) h).2
        · exact (mkCel_at s (q1.rep j.toNat) h).2
      · exact h.elim
    · exact h.elim
  cases d <;> simp only [] at h
  case int i =>
    split at h
    · rename_i hc
      rcases hc with hc | hc
      · exact .inl ⟨i, j, rp_int r1, rp_int r2, hc, h.ret s rp_i⟩
      · exact .inr (.inl ⟨i, j, rp_int r1, rp_int r2, hc, h.ret s rp_i⟩)
    · exact h.elim
  case str a =>
    split at h
    · rename_i hc
      exact .inr (.inr (.inr ⟨a, j, rp_str r1, rp_int r2, hc.1, hc.2.1, hc.2.2.1, hc.2.2.2, h.ret s rp_s⟩))
    · exact h.elim
  all_goals exact .inr (.inr (.inl (lists h)))
theorem mod_v : OpV K mg (rI (fun _ j => 0 < j) fun i j => .int (i % j)) gMod := by
  intro w S H x y d e Q E s r1 r2 h
  cases d <;> cases e <;> simp only [gMod] at h <;> try exact h.elim
  split at h
  · rename_i hc; exact ⟨_, _, rp_int r1, rp_int r2, hc, h.ret s rp_i⟩
  · exact h.elim
theorem div_v : OpV K mg (rI CDivW fun i j => .int (i / j)) gDiv := by
  intro w S H x y d e Q E s r1 r2 h
  cases d <;> cases e <;> simp only [gDiv] at h <;> try exact h.elim
  split at h
  · rename_i hc; exact ⟨_, _, rp_int r1, rp_int r2, hc, h.ret s rp_i⟩
  · exact h.elim
theorem pow_v : OpV K mg (rI CPow fun i j => .int (i ^ j.toNat)) gPow := by
  intro w S H x y d e Q E s r1 r2 h
  cases d <;> cases e <;> simp only [gPow] at h <;> try exact h.elim
  split at h
  · rename_i hc; exact ⟨_, _, rp_int r1, rp_int r2, hc, h.ret s rp_i⟩
  · exact h.elim
end
def gCmp (p : Int → Int → Bool) (x y : D) (S : Store) : RE D := match x, y with
  | .int i, .int j => .ok (.bl (p i j)) S
  | _, _ => .no
def okPy (d e : PyData) : Bool := d.canLay0 && e.canLay0 && decide (min d.depth e.depth ≤ 200)
/-- a row of anything beside an empty one -/
def eqE (S : Store) (x y : D) : Option Bool := match y with
  | .lst [] => (seqL S x).map (·.isEmpty)
  | .tup [] => (match x with
    | .tup ds => some ds.isEmpty
    | _ => none)
  | .tup [.str b] => (match x with
    | .tup (.str a :: r) => some (a == b && r.isEmpty)
    | _ => none)
  | .str b => (match x with
    | .str a => some (a == b)
    | _ => none)
  | _ => none
def gEq (x y : D) (S : Store) : RE D := match eqE S x y with
  | some b => .ok (.bl b) S
  | none => (match pyS S x, pyS S y with
    | some d, some e => if okPy d e then .ok (.bl (PyData.eqv d e)) S else .no
    | _, _ => .no)
def gNe (x y : D) (S : Store) : RE D := match eqE S x y with
  | some b => .ok (.bl (!b)) S
  | none => (match pyS S x, pyS S y with
    | some d, some e => if okPy d e then .ok (.bl (!PyData.eqv d e)) S else .no
    | _, _ => .no)
def rEqS (K : PySem.W.Frag) (neg : Bool) : R2 := fun x y H Q => (∃ za zb : Str, x = .str za ∧ y = .str zb ∧ Q (.bl (if neg then !(za == zb) else za == zb)) H) ∨ ∃ a b xs, ∃ za zb : Str, x = .ref a ∧ y = .ref b ∧ SqT K H a (.str za :: xs) ∧ SqT K H b [.str zb] ∧ Q (.bl (if neg then !(za == zb && xs.isEmpty) else (za == zb && xs.isEmpty))) H
def rEqE (K : PySem.W.Frag) (neg : Bool) : R2 := fun x y H Q => rEqS K neg x y H Q ∨ ∃ a b xs, x = .ref a ∧ y = .ref b ∧ ((SqL K H a xs ∧ SqL K H b []) ∨ (SqT K H a xs ∧ SqT K H b [])) ∧ Q (.bl (if neg then !xs.isEmpty else xs.isEmpty)) H
def rEqP (K : PySem.W.Frag) : R2 := fun x y H Q => ∃ d e, Dp K H x d ∧ Dp K H y e ∧ okPy d e = true ∧ Q (.bl (PyData.eqv d e)) H
def rNeP (K : PySem.W.Frag) : R2 := fun x y H Q => ∃ d e, Dp K H x d ∧ Dp K H y e ∧ okPy d e = true ∧ Q (.bl (!PyData.eqv d e)) H
theorem okPy_iff {d e : PyData} (h : okPy d e = true) : d.canLay0 = true ∧ e.canLay0 = true ∧ min d.depth e.depth ≤ 200 := by
  unfold okPy at h
  simp only [Bool.and_eq_true, decide_eq_true_eq] at h
  exact ⟨h.1.1, h.1.2, h.2⟩
section
variable {X : Cx}
theorem op_eqP (hu : X.A.units + 200 < cLine) : OpR X (compareOp .Eq) (rEqP X.K) := by
  intro pins s σ H x y v u Q I rx ry h
  obtain ⟨d, e, hd, he, hk, q⟩ := h
  obtain ⟨k1, k2, k3⟩ := okPy_iff hk
  obtain ⟨as, r1⟩ := Dp.reads I d x v hd rx
  obtain ⟨bs, r2⟩ := Dp.reads I e y u he ry
  exact SeqAt.compareEq_reads r1 r2 k1 k2 (by omega) ⟨.bl _, H, I, rfl, q⟩
theorem op_neP (hu : X.A.units + 200 < cLine) : OpR X (compareOp .NotEq) (rNeP X.K) := by
  intro pins s σ H x y v u Q I rx ry h
  obtain ⟨d, e, hd, he, hk, q⟩ := h
  obtain ⟨k1, k2, k3⟩ := okPy_iff hk
  obtain ⟨as, r1⟩ := Dp.reads I d x v hd rx
  obtain ⟨bs, r2⟩ := Dp.reads I e y u he ry
  exact SeqAt.compareNe_reads r1 r2 k1 k2 (by omega) ⟨.bl _, H, I, rfl, q⟩
theorem one_beside {pins : List (Addr × Obj)} {σ : L2.St} {H : Hp} {s : Shared} {a b : Addr} {xs : List V} {za zb : Str} (I : Inv X pins σ H s) (h1 : SqT X.K H a (.str za :: xs)) (h2 : SqT X.K H b [.str zb]) :
    ∃ its its2 : List Value, IsTup s.heap a its.toArray ∧ IsTup s.heap b its2.toArray ∧ its.length = xs.length + 1 ∧ its2.length = 1 ∧ ∀ j (k1 : j < its.toArray.size) (k2 : j < its2.toArray.size), SeqAt.EqAt X.A.in1 s its.toArray[j] its2.toArray[j] ((fun _ => za == zb) j) := by
  obtain ⟨its, rv, t1, _⟩ := I.tuple h1
  obtain ⟨its2, rv2, t2, _⟩ := I.tuple h2
  cases rv with
  | cons r1 rt =>
    cases rv2 with
    | cons r2 rt2 =>
      cases rt2
      obtain ⟨u1, rfl⟩ := r1
      obtain ⟨u2, rfl⟩ := r2
      refine ⟨_, _, t1, t2, by simp [rt.length], rfl, fun j k1 k2 => ?_⟩
      have : j = 0 := by simp at k2; omega
      subst this
      exact SeqAt.EqAt.str_str za u1 zb u2
theorem one_val {α : Type} {xs : List α} {its its2 : List Value} {b : Bool} (l1 : its.length = xs.length + 1) (l2 : its2.length = 1) : ((List.range (min its.toArray.size its2.toArray.size)).all (fun _ => b) && its.toArray.size == its2.toArray.size) = (b && xs.isEmpty) := by
  rw [List.size_toArray, List.size_toArray, l1, l2]
  have : min (xs.length + 1) 1 = 1 := by omega
  rw [this]
  cases xs <;> simp [List.range, List.range.loop]
theorem op_eqE (hu : X.A.units + 200 < cLine) : OpR X (compareOp .Eq) (rEqE X.K false) := by
  intro pins s σ H x y v u Q I rx ry h
  rcases h with (⟨za, zb, rfl, rfl, q⟩ | ⟨a, b, xs, za, zb, rfl, rfl, h1, h2, q⟩) | h
  · obtain ⟨t1, rfl⟩ := rx
    obtain ⟨t2, rfl⟩ := ry
    exact PySem.P.eq_str ⟨.bl _, H, I, congrArg Value.bool (SeqAt.str_beq za zb), q⟩
  · cases rx; cases ry
    obtain ⟨its, its2, t1, t2, l1, l2, he⟩ := one_beside I h1 h2
    refine SeqAt.eq_tupleAt (e := fun _ => za == zb) t1 t2 (by omega) he ⟨.bl _, H, I, ?_, q⟩
    rw [one_val (xs := xs) l1 l2]; rfl
  obtain ⟨a, b, xs, rfl, rfl, hab, q⟩ := h
  cases rx; cases ry
  have hu' : X.A.units < cLine := by omega
  rcases hab with ⟨h1, h2⟩ | ⟨h1, h2⟩
  · obtain ⟨its, rv, t1, _⟩ := I.list h1
    obtain ⟨its2, rv2, t2, _⟩ := I.list h2
    have l1 := rv.length
    have l2 := rv2.length
    cases xs with
    | nil => exact SeqAt.eq_listAt (e := fun _ => true) t1.isList t2.isList (by rw [List.size_toArray, List.size_toArray]; omega) hu' (fun j k1 k2 => by rw [List.size_toArray, ← l1] at k1; exact absurd k1 (Nat.not_lt_zero _)) ⟨.bl _, H, I, by rw [List.all_eq_true.mpr (fun _ _ => rfl)]; rfl, q⟩
    | cons z r => exact SeqAt.eq_list_lengthsAt t1.isList t2.isList (by rw [List.size_toArray, List.size_toArray, ← l1, ← l2]; rfl) hu' ⟨.bl _, H, I, rfl, q⟩
  · obtain ⟨its, rv, t1, _⟩ := I.tuple h1
    obtain ⟨its2, rv2, t2, _⟩ := I.tuple h2
    have l1 := rv.length
    have l2 : its2.length = 0 := by have := rv2.length; simpa using this.symm
    refine SeqAt.eq_tupleAt (e := fun _ => true) t1 t2 hu' (fun j k1 k2 => by rw [List.size_toArray, l2] at k2; exact absurd k2 (Nat.not_lt_zero _)) ⟨.bl _, H, I, ?_, q⟩
    rw [List.all_eq_true.mpr (fun _ _ => rfl), List.size_toArray, List.size_toArray, l2, ← l1]
    cases xs <;> rfl
theorem op_neE (hu : X.A.units + 200 < cLine) : OpR X (compareOp .NotEq) (rEqE X.K true) := by
  intro pins s σ H x y v u Q I rx ry h
  rcases h with (⟨za, zb, rfl, rfl, q⟩ | ⟨a, b, xs, za, zb, rfl, rfl, h1, h2, q⟩) | h
  · obtain ⟨t1, rfl⟩ := rx
    obtain ⟨t2, rfl⟩ := ry
    exact PySem.P.ne_str ⟨.bl _, H, I, congrArg (fun b => Value.bool (!b)) (SeqAt.str_beq za zb), q⟩
  · cases rx; cases ry
    obtain ⟨its, its2, t1, t2, l1, l2, he⟩ := one_beside I h1 h2
    refine SeqAt.RcNeAt.tuples (e := fun _ => za == zb) t1 t2 (by omega) he _ _ _ _ ⟨.bl _, H, I, ?_, q⟩
    rw [one_val (xs := xs) l1 l2]; rfl
  obtain ⟨a, b, xs, rfl, rfl, hab, q⟩ := h
  cases rx; cases ry
  have hu' : X.A.units < cLine := by omega
  rcases hab with ⟨h1, h2⟩ | ⟨h1, h2⟩
  · obtain ⟨its, rv, t1, _⟩ := I.list h1
    obtain ⟨its2, rv2, t2, _⟩ := I.list h2
    have l1 := rv.length
    have l2 := rv2.length
    cases xs with
    | nil => exact SeqAt.RcNeAt.lists (e := fun _ => true) t1.isList t2.isList (by rw [List.size_toArray, List.size_toArray]; omega) hu' (fun j k1 k2 => by rw [List.size_toArray, ← l1] at k1; exact absurd k1 (Nat.not_lt_zero _)) _ _ _ _ ⟨.bl _, H, I, by rw [List.all_eq_true.mpr (fun _ _ => rfl)]; rfl, q⟩
    | cons z r => exact SeqAt.RcNeAt.lists_lengths t1.isList t2.isList (by rw [List.size_toArray, List.size_toArray, ← l1, ← l2]; rfl) hu' _ _ _ _ ⟨.bl _, H, I, rfl, q⟩
  · obtain ⟨its, rv, t1, _⟩ := I.tuple h1
    obtain ⟨its2, rv2, t2, _⟩ := I.tuple h2
    have l1 := rv.length
    have l2 : its2.length = 0 := by have := rv2.length; simpa using this.symm
    refine SeqAt.RcNeAt.tuples (e := fun _ => true) t1 t2 hu' (fun j k1 k2 => by rw [List.size_toArray, l2] at k2; exact absurd k2 (Nat.not_lt_zero _)) _ _ _ _ ⟨.bl _, H, I, ?_, q⟩
    rw [List.all_eq_true.mpr (fun _ _ => rfl), List.size_toArray, List.size_toArray, l2, ← l1]
    cases xs <;> rfl
def rEqU (K : PySem.W.Frag) : R2 := fun x y H Q => rEqE K false x y H Q ∨ rEqP K x y H Q
def rNeU (K : PySem.W.Frag) : R2 := fun x y H Q => rEqE K true x y H Q ∨ rNeP K x y H Q
theorem op_eqU (hu : X.A.units + 200 < cLine) : OpR X (compareOp .Eq) (rEqU X.K) := (op_eqE hu).or (op_eqP hu)
theorem op_neU (hu : X.A.units + 200 < cLine) : OpR X (compareOp .NotEq) (rNeU X.K) := (op_neE hu).or (op_neP hu)
/-- x in ys, a list or a tuple of data -/
def rInP (K : PySem.W.Frag) (neg : Bool) : R2 := fun x y H Q => ∃ d ds, Dp K H x d ∧ (Dp K H y (.list ds) ∨ Dp K H y (.tuple ds)) ∧ d.canLay0 = true ∧ PyData.canLayAll0 ds = true ∧ min (PyData.depthAll ds) d.depth ≤ 190 ∧ Q (.bl (if neg then !ds.any fun z => PyData.eqv z d else ds.any fun z => PyData.eqv z d)) H
theorem op_inP (hu : X.A.units + 200 < cLine) : OpR X (compareOp .In) (rInP X.K false) := by
  intro pins s σ H x y v u Q I rx ry h
  obtain ⟨d, ds, hd, he, k1, k2, k3, q⟩ := h
  obtain ⟨as, r1⟩ := Dp.reads I d x v hd rx
  rcases he with he | he
  · obtain ⟨bs, r2⟩ := Dp.reads I (.list ds) y u he ry
    exact SeqAt.in_list_reads r2 r1 k2 k1 (by omega) ⟨.bl _, H, I, rfl, q⟩
  · obtain ⟨bs, r2⟩ := Dp.reads I (.tuple ds) y u he ry
    exact SeqAt.in_tuple_reads r2 r1 k2 k1 (by omega) ⟨.bl _, H, I, rfl, q⟩
theorem op_notInP (hu : X.A.units + 200 < cLine) : OpR X (compareOp .NotIn) (rInP X.K true) := by
  intro pins s σ H x y v u Q I rx ry h
  obtain ⟨d, ds, hd, he, k1, k2, k3, q⟩ := h
  obtain ⟨as, r1⟩ := Dp.reads I d x v hd rx
  rcases he with he | he
  · obtain ⟨bs, r2⟩ := Dp.reads I (.list ds) y u he ry
    exact SeqAt.notIn_list_reads r2 r1 k2 k1 (by omega) ⟨.bl _, H, I, rfl, q⟩
  · obtain ⟨bs, r2⟩ := Dp.reads I (.tuple ds) y u he ry
    exact SeqAt.notIn_tuple_reads r2 r1 k2 k1 (by omega) ⟨.bl _, H, I, rfl, q⟩
end
/-- in, not in: a list, a tuple, a text -/
def gIn (neg : Bool) (x y : D) (S : Store) : RE D := match pyS S y with
  | some (.str b) => (match x with
    | .str a => .ok (.bl (if neg then !(!(Builtin.Str.occurrences b a 0 b.length 1).isEmpty) else !(Builtin.Str.occurrences b a 0 b.length 1).isEmpty)) S
    | _ => .no)
  | some (.list ds) => (match pyS S x with
    | some d => if d.canLay0 && PyData.canLayAll0 ds && decide (min (PyData.depthAll ds) d.depth ≤ 190) then .ok (.bl (if neg then !ds.any fun z => PyData.eqv z d else ds.any fun z => PyData.eqv z d)) S else .no
    | _ => .no)
  | some (.tuple ds) => (match pyS S x with
    | some d => if d.canLay0 && PyData.canLayAll0 ds && decide (min (PyData.depthAll ds) d.depth ≤ 190) then .ok (.bl (if neg then !ds.any fun z => PyData.eqv z d else ds.any fun z => PyData.eqv z d)) S else .no
    | _ => .no)
  | _ => .no
def rInU (K : PySem.W.Frag) (neg : Bool) : R2 := fun x y H Q => (∃ i j, x = .str i ∧ y = .str j ∧ Q (.bl (if neg then !(!(Builtin.Str.occurrences j i 0 j.length 1).isEmpty) else !(Builtin.Str.occurrences j i 0 j.length 1).isEmpty)) H) ∨ rInP K neg x y H Q
section
variable {X : Cx}
theorem op_inU (hu : X.A.units + 200 < cLine) : OpR X (compareOp .In) (rInU X.K false) := op_in_str.or (op_inP hu)
theorem op_notInU (hu : X.A.units + 200 < cLine) : OpR X (compareOp .NotIn) (rInU X.K true) := op_notin_str.or (op_notInP hu)
variable {K : PySem.W.Frag} {mg : Str → Option Value}
theorem eqE_at {neg : Bool} {w : Wd} {S : Store} {H : Hp} {x y : V} {d e : D} {b : Bool} {Q : VK} (s : Sto K mg w S H) (r1 : Rp K mg w H d x) (r2 : Rp K mg w H e y) (h : eqE S d e = some b) (q : Q (.bl (if neg then !b else b)) H) : rEqE K neg x y H Q := by
  unfold eqE at h
  split at h
  · obtain ⟨ds, h1, h2⟩ := Option.map_eq_some_iff.mp h
    obtain ⟨a, vs, e1, t1, q1⟩ := seqL_at s r1 h1
    obtain ⟨a2, vs2, e2, t2, q2⟩ := seqL_at s r2 (show seqL S (.lst []) = some [] from rfl)
    unfold RpL at q2
    subst q2
    have : vs.isEmpty = ds.isEmpty := by have := q1.length; cases vs <;> cases ds <;> simp_all
    exact .inr ⟨a, a2, vs, e1, e2, .inl ⟨t1, t2⟩, by rw [this, h2]; exact q⟩
  · split at h
    · rename_i ds
      cases h
      obtain ⟨a, vs, e1, t1, q1⟩ := tup_at r1
      obtain ⟨a2, vs2, e2, t2, q2⟩ := tup_at r2
      unfold RpL at q2
      subst q2
      have : vs.isEmpty = ds.isEmpty := by have := q1.length; cases vs <;> cases ds <;> simp_all
      exact .inr ⟨a, a2, vs, e1, e2, .inr ⟨t1, t2⟩, by rw [this]; exact q⟩
    · cases h
  · split at h
    · rename_i zb _ za ds
      cases h
      obtain ⟨a, vs, e1, t1, q1⟩ := tup_at r1
      obtain ⟨a2, vs2, e2, t2, q2⟩ := tup_at r2
      obtain ⟨v2, rfl, q3⟩ := q2.one_inv
      unfold RpL at q1
      obtain ⟨v1, vt, rfl, q4, q5⟩ := q1
      rw [rp_str q3] at t2
      rw [rp_str q4] at t1
      have : vt.isEmpty = ds.isEmpty := by have := q5.length; cases vt <;> cases ds <;> simp_all
      exact .inl (.inr ⟨a, a2, vt, za, zb, e1, e2, t1, t2, by rw [this]; exact q⟩)
    · cases h
  · split at h
    · cases h
      exact .inl (.inl ⟨_, _, rp_str r1, rp_str r2, q⟩)
    · cases h
  · cases h
theorem eqP_v : OpV K mg (rEqU K) gEq := by
  intro w S H x y d e Q E s r1 r2 h
  unfold gEq at h
  split at h
  · rename_i b hb; exact .inl (eqE_at (neg := false) s r1 r2 hb (h.ret s rp_b))
  · split at h
    · rename_i p q h1 h2
      split at h
      · rename_i hk; exact .inr ⟨p, q, pyS_at s d x p r1 h1, pyS_at s e y q r2 h2, hk, h.ret s rp_b⟩
      · exact h.elim
    · exact h.elim
theorem neP_v : OpV K mg (rNeU K) gNe := by
  intro w S H x y d e Q E s r1 r2 h
  unfold gNe at h
  split at h
  · rename_i b hb; exact .inl (eqE_at (neg := true) s r1 r2 hb (h.ret s rp_b))
  · split at h
    · rename_i p q h1 h2
      split at h
      · rename_i hk; exact .inr ⟨p, q, pyS_at s d x p r1 h1, pyS_at s e y q r2 h2, hk, h.ret s rp_b⟩
      · exact h.elim
    · exact h.elim
theorem inU_v {neg : Bool} : OpV K mg (rInU K neg) (gIn neg) := by
  intro w S H x y d e Q E s r1 r2 h
  unfold gIn at h
  split at h
  · rename_i b h1
    split at h
    · rename_i a
      have ye := pyS_at s e y _ r2 h1
      cases ye
      exact .inl ⟨_, _, rp_str r1, rfl, h.ret s rp_b⟩
    · exact h.elim
  · rename_i ds h1
    split at h
    · rename_i p h2
      split at h
      · rename_i hk
        simp only [Bool.and_eq_true, decide_eq_true_eq] at hk
        exact .inr ⟨p, ds, pyS_at s d x p r1 h2, .inl (pyS_at s e y _ r2 h1), hk.1.1, hk.1.2, hk.2, h.ret s rp_b⟩
      · exact h.elim
    · exact h.elim
  · rename_i ds h1
    split at h
    · rename_i p h2
      split at h
      · rename_i hk
        simp only [Bool.and_eq_true, decide_eq_true_eq] at hk
        exact .inr ⟨p, ds, pyS_at s d x p r1 h2, .inr (pyS_at s e y _ r2 h1), hk.1.1, hk.1.2, hk.2, h.ret s rp_b⟩
      · exact h.elim
    · exact h.elim
  · exact h.elim
theorem cmp_v (p : Int → Int → Bool) : OpV K mg (rI0 fun i j => .bl (p i j)) (gCmp p) := by
  intro w S H x y d e Q E s r1 r2 h
  cases d <;> cases e <;> simp only [gCmp] at h <;> try exact h.elim
  exact ⟨_, _, rp_int r1, rp_int r2, h.ret s rp_b⟩
end
/-- whether it is None -/
def isNon (S : Store) : D → Option Bool
  | .non => some true
  | .loc n => (cellOf S n).map fun _ => false
  | _ => some false
/-- is None, is True -/
def gIs (neg : Bool) (x y : D) (S : Store) : RE D := match y with
  | .non => (match isNon S x with
    | some k => .ok (.bl (xor neg k)) S
    | none => .no)
  | .bl b => (match x with
    | .bl a => .ok (.bl (xor neg (decide (a = b)))) S
    | _ => .no)
  | _ => .no
def rIsU (neg : Bool) : R2 := fun x y H Q => (y = .non ∧ Q (.bl (xor neg (decide (x = .non)))) H) ∨ (∃ a b : Bool, x = .bl a ∧ y = .bl b ∧ Q (.bl (xor neg (decide (a = b)))) H)
section
variable {X : Cx}
theorem op_isU : OpR X (compareOp .Is) (rIsU false) := by
  have h := (op_isN (X := X)).or (op_isBl (X := X))
  intro pins s σ H x y v u Q I rx ry q
  refine h pins s σ H x y v u Q I rx ry ?_
  rcases q with ⟨a, b⟩ | ⟨a, b, c, d, e⟩
  · exact .inl ⟨a, by simpa using b⟩
  · exact .inr ⟨a, b, c, d, by simpa using e⟩
theorem op_isNotU : OpR X (compareOp .IsNot) (rIsU true) := by
  have h := (op_notN (X := X)).or (op_notBl (X := X))
  intro pins s σ H x y v u Q I rx ry q
  refine h pins s σ H x y v u Q I rx ry ?_
  rcases q with ⟨a, b⟩ | ⟨a, b, c, d, e⟩
  · exact .inl ⟨a, by simpa using b⟩
  · exact .inr ⟨a, b, c, d, by simpa using e⟩
variable {K : PySem.W.Frag} {mg : Str → Option Value}
theorem isNon_at {w : Wd} {S : Store} {H : Hp} {x : V} {d : D} {k : Bool} (s : Sto K mg w S H) (r1 : Rp K mg w H d x) (h : isNon S d = some k) : decide (x = V.non) = k := by
  cases d with
  | loc n =>
    simp only [isNon, Option.map_eq_some_iff] at h
    obtain ⟨ds, h1, h2⟩ := h
    obtain ⟨a, xs, e, t, q⟩ := seqL_at (S := S) (d := .loc n) s r1 h1
    rw [e, ← h2]; rfl
  | non => simp only [isNon] at h; cases h; rw [rp_non r1]; rfl
  | bl b => simp only [isNon] at h; cases h; rw [rp_bl r1]; rfl
  | int b => simp only [isNon] at h; cases h; rw [rp_int r1]; rfl
  | str b => simp only [isNon] at h; cases h; rw [rp_str r1]; rfl
  | tup ds => simp only [isNon] at h; cases h; unfold Rp at r1; obtain ⟨a, xs, e, _⟩ := r1; rw [e]; rfl
  | lst ds => simp only [isNon] at h; cases h; unfold Rp at r1; obtain ⟨a, xs, e, _⟩ := r1; rw [e]; rfl
  | dic ks ds => simp only [isNon] at h; cases h; unfold Rp at r1; obtain ⟨a, vs, e, _⟩ := r1; rw [e]; rfl
  | ins c fs ds => simp only [isNon] at h; cases h; unfold Rp at r1; obtain ⟨a, C, dx, vs, e, _⟩ := r1; rw [e]; rfl
  | glo n => simp only [isNon] at h; cases h; unfold Rp at r1; obtain ⟨a, e, _⟩ := r1; rw [e]; rfl
  | exn n => simp only [isNon] at h; cases h; unfold Rp at r1; rw [r1]; rfl
  | fls ds => simp only [isNon] at h; cases h; unfold Rp at r1; obtain ⟨a, xs, e, _⟩ := r1; rw [e]; rfl
  | exo c ns ds => simp only [isNon] at h; cases h; unfold Rp at r1; obtain ⟨a, C, od, vs, e, _⟩ := r1; rw [e]; rfl
  | lam i q ob => simp only [isNon] at h; cases h; unfold Rp at r1; obtain ⟨f, c', pm, ctv, e, _⟩ := r1; rw [e]; rfl
theorem isU_v {neg : Bool} : OpV K mg (rIsU neg) (gIs neg) := by
  intro w S H x y d e Q E s r1 r2 h
  cases e <;> simp only [gIs] at h <;> try exact h.elim
  · split at h
    · rename_i k hk
      refine .inl ⟨rp_non r2, ?_⟩
      rw [isNon_at s r1 hk]
      exact h.ret s rp_b
    · exact h.elim
  · cases d <;> simp only [] at h <;> try exact h.elim
    exact .inr ⟨_, _, rp_bl r1, rp_bl r2, h.ret s rp_b⟩
end
end Kw
namespace Kw
open PySem PySem.Spec PyProof.Rows L2
section
variable {K : PySem.W.Frag} {mg : Str → Option Value} {w : Wd} {H : Hp} {S : Store}
theorem RpL.atI {ds : List D} {xs : List V} {i : Int} {d : D} (r : RpL K mg w H ds xs) (h : L2.atI ds i = some d) : ∃ v, L2.atI xs i = some v ∧ Rp K mg w H d v := by
  unfold L2.atI at h ⊢
  rw [← r.length]
  cases e : ixN ds.length i with
  | none => rw [e] at h; cases h
  | some j =>
    rw [e] at h
    exact r.get h
end
def gIx (x y : D) (S : Store) : RE D := match y with
  | .int i => (match x with
    | .str z => if z.length ≤ sizeLine then (match L2.atI z.cps.toList i with
      | some c => .ok (.str ⟨#[c]⟩) S
      | none => .no) else .no
    | x => (match seqA S x with
      | some ds => (match L2.atI ds i with
        | some d => .ok d S
        | none => .no)
      | none => .no))
  | _ => .no
section
variable {K : PySem.W.Frag} {mg : Str → Option Value}
theorem ix_v : OpV K mg (rIx K) gIx := by
  intro w S H x y d e Q E s r1 r2 h
  cases e <;> simp only [gIx] at h <;> try exact h.elim
  rename_i i
  have seqs : End K mg (fun w H => Rp K mg w H) w H (match seqA S d with
      | some ds => (match L2.atI ds i with
        | some d => .ok d S
        | none => .no)
      | none => .no) Q E → rIx K x y H Q := fun h => by
    split at h
    · rename_i ds h1
      split at h
      · rename_i d' h2
        obtain ⟨a, xs, e1, t1, q1⟩ := seqA_at s r1 h1
        obtain ⟨v, h3, h4⟩ := q1.atI h2
        rcases t1 with t1 | t1
        · exact .inl ⟨a, xs, i, v, e1, rp_int r2, t1, h3, h.ret s h4⟩
        · exact .inr (.inl ⟨a, xs, i, v, e1, rp_int r2, t1, h3, h.ret s h4⟩)
      · exact h.elim
    · exact h.elim
  cases d <;> simp only [] at h
  case str z =>
    split at h
    · rename_i hl
      split at h
      · rename_i c hc
        exact .inr (.inr ⟨z, i, c, rp_str r1, rp_int r2, hl, hc, h.ret s rp_s⟩)
      · exact h.elim
    · exact h.elim
  all_goals exact seqs h
end
section
variable {X : Cx} {W : WX} {a b e : Expr} {es : List Expr} {fa fb : FE} {fs : FA} {pos : Pos}
theorem q_ix (ha : PE X a (tF X W fa)) (hb : PE X b (tF X W fb)) (hs : PlainIx b := by intro _ _; rfl) : PE X (.Subscript a b pos) (tF X W (f2 gIx fa fb)) := PE.wk (pe_ix ix_seq ha hb hs) fun σ H Q h => two ix_v h
end
abbrev FO := FEnv → Store → RE (Option Int)
def tO (X : Cx) (W : WX) (f : FO) : TO := fun σ H Q => ∃ w ρ S, Sto X.K X.mg w S H ∧ EnvR X.K X.mg w H ρ σ ∧ End X.K X.mg (fun _ _ (a b : Option Int) => b = a) w H (f ρ S) Q (fun c od H' => W c od σ H')
def fNone : FO := fun _ S => .ok none S
def fSome (f : FE) : FO := fun ρ S => (f ρ S).bnd fun x S1 => match x with
  | .int i => .ok (some i) S1
  | _ => .no
def cutL {α : Type} (xs : List α) (lo hi : Option Int) : List α := (xs.drop (HT.sIx xs.length 0 lo)).take (HT.sIx xs.length xs.length hi - HT.sIx xs.length 0 lo)
/-- c: the slice of a list is a cell -/
def gSl (c : Bool) (x : D) (lo hi : Option Int) (S : Store) : RE D := match x with
  | .str z => if z.length ≤ sizeLine then .ok (.str (cutS z lo hi)) S else .no
  | .tup ds => .ok (.tup (cutL ds lo hi)) S
  | x => (match seqL S x with
    | some ds => if c then .ok (.loc S.length) (S ++ [.lst (cutL ds lo hi)]) else .ok (.lst (cutL ds lo hi)) S
    | none => .no)
def fSl (g : D → Option Int → Option Int → Store → RE D) (a : FE) (l u : FO) : FE := fun ρ S => (a ρ S).bnd fun x S1 => (l ρ S1).bnd fun lo S2 => (u ρ S2).bnd fun hi S3 => g x lo hi S3
def rSlU (K : PySem.W.Frag) : V → Option Int → Option Int → Hp → VK → Prop := fun x lo hi H Q => rSlL K x lo hi H Q ∨ rSlA K x lo hi H Q ∨ rSlS x lo hi H Q
theorem sl_U {X : Cx} : SlR X (rSlU X.K) := sl_list.or (sl_tupA.or sl_str)
section
variable {K : PySem.W.Frag} {mg : Str → Option Value} {w : Wd} {H : Hp} {S : Store} {Q : VK} {E : Value → Option Addr → Hp → Prop}
theorem RpL.cut {ds : List D} {xs : List V} (r : RpL K mg w H ds xs) (lo hi : Option Int) : RpL K mg w H (cutL ds lo hi) (cutV xs lo hi) := by
  unfold cutL cutV
  rw [← r.length]
  exact (r.drop _).take _
theorem newLst {ds : List D} {xs : List V} {p : Addr} (s : Sto K mg w S H) (r : RpL K mg w H ds xs) (np : H p = none) (h : End K mg (fun w H => Rp K mg w H) w H (.ok (.lst ds) S) Q E) : Q (.ref p) (upd H p (.lst xs)) := by
  refine h w _ _ (Ext.new np) (s.beside np) ?_
  show Rp _ _ _ _ _ _
  unfold Rp
  exact ⟨p, xs, rfl, upd_same, s.new np, RpL.ext (Ext.new np) _ _ r⟩
theorem newTup {ds : List D} {xs : List V} {p : Addr} (s : Sto K mg w S H) (r : RpL K mg w H ds xs) (np : H p = none) (h : End K mg (fun w H => Rp K mg w H) w H (.ok (.tup ds) S) Q E) : Q (.ref p) (upd H p (.tup xs)) := by
  refine h w _ _ (Ext.new np) (s.beside np) ?_
  show Rp _ _ _ _ _ _
  unfold Rp
  exact ⟨p, xs, rfl, .inl ⟨upd_same, s.new np⟩, RpL.ext (Ext.new np) _ _ r⟩
theorem newCel {ds : List D} {xs : List V} {p : Addr} (s : Sto K mg w S H) (r : RpL K mg w H ds xs) (np : H p = none) (h : End K mg (fun w H => Rp K mg w H) w H (.ok (.loc S.length) (S ++ [.lst ds])) Q E) : Q (.ref p) (upd H p (.lst xs)) := by
  refine h _ _ _ (Ext.cell np) (s.cellNew np r) ?_
  show Rp _ _ _ _ _ _
  unfold Rp
  refine ⟨by show S.length < (w.φ ++ [some p]).length; rw [List.length_append, s.len]; exact Nat.lt_succ_self _, fun a ha => ?_⟩
  have ha' : (w.φ ++ [some p])[S.length]? = some (some a) := ha
  rw [← s.len, List.getElem?_append_right (Nat.le_refl _), Nat.sub_self] at ha'
  simp at ha'; rw [ha']
theorem slU_v {c : Bool} {x : V} {d : D} {lo hi : Option Int} (s : Sto K mg w S H) (r1 : Rp K mg w H d x) (h : End K mg (fun w H => Rp K mg w H) w H (gSl c d lo hi S) Q E) : rSlU K x lo hi H Q := by
  have lists : End K mg (fun w H => Rp K mg w H) w H (match seqL S d with
      | some ds => if c then .ok (.loc S.length) (S ++ [.lst (cutL ds lo hi)]) else .ok (.lst (cutL ds lo hi)) S
      | none => .no) Q E → rSlL K x lo hi H Q := fun h => by
    split at h
    · rename_i ds h1
      obtain ⟨a, xs, e1, t1, q1⟩ := seqL_at s r1 h1
      refine ⟨a, xs, e1, t1, fun p np => ?_⟩
      cases c
      · exact newLst s (q1.cut lo hi) np h
      · exact newCel s (q1.cut lo hi) np h
    · exact h.elim
  cases d <;> simp only [gSl] at h
  case str z =>
    split at h
    · rename_i hl; exact .inr (.inr ⟨z, rp_str r1, hl, h.ret s rp_s⟩)
    · exact h.elim
  case tup ds =>
    have r1' := r1
    unfold Rp at r1'
    obtain ⟨a, xs, e1, t1, q1⟩ := r1'
    refine .inr (.inl ⟨a, xs, e1, t1.sq, fun ⟨z1, z2⟩ => ?_, fun _ p np => newTup s (q1.cut lo hi) np h⟩)
    have e2 : cutL ds lo hi = ds := by
      unfold cutL
      rw [q1.length, z1, z2, List.drop_zero, ← q1.length]
      exact List.take_of_length_le (by omega)
    rw [e2] at h
    exact h.ret s (by rw [← e1]; exact r1)
  all_goals exact .inl (lists h)
end
section
variable {X : Cx} {W : WX} {a b e : Expr} {es : List Expr} {fa fb : FE} {fs : FA} {pos : Pos}
theorem q_none : PO X none (tO X W fNone) := ⟨fun pins s σ H Q I ⟨w, ρ, S, st, en, h⟩ => po_none.run pins s σ H Q I (h.ret st rfl)⟩
theorem q_some (h : PE X e (tF X W fa)) : PO X (some e) (tO X W (fSome fa)) := ⟨fun pins s σ H Q I ⟨w, ρ, S, st, en, hh⟩ => (po_some h).run pins s σ H Q I (by
  refine ⟨w, ρ, S, st, en, (End.bind (R := fun w H => Rp X.K X.mg w H) hh).imp ?_ (fun _ _ _ z => z)⟩
  rintro x H1 ⟨w1, S1, d, e1, s1, r1, h1⟩
  cases d <;> try exact h1.elim
  exact ⟨_, rp_int r1, h1.ret s1 rfl⟩)⟩
theorem q_slice {c : Bool} {lo hi : Option Expr} {fl fu : FO} {p2 : Pos} (he : PE X e (tF X W fa)) (hl : PO X lo (tO X W fl)) (hu : PO X hi (tO X W fu)) : PE X (.Subscript e (.Slice lo hi none p2) pos) (tF X W (fSl (gSl c) fa fl fu)) :=
  PE.wk (pe_slice sl_U he hl hu) fun σ H Q ⟨w, ρ, S, s, en, h⟩ => by
    refine ⟨w, ρ, S, s, en, (End.bind h).imp ?_ (fun _ _ _ z => z)⟩
    rintro x H1 ⟨w1, S1, d, e1, s1, r1, h1⟩
    refine ⟨w1, ρ, S1, s1, en.ext e1, (End.bind h1).imp ?_ (fun _ _ _ z => z)⟩
    rintro l H2 ⟨w2, S2, l', e2, s2, r2, h2⟩
    cases r2
    refine ⟨w2, ρ, S2, s2, (en.ext e1).ext e2, (End.bind h2).imp ?_ (fun _ _ _ z => z)⟩
    rintro u H3 ⟨w3, S3, u', e3, s3, r3, h3⟩
    cases r3
    exact slU_v s3 (Rp.ext e3 _ _ (Rp.ext e2 _ _ r1)) h3
end
def gLen : List D → Store → RE D := fun ds S => match ds with
  | [.str z] => if z.length ≤ sizeLine then .ok (.int z.length) S else .no
  | [d] => (match seqA S d with
    | some xs => .ok (.int xs.length) S
    | none => .no)
  | _ => .no
def gInt : List D → Store → RE D := fun ds S => match ds with
  | [.int i] => .ok (.int i) S
  | [.bl k] => .ok (.int (if k then 1 else 0)) S
  | _ => .no
def gList (c : Bool) : List D → Store → RE D := fun ds S => match ds with
  | [d] => (match seqA S d with
    | some xs => if c then .ok (.loc S.length) (S ++ [.lst xs]) else .ok (.lst xs) S
    | none => .no)
  | _ => .no
def gTuple : List D → Store → RE D := fun ds S => match ds with
  | [d] => (match seqA S d with
    | some xs => .ok (.tup xs) S
    | none => .no)
  | _ => .no
def blsOf : List D → Option (List Bool)
  | [] => some []
  | .bl b :: r => (blsOf r).map (b :: ·)
  | _ => none
def gAll : List D → Store → RE D := fun ds S => match ds with
  | [d] => (match (seqL S d).bind blsOf with
    | some bs => .ok (.bl (bs.all id)) S
    | none => .no)
  | _ => .no
section
variable {K : PySem.W.Frag} {mg : Str → Option Value}
theorem len_v : CallV K mg (fun xs H Q => ∃ x n, xs = [x] ∧ LenV K x H n ∧ Q (.int n) H) gLen := by
  intro w S H xs ds Q E s r h
  unfold gLen at h
  split at h
  · rename_i z
    split at h
    · rename_i hl
      obtain ⟨v, rfl, r1⟩ := r.one_inv
      exact ⟨v, z.length, rfl, by rw [rp_str r1]; exact ⟨hl, rfl⟩, h.ret s rp_i⟩
    · exact h.elim
  · rename_i d _
    split at h
    · rename_i ys h1
      obtain ⟨v, rfl, r1⟩ := r.one_inv
      obtain ⟨a, vs, e1, t1, q1⟩ := seqA_at s r1 h1
      refine ⟨v, ys.length, rfl, ?_, h.ret s rp_i⟩
      rw [e1, q1.length]
      rcases t1 with t1 | t1
      · exact .inl ⟨vs, t1, rfl⟩
      · exact .inr ⟨vs, t1, rfl⟩
    · exact h.elim
  · exact h.elim
theorem int_v : CallV K mg (fun xs H Q => (∃ i, xs = [.int i] ∧ Q (.int i) H) ∨ ∃ k, xs = [.bl k] ∧ Q (.int (if k then 1 else 0)) H) gInt := by
  intro w S H xs ds Q E s r h
  unfold gInt at h
  split at h
  · obtain ⟨v, rfl, r1⟩ := r.one_inv
    exact .inl ⟨_, by rw [rp_int r1], h.ret s rp_i⟩
  · obtain ⟨v, rfl, r1⟩ := r.one_inv
    exact .inr ⟨_, by rw [rp_bl r1], h.ret s rp_i⟩
  · exact h.elim
theorem list_v {c : Bool} : CallV K mg (fun xs H Q => ∃ p ys, xs = [.ref p] ∧ (SqL K H p ys ∨ SqT K H p ys) ∧ ∀ l, H l = none → Q (.ref l) (upd H l (.lst ys))) (gList c) := by
  intro w S H xs ds Q E s r h
  unfold gList at h
  split at h
  · split at h
    · rename_i ys h1
      obtain ⟨v, rfl, r1⟩ := r.one_inv
      obtain ⟨a, vs, e1, t1, q1⟩ := seqA_at s r1 h1
      refine ⟨a, vs, by rw [e1], t1, fun p np => ?_⟩
      cases c
      · exact newLst s q1 np h
      · exact newCel s q1 np h
    · exact h.elim
  · exact h.elim
theorem tuple_v : CallV K mg (fun xs H Q => ∃ p ys, xs = [.ref p] ∧ ((SqL K H p ys ∧ ∀ l, H l = none → Q (.ref l) (upd H l (.tup ys))) ∨ (SqT K H p ys ∧ Q (.ref p) H))) gTuple := by
  intro w S H xs ds Q E s r h
  unfold gTuple at h
  split at h
  · rename_i d
    split at h
    · rename_i ys h1
      obtain ⟨v, rfl, r1⟩ := r.one_inv
      cases d <;> simp only [seqA] at h1 <;> try (cases h1; done)
      · cases h1
        obtain ⟨a, vs, e1, t1, q1⟩ := tup_at r1
        exact ⟨a, vs, by rw [e1], .inr ⟨t1, h.ret s (by rw [← e1]; exact r1)⟩⟩
      · cases h1
        obtain ⟨a, vs, e1, t1, q1⟩ := seqL_at (S := S) s r1 rfl
        exact ⟨a, vs, by rw [e1], .inl ⟨t1, fun p np => newTup s q1 np h⟩⟩
      · rename_i n
        obtain ⟨a, vs, e1, t1, q1⟩ := seqL_at (S := S) (d := .loc n) s r1 h1
        exact ⟨a, vs, by rw [e1], .inl ⟨t1, fun p np => newTup s q1 np h⟩⟩
      · rename_i ds'
        cases h1
        obtain ⟨a, vs, e1, t1, q1⟩ := seqL_at (S := S) (d := .fls ys) s r1 rfl
        exact ⟨a, vs, by rw [e1], .inl ⟨t1, fun p np => newTup s q1 np h⟩⟩
    · exact h.elim
  · exact h.elim
theorem blsOf_at {w : Wd} {H : Hp} : ∀ {ds : List D} {vs : List V} {bs : List Bool}, RpL K mg w H ds vs → blsOf ds = some bs → vs = bs.map V.bl
  | [], vs, bs, r, h => by unfold RpL at r; simp only [blsOf] at h; cases h; rw [r]; rfl
  | d :: ds, vs, bs, r, h => by
    unfold RpL at r
    obtain ⟨v, vs', e, r1, r2⟩ := r
    cases d <;> simp only [blsOf] at h <;> try (cases h; done)
    simp only [Option.map_eq_some_iff] at h
    obtain ⟨b', h1, h2⟩ := h
    rw [e, ← h2, rp_bl r1, blsOf_at r2 h1]; rfl
theorem all_v : CallV K mg (rAll K) gAll := by
  intro w S H xs ds Q E s r h
  unfold gAll at h
  split at h
  · split at h
    · rename_i bs h1
      obtain ⟨v, rfl, r1⟩ := r.one_inv
      simp only [Option.bind_eq_some_iff] at h1
      obtain ⟨ys, h2, h3⟩ := h1
      obtain ⟨a, vs, e1, t1, q1⟩ := seqL_at s r1 h2
      exact ⟨a, bs, by rw [e1], by rw [← blsOf_at q1 h3]; exact t1, h.ret s rp_b⟩
    · exact h.elim
  · exact h.elim
theorem RpL.two_inv {w : Wd} {H : Hp} {d e : D} {vs : List V} (h : RpL K mg w H [d, e] vs) : ∃ v u, vs = [v, u] ∧ Rp K mg w H d v ∧ Rp K mg w H e u := by
  unfold RpL at h
  obtain ⟨v, r, e1, h1, h2⟩ := h
  obtain ⟨u, rfl, h3⟩ := h2.one_inv
  exact ⟨v, u, e1, h1, h3⟩
end
def tyD (S : Store) : D → Option String
  | .non => some "NoneType"
  | .bl _ => some "bool"
  | .int _ => some "int"
  | .str _ => some "str"
  | .tup _ => some "tuple"
  | .lst _ => some "list"
  | .fls _ => some "list"
  | .dic _ _ => some "dict"
  | .loc n => (cellOf S n).map fun _ => "list"
  | _ => none
def isiB (t T : String) : Bool := t == T || (t == "bool" && T == "int")
def fIsi (T : String) (f : FE) : FE := fun ρ S => (f ρ S).bnd fun x S1 => match tyD S1 x with
  | some t => .ok (.bl (isiB t T)) S1
  | none => .no
theorem tyX_of {K : PySem.W.Frag} {mg : Str → Option Value} {w : Wd} {H : Hp} {S : Store} {d : D} {v : V} {t : String} (s : Sto K mg w S H) (r : Rp K mg w H d v) (h : tyD S d = some t) : TyX K H v (.type t) := by
  cases d with
  | non => simp only [tyD] at h; cases h; rw [rp_non r]; exact .base .non
  | bl b => simp only [tyD] at h; cases h; rw [rp_bl r]; exact .base (.bl b)
  | int b => simp only [tyD] at h; cases h; rw [rp_int r]; exact .base (.int b)
  | str b => simp only [tyD] at h; cases h; rw [rp_str r]; exact .base (.str b)
  | tup ds =>
    simp only [tyD] at h; cases h
    unfold Rp at r
    obtain ⟨a, xs, e, t, _⟩ := r
    rw [e]
    rcases t with t | ⟨o, its, n, h1, h2, _⟩
    · exact .base (.tup t.1)
    · exact .kTuple h1 h2
  | lst ds =>
    simp only [tyD] at h; cases h
    unfold Rp at r
    obtain ⟨a, xs, e, t, _⟩ := r
    rw [e]; exact .base (.lst t)
  | dic ks ds =>
    simp only [tyD] at h; cases h
    unfold Rp at r
    obtain ⟨a, xs, e, t, _⟩ := r
    rw [e]; exact .base (.dK t)
  | loc n =>
    simp only [tyD, Option.map_eq_some_iff] at h
    obtain ⟨ds, h1, h2⟩ := h
    obtain ⟨a, xs, h3, h4, h5⟩ := cellOf_at s h1
    unfold Rp at r
    rw [r.2 a h3, ← h2]
    rcases h4 with h4 | ⟨o, h4⟩
    · exact .base (.lst h4)
    · exact .base (.frz h4)
  | fls ds =>
    simp only [tyD] at h; cases h
    unfold Rp at r
    obtain ⟨a, xs, e, t, _⟩ := r
    rw [e]
    rcases t with ⟨o, t, _⟩ | ⟨o, its, n, h1, h2, _⟩
    · exact .base (.frz t)
    · exact .kList h1 h2
  | ins _ _ _ => simp [tyD] at h
  | glo _ => simp [tyD] at h
  | exn _ => simp [tyD] at h
  | exo _ _ _ => simp [tyD] at h
  | lam _ _ _ => simp [tyD] at h
theorem kitB_ok {t T : String} (ht : t ∈ ["NoneType", "bool", "int", "str", "tuple", "list", "dict"]) (hT : T ∈ ["bool", "int", "str", "tuple", "list", "dict"]) : kitB t T = some (isiB t T) := by
  have key : ∀ t ∈ ["NoneType", "bool", "int", "str", "tuple", "list", "dict"], ∀ T ∈ ["bool", "int", "str", "tuple", "list", "dict"], kitB t T = some (isiB t T) := by decide +kernel
  exact key t ht T hT
theorem tyD_mem {S : Store} {d : D} {t : String} (h : tyD S d = some t) : t ∈ ["NoneType", "bool", "int", "str", "tuple", "list", "dict"] := by
  cases d <;> simp only [tyD, Option.map_eq_some_iff] at h <;> first | (cases h; decide) | (obtain ⟨_, _, rfl⟩ := h; decide) | (cases h)
section
variable {X : Cx} {W : WX} {a b e : Expr} {es : List Expr} {fa fb : FE} {fs : FA} {pos : Pos}
theorem q_isi {T : String} {x : Str} {p q : Pos} (hg : Gl X "isinstance") (hm : X.mg "isinstance" = none) (hgT : Gl X x) (hmT : X.mg x = none) (hvT : bootBuiltins x = some (.type T)) (hT : T ∈ ["bool", "int", "str", "tuple", "list", "dict"]) (ha : PE X a (tF X W fa))
    (hn : x ≠ "__name__" := by decide) (hd : (x == ("__debug__" : Str)) = false := by decide)
    (h1 : starEach [a, .Name x q] X.env = (false, eval a X.env) :: starEach [.Name x q] X.env := by rfl) (h2 : starEach [.Name x q] X.env = (false, eval (.Name x q) X.env) :: starEach [] X.env := by rfl) (hpl : (backTo pos (starEach [.Name x q] X.env)).any (·.1) = false := by rfl) :
    PE X (.Call (.Name "isinstance" p) [a, .Name x q] [] pos) (tF X W (fIsi T fa)) := by
  have hx : PE X (.Name x q) (tC (.ty T)) := pe_bltn hgT hmT hvT rfl hn hd
  refine PE.wk (pe_callB call_isi hg hm (by decide +kernel) (pa_cons ha (pa_cons hx pa_nil h2) h1) (by decide) (by decide) h1 hpl) fun σ H Q ⟨w, ρ, S, s, en, h⟩ => ?_
  refine ⟨w, ρ, S, s, en, (End.bind (R := fun w H => Rp X.K X.mg w H) h).imp ?_ (fun _ _ _ z => z)⟩
  rintro v H1 ⟨w1, S1, d, e1, s1, r1, h3⟩
  split at h3
  · rename_i t ht
    exact ⟨v, .ty T, .type t, .type T, isiB t T, rfl, .ty T, tyX_of s1 r1 ht, kit_ty (kitB_ok (tyD_mem ht) hT), h3.ret s1 rp_b⟩
  · exact h3.elim
end
section
variable {K : PySem.W.Frag} {mg : Str → Option Value} {w : Wd} {H : Hp} {S : Store}
theorem Ext.write {n : Nat} {l : Addr} {o : HO} (hw : w.φ[n]? = some (some l)) : Ext w H w (upd H l o) := ⟨fun a u e n => by
  have : a ≠ l := fun z => by subst z; exact n (List.mem_of_getElem? hw)
  rw [upd_ne this]; exact e, Nat.le_refl _, fun _ _ h _ => h, fun _ h => .inl h, rfl⟩
theorem Sto.write {n : Nat} {l : Addr} {ds : List D} {xs : List V} (s : Sto K mg w S H) (hw : w.φ[n]? = some (some l)) (hn : n < S.length) (r : RpL K mg w H ds xs) : Sto K mg w (S.set n (.lst ds)) (upd H l (.lst xs)) := by
  have ex : Ext w H w (upd H l (.lst xs)) := Ext.write hw
  refine ⟨by rw [List.length_set]; exact s.len, s.nd, fun a ha => ⟨upd_some (s.ap a ha).1, (s.ap a ha).2⟩, fun m c hc => ?_⟩
  by_cases e : m = n
  · subst e
    rw [List.getElem?_set_self hn] at hc
    cases hc
    exact ⟨l, xs, hw, upd_same, RpL.ext ex _ _ r⟩
  · rw [List.getElem?_set_ne (Ne.symm e)] at hc
    refine CellR.ext ex (fun a ha => ⟨ha, ?_⟩) id (s.cell m c hc)
    have : a ≠ l := fun z => by subst z; exact e (s.nd m n a ha hw)
    rw [upd_ne this]
theorem cellM_lt {n : Nat} {ds : List D} (h : cellM S n = some ds) : n < S.length := by
  unfold cellM at h
  split at h
  · rename_i e he; exact (List.getElem?_eq_some_iff.mp he).1
  · cases h
/-- a cell is written -/
theorem wrote {n : Nat} {ds ds' : List D} {xs' : List V} {x : V} {Q : VK} {E : Value → Option Addr → Hp → Prop} {d : D} {v : V} (s : Sto K mg w S H) (r : Rp K mg w H (.loc n) x) (h : cellM S n = some ds) (r' : RpL K mg w H ds' xs') (rv : Rp K mg w H d v)
    (he : End K mg (fun w H => Rp K mg w H) w H (.ok d (S.set n (.lst ds'))) Q E) : ∀ l, x = .ref l → Q v (upd H l (.lst xs')) := fun l el => by
  obtain ⟨a, xs, h1, h2, h3⟩ := cellM_at s h
  have e := r.2 a h1
  rw [el] at e; cases e
  exact he w _ v (Ext.write h1) (s.write h1 (cellM_lt h) r') (Rp.ext (Ext.write h1) _ _ rv)
end
def MtV (K : PySem.W.Frag) (mg : Str → Option Value) (r : V → List V → Hp → VK → Prop) (g : D → List D → Store → RE D) : Prop :=
  ∀ (w : Wd) (S : Store) (H : Hp) (x : V) (xs : List V) (d : D) (ds : List D) (Q : VK) (E : Value → Option Addr → Hp → Prop), Sto K mg w S H → Rp K mg w H d x → RpL K mg w H ds xs → End K mg (fun w H => Rp K mg w H) w H (g d ds S) Q E → r x xs H Q
def gAppend (x : D) (ds : List D) (S : Store) : RE D := match x, ds with
  | .loc n, [y] => (match cellM S n with
    | some xs => if xs.length < sizeLine then .ok .non (S.set n (.lst (xs ++ [y]))) else .no
    | none => .no)
  | _, _ => .no
def gExtend (x : D) (ds : List D) (S : Store) : RE D := match x, ds with
  | .loc n, [y] => (match cellM S n, seqM S y with
    | some xs, some ys => if xs.length + ys.length ≤ sizeLine then .ok .non (S.set n (.lst (xs ++ ys))) else .no
    | _, _ => .no)
  | _, _ => .no
def gPop0 (x : D) (ds : List D) (S : Store) : RE D := match x, ds with
  | .loc n, [] => (match cellM S n with
    | some xs => (match xs[xs.length - 1]? with
      | some y => .ok y (S.set n (.lst xs.dropLast))
      | none => .no)
    | none => .no)
  | _, _ => .no
section
variable {K : PySem.W.Frag} {mg : Str → Option Value}
theorem RpL.dropLast {w : Wd} {H : Hp} {ds : List D} {xs : List V} (r : RpL K mg w H ds xs) : RpL K mg w H ds.dropLast xs.dropLast := by
  rw [List.dropLast_eq_take, List.dropLast_eq_take, r.length]; exact r.take _
theorem RpL.erase {w : Wd} {H : Hp} : ∀ {ds : List D} {xs : List V} (k : Nat), RpL K mg w H ds xs → RpL K mg w H (ds.eraseIdx k) (xs.eraseIdx k)
  | [], xs, k, h => by unfold RpL at h; rw [h]; simp; unfold RpL; rfl
  | d :: ds, xs, 0, h => by
    unfold RpL at h
    obtain ⟨v, r, e1, h1, h2⟩ := h
    rw [e1]; exact h2
  | d :: ds, xs, k + 1, h => by
    unfold RpL at h
    obtain ⟨v, r, e1, h1, h2⟩ := h
    rw [e1, List.eraseIdx_cons_succ, List.eraseIdx_cons_succ]
    exact RpL.cons h1 (RpL.erase k h2)
theorem RpL.reverse {w : Wd} {H : Hp} : ∀ {ds : List D} {xs : List V}, RpL K mg w H ds xs → RpL K mg w H ds.reverse xs.reverse
  | [], xs, h => by unfold RpL at h; rw [h]; exact RpL.nil
  | d :: ds, xs, h => by
    unfold RpL at h
    obtain ⟨v, r, e1, h1, h2⟩ := h
    rw [e1, List.reverse_cons, List.reverse_cons]
    exact (RpL.reverse h2).append (RpL.one h1)
theorem append_v : MtV K mg rAppend gAppend := by
  intro w S H x xs d ds Q E s r1 r2 h
  unfold gAppend at h
  split at h
  · rename_i n y
    split at h
    · rename_i zs hz
      split at h
      · rename_i hl
        obtain ⟨v, rfl, r3⟩ := r2.one_inv
        obtain ⟨l, vs, e1, t1, q1⟩ := seqM_at (S := S) (d := .loc n) s r1 hz
        exact ⟨l, vs, v, e1, rfl, t1, by rw [← q1.length]; exact hl, wrote s r1 hz (q1.append (RpL.one r3)) rp_n h l e1⟩
      · exact h.elim
    · exact h.elim
  · exact h.elim
theorem extend_v : MtV K mg rExtend gExtend := by
  intro w S H x xs d ds Q E s r1 r2 h
  unfold gExtend at h
  split at h
  · rename_i n y
    split at h
    · rename_i zs ys hz hy
      split at h
      · rename_i hl
        obtain ⟨v, rfl, r3⟩ := r2.one_inv
        obtain ⟨l, vs, e1, t1, q1⟩ := seqM_at (S := S) (d := .loc n) s r1 hz
        obtain ⟨b, us, e2, t2, q2⟩ := seqM_at s r3 hy
        exact ⟨l, b, vs, us, e1, by rw [e2], t1, t2, by rw [← q1.length, ← q2.length]; exact hl, wrote s r1 hz (q1.append q2) rp_n h l e1⟩
      · exact h.elim
    · exact h.elim
  · exact h.elim
theorem pop0_v : MtV K mg rPop gPop0 := by
  intro w S H x xs d ds Q E s r1 r2 h
  unfold gPop0 at h
  split at h
  · rename_i n
    split at h
    · rename_i zs hz
      split at h
      · rename_i y hy
        obtain ⟨l, vs, e1, t1, q1⟩ := seqM_at (S := S) (d := .loc n) s r1 hz
        obtain ⟨u, h3, h4⟩ := q1.get hy
        unfold RpL at r2
        exact ⟨l, vs, u, e1, r2, t1, by rw [← q1.length]; exact h3, wrote s r1 hz q1.dropLast h4 h l e1⟩
      · exact h.elim
    · exact h.elim
  · exact h.elim
end
/-- o.m(..), o a list -/
def fMth (g : D → List D → Store → RE D) (o : FE) (a : FA) : FE := fun ρ S => (o ρ S).bnd fun x S1 => match seqL S1 x with
  | some _ => (a ρ S1).bnd fun ds S2 => g x ds S2
  | none => .no
section
variable {X : Cx} {W : WX} {o e : Expr} {es : List Expr} {fo : FE} {fs : FA} {name : Str} {apos cpos : Pos} {id : String} {r : V → List V → Hp → VK → Prop} {g : D → List D → Store → RE D}
theorem q_mth (slot : Slot "list" name id) (hty : typeOf (.builtin id) = pure (.type "method_descriptor")) (hm : MtR X id r) (hv : MtV X.K X.mg r g) (ho : PE X o (tF X W fo)) (ha : PA X (e :: es) (tA X W fs))
    (hbase : attributeBase o name X.env (eval o X.env) = eval o X.env := by rfl)
    (hfew : ((backTo cpos (starEach (e :: es) X.env)).all (fun x => !x.1) && (backToKw cpos (keywordEach [] X.env)).all (fun x => x.1.isSome)
      && decide ((e :: es).length + ([] : List Keyword).length + (if ([] : List Keyword).isEmpty then 0 else 1) < 30)) = true := by rfl)
    (hline : (apos.endLine == cpos.line) = true := by rfl) (hs : starEach (e :: es) X.env = (false, eval e X.env) :: starEach es X.env := by rfl) (hplain : (backTo cpos (starEach es X.env)).any (·.1) = false := by rfl) :
    PE X (.Call (.Attribute o name apos) (e :: es) [] cpos) (tF X W (fMth g fo fs)) :=
  PE.wk (pe_bm PySem.F.plainAttrs_list slot hty hm ho ha hbase hfew hline hs hplain) fun σ H Q ⟨w, ρ, S, s, en, h⟩ => by
    refine ⟨w, ρ, S, s, en, (End.bind (R := fun w H => Rp X.K X.mg w H) h).imp ?_ (fun _ _ _ z => z)⟩
    rintro x H1 ⟨w1, S1, d, e1, s1, r1, h1⟩
    split at h1
    · rename_i ys hy
      obtain ⟨a, vs, e2, t2, q2⟩ := seqL_at s1 r1 hy
      refine ⟨by rw [e2]; exact .inl ⟨rfl, vs, t2⟩, w1, ρ, S1, s1, en.ext e1, (End.bind (R := fun w H => RpL X.K X.mg w H) h1).imp ?_ (fun _ _ _ z => z)⟩
      rintro us H2 ⟨w2, S2, ds, e3, s2, r2, h2⟩
      exact hv w2 S2 H2 x us d ds Q _ s2 (Rp.ext e3 _ _ r1) r2 h2
    · exact h1.elim
theorem q_mth0 (slot : Slot "list" name id) (hty : typeOf (.builtin id) = pure (.type "method_descriptor")) (hm : MtR X id r) (hv : MtV X.K X.mg r g) (ho : PE X o (tF X W fo))
    (hbase : attributeBase o name X.env (eval o X.env) = eval o X.env := by rfl) (hline : (apos.endLine == cpos.line) = true := by rfl) :
    PE X (.Call (.Attribute o name apos) [] [] cpos) (tF X W (fMth g fo fNil)) :=
  PE.wk (pe_bm0 PySem.F.plainAttrs_list slot hty hm ho hbase hline) fun σ H Q ⟨w, ρ, S, s, en, h⟩ => by
    refine ⟨w, ρ, S, s, en, (End.bind (R := fun w H => Rp X.K X.mg w H) h).imp ?_ (fun _ _ _ z => z)⟩
    rintro x H1 ⟨w1, S1, d, e1, s1, r1, h1⟩
    split at h1
    · rename_i ys hy
      obtain ⟨a, vs, e2, t2, q2⟩ := seqL_at s1 r1 hy
      exact ⟨by rw [e2]; exact .inl ⟨rfl, vs, t2⟩, hv w1 S1 H1 x [] d [] Q _ s1 r1 RpL.nil h1⟩
    · exact h1.elim
end
end Kw
namespace Kw
open PySem PySem.Spec PyProof.Rows L2
abbrev FF := List D → Store → RE D
def spF (K : PySem.W.Frag) (mg : Str → Option Value) (m : Nat) (f : FF) : Sp := fun vs H Q E => ∃ w S ds, Sto K mg w S H ∧ RpL K mg w H ds vs ∧ ds.length = m ∧ End K mg (fun w H => Rp K mg w H) w H (f ds S) Q E
/-- room, and nothing is being shown -/
structure RoomG (k : Nat) (A : Around) : Prop where
  rm : Room k A
  gd : A.guards = some []
theorem RoomG.down {k : Nat} {A : Around} (r : RoomG (k + 1) A) (env : Env) : RoomG k (A.deeper env) := ⟨r.rm.deeper env, r.gd⟩
/-- a def's promise where nothing is being shown -/
structure FnG (P : Program) (w : World) (K : PySem.W.Frag) (mg : Str → Option Value) (base : Heap) (k : Nat) (a : Addr) (fd : FuncData) (ps : List Str) (sp : Sp) : Prop where
  size : ∀ vs H Q E, sp vs H Q E → vs.length = ps.length
  runs : ∀ (A : Around) (stk : List Env) (s : Shared) (H : Hp) (ar : Args) (us : List Value) (vs : List V) (Q : VK) (E : XK), RoomG k A → Env0 P w K mg base A stk s H → BindsTo s fd ar (ps.zip us) → Vals vs us → sp vs H Q E →
    codeAny (model P w) A (.call (.ref a) ar) (CR (L2.CX P w) stk P w H s Q E) s
theorem FnG.weak {P : Program} {w : World} {K : PySem.W.Frag} {mg : Str → Option Value} {base : Heap} {k : Nat} {a : Addr} {fd : FuncData} {ps : List Str} {sp sp' : Sp} (F : FnG P w K mg base k a fd ps sp) (h : ∀ vs H Q E, sp' vs H Q E → sp vs H Q E) : FnG P w K mg base k a fd ps sp' :=
  ⟨fun vs H Q E q => F.size vs H Q E (h _ _ _ _ q), fun A stk s H ar us vs Q E hr e0 hb hv hs => F.runs A stk s H ar us vs Q E hr e0 hb hv (h _ _ _ _ hs)⟩
/-- the name x stands for a def that computes f -/
def Cal (P : Program) (w : World) (K : PySem.W.Frag) (mg : Str → Option Value) (base : Heap) (k : Nat) (x : Str) (f : FF) : Prop :=
  ∃ a fd ps, FnG P w K mg base k a fd ps (spF K mg ps.length f) ∧ mg x = some (.ref a) ∧ PySem.W.keepIn K (.ref a) = true ∧ Binds K fd ps [] ∧ (∀ ds S, ds.length ≠ ps.length → f ds S = .no) ∧ ps = fd.params.args.map (·.arg) ∧ ∃ oc od osl, K.lookup a = some ⟨oc, od, .func fd, osl⟩
section
variable {X : Cx} {W : WX} {e : Expr} {es : List Expr} {fs : FA} {pos : Pos} {k : Nat} {x : Str} {f : FF} {p : Pos}
theorem run_g {a : Addr} {fd : FuncData} {ps : List Str} {sp : Sp} {pins : List (Addr × Obj)} {σ : L2.St} {H : Hp} {s : Shared} {Q : VK} {us : List Value} {vs : List V} (F : FnG X.prog X.w X.K X.mg X.base k a fd ps sp) (hr : RoomG k X.A) (tk : Takes X W)
    (I : Inv X pins σ H s) (r : Vals vs us) (hbd : BindsTo s fd ⟨us, []⟩ (ps.zip us)) (h : sp vs H Q (WE W σ)) : wpAny (model X.prog X.w) X.A (call (.ref a) us) (EP X pins σ Q) X.xe s :=
  wpAny_call (codeAny_mono (F.runs X.A X.stack s H ⟨us, []⟩ us vs Q (WE W σ) hr I.env0 hbd r h) fun res s' hq => by
    match res, hq with
    | .error e, hq => exact passAt tk σ pins H s e s' I hq
    | .ok (.ret u), hq => exact I.after hq
    | .ok .next, hq => exact hq.elim
    | .ok .brk, hq => exact hq.elim
    | .ok .cont, hq => exact hq.elim)
theorem binds0 {K : PySem.W.Frag} {fd : FuncData} {ps : List Str} (hb : Binds K fd ps []) {s : Shared} {us : List Value} (kin : K.In s.heap) (hl : us.length = ps.length) : BindsTo s fd ⟨us, []⟩ (ps.zip us) := by
  have z := hb s us kin (by simpa using hl)
  simpa using z
theorem q_call (C : Cal X.prog X.w X.K X.mg X.base k x f) (hr : RoomG k X.A) (tk : Takes X W) (hg : Gl X x) (ha : PA X (e :: es) (tA X W fs)) (hdb : (x == ("__debug__" : Str)) = false := by decide)
    (he : starEach (e :: es) X.env = (false, eval e X.env) :: starEach es X.env := by rfl) (hpl : (backTo pos (starEach es X.env)).any (·.1) = false := by rfl) : PE X (.Call (.Name x p) (e :: es) [] pos) (tF X W (fArg f fs)) := by
  obtain ⟨a, fd, ps, F, hm, hk, hb, ar, _⟩ := C
  refine ⟨fun pins s σ H Q I ⟨w, ρ, S, s0, en, h⟩ => wpAny_Call_Name_kw (ld_glob I hg hm ?_ hdb)⟩
  refine PySem.W.callWith_K (h₀ := X.base) I.ok.mod.kin hk (thn (ha.run pos pins s σ H (fun vs H1 => spF X.K X.mg ps.length f vs H1 Q (WE W σ)) I
    ⟨w, ρ, S, s0, en, (End.bind (R := fun w H => RpL X.K X.mg w H) h).imp ?_ (fun _ _ _ z => z)⟩) fun us s1 ⟨vs, H1, I1, r, q⟩ => ⟨I1.kIn, run_g (us := us) F hr tk I1 r (binds0 (us := us) hb I1.kIn (by rw [← r.length]; exact F.size _ _ _ _ q)) q⟩) he hpl
  rintro vs H1 ⟨w1, S1, ds, e1, s1, r1, h1⟩
  refine ⟨w1, S1, ds, s1, r1, ?_, h1⟩
  apply Classical.byContradiction
  intro hn
  rw [ar ds S1 hn] at h1
  exact h1
end
inductive RS where
  | nx (ρ : FEnv) (S : Store) | rt (d : D) (S : Store) | bk (ρ : FEnv) (S : Store) | ct (ρ : FEnv) (S : Store) | ex (x : Ex) (ρ : FEnv) (S : Store) | no
abbrev FS := FEnv → Store → RS
def RE.toS {α : Type} (m : RE α) (ρ : FEnv) (k : α → Store → RS) : RS := match m with
  | .ok a S => k a S
  | .ex x S => .ex x ρ S
  | .no => .no
def RS.bnd (m : RS) (k : FS) : RS := match m with
  | .nx ρ S => k ρ S
  | r => r
def EndS (K : PySem.W.Frag) (mg : Str → Option Value) (w : Wd) (H : Hp) (r : RS) (D : Ends) (W : WX) : Prop := match r with
  | .nx ρ S => ∀ w' H' σ', Ext w H w' H' → Sto K mg w' S H' → EnvR K mg w' H' ρ σ' → D.nx σ' H'
  | .rt d S => ∀ w' H' v, Ext w H w' H' → Sto K mg w' S H' → Rp K mg w' H' d v → D.rt v H'
  | .bk ρ S => ∀ w' H' σ', Ext w H w' H' → Sto K mg w' S H' → EnvR K mg w' H' ρ σ' → D.bk σ' H'
  | .ct ρ S => ∀ w' H' σ', Ext w H w' H' → Sto K mg w' S H' → EnvR K mg w' H' ρ σ' → D.ct σ' H'
  | .ex x ρ S => ∀ w' H' σ' c od, Ext w H w' H' → Sto K mg w' S H' → EnvR K mg w' H' ρ σ' → ExR K mg w' H' x c od → W c od σ' H'
  | .no => False
def tS (X : Cx) (W : WX) (f : FS) : TS := fun D σ H => ∃ w ρ S, Sto X.K X.mg w S H ∧ EnvR X.K X.mg w H ρ σ ∧ EndS X.K X.mg w H (f ρ S) D W
section
variable {K : PySem.W.Frag} {mg : Str → Option Value} {w w1 : Wd} {H H1 : Hp} {r : RS} {D D' : Ends} {W W' : WX} {ρ : FEnv} {σ : L2.St} {S : Store}
theorem EndS.on (x : Ext w H w1 H1) (h : EndS K mg w H r D W) : EndS K mg w1 H1 r D W := by
  unfold EndS at h ⊢
  split
  · exact fun w' H' b e s k => h w' H' b (x.trans e) s k
  · exact fun w' H' b e s k => h w' H' b (x.trans e) s k
  · exact fun w' H' b e s k => h w' H' b (x.trans e) s k
  · exact fun w' H' b e s k => h w' H' b (x.trans e) s k
  · exact fun w' H' b c od e s k l => h w' H' b c od (x.trans e) s k l
  · exact h
theorem EndS.imp (h : EndS K mg w H r D W) (h1 : ∀ σ H, D.nx σ H → D'.nx σ H) (h2 : ∀ v H, D.rt v H → D'.rt v H) (h3 : ∀ σ H, D.bk σ H → D'.bk σ H) (h4 : ∀ σ H, D.ct σ H → D'.ct σ H) (h5 : ∀ c od σ H, W c od σ H → W' c od σ H) : EndS K mg w H r D' W' := by
  unfold EndS at h ⊢
  split
  · exact fun w' H' b e s k => h1 _ _ (h w' H' b e s k)
  · exact fun w' H' b e s k => h2 _ _ (h w' H' b e s k)
  · exact fun w' H' b e s k => h3 _ _ (h w' H' b e s k)
  · exact fun w' H' b e s k => h4 _ _ (h w' H' b e s k)
  · exact fun w' H' b c od e s k l => h5 _ _ _ _ (h w' H' b c od e s k l)
  · exact h
theorem EndS.of {α β : Type} {R : Wd → Hp → α → β → Prop} {m : RE α} {k : α → Store → RS} (h : EndS K mg w H (m.toS ρ k) D W) (en : EnvR K mg w H ρ σ) :
    End K mg R w H m (fun b H1 => ∃ w1 S1 a, Ext w H w1 H1 ∧ Sto K mg w1 S1 H1 ∧ R w1 H1 a b ∧ EndS K mg w1 H1 (k a S1) D W) (fun c od H' => W c od σ H') := by
  cases m with
  | ok a S1 =>
    have h' : EndS K mg w H (k a S1) D W := h
    exact fun w' H' b e s kk => ⟨w', S1, a, e, s, kk, h'.on e⟩
  | ex x S1 => exact fun w' H' c od e s kk => h w' H' σ c od e s (en.ext e) kk
  | no => exact h
theorem EndS.bind {k : FS} (h : EndS K mg w H (r.bnd k) D W) : EndS K mg w H r { D with nx := fun σ H1 => ∃ w1 ρ1 S1, Sto K mg w1 S1 H1 ∧ EnvR K mg w1 H1 ρ1 σ ∧ EndS K mg w1 H1 (k ρ1 S1) D W } W := by
  cases r with
  | nx ρ1 S1 =>
    have h' : EndS K mg w H (k ρ1 S1) D W := h
    exact fun w' H' b e s kk => ⟨w', ρ1, S1, s, kk, h'.on e⟩
  | _ => exact h
theorem EnvR.set {i : Nat} {d : Kw.D} {v : V} (en : EnvR K mg w H ρ σ) (r : Rp K mg w H d v) : EnvR K mg w H (ρ.set i (some d)) (σ.set i (some v)) := by
  refine ⟨by rw [List.length_set, List.length_set]; exact en.len, fun j d' h => ?_⟩
  by_cases e : j = i
  · subst e
    have hj : j < ρ.length := by
      have := (List.getElem?_eq_some_iff.mp h).1
      rwa [List.length_set] at this
    rw [List.getElem?_set_self hj] at h
    cases h
    exact ⟨v, by rw [List.getElem?_set_self (en.len ▸ hj)], r⟩
  · rw [List.getElem?_set_ne (Ne.symm e)] at h
    obtain ⟨u, h1, h2⟩ := en.at_ j d' h
    exact ⟨u, by rw [List.getElem?_set_ne (Ne.symm e)]; exact h1, h2⟩
theorem EnvR.wipe1 {i : Nat} (en : EnvR K mg w H ρ σ) : EnvR K mg w H (ρ.set i none) (σ.set i none) := by
  refine ⟨by rw [List.length_set, List.length_set]; exact en.len, fun j d' h => ?_⟩
  by_cases e : j = i
  · subst e
    have hj : j < ρ.length := by
      have := (List.getElem?_eq_some_iff.mp h).1
      rwa [List.length_set] at this
    rw [List.getElem?_set_self hj] at h
    cases h
  · rw [List.getElem?_set_ne (Ne.symm e)] at h
    obtain ⟨u, h1, h2⟩ := en.at_ j d' h
    exact ⟨u, by rw [List.getElem?_set_ne (Ne.symm e)]; exact h1, h2⟩
theorem EndS.nx' {ρ' : FEnv} {σ' : L2.St} (h : EndS K mg w H (.nx ρ' S) D W) (s : Sto K mg w S H) (en : EnvR K mg w H ρ' σ') : D.nx σ' H := h w H σ' Ext.refl s en
theorem EndS.rt' {d : Kw.D} {v : V} (h : EndS K mg w H (.rt d S) D W) (s : Sto K mg w S H) (r : Rp K mg w H d v) : D.rt v H := h w H v Ext.refl s r
end
def sNil : FS := fun ρ S => .nx ρ S
def sSeq (f g : FS) : FS := fun ρ S => (f ρ S).bnd g
def sExp (f : FE) : FS := fun ρ S => (f ρ S).toS ρ fun _ S1 => .nx ρ S1
def sRet (f : FE) : FS := fun ρ S => (f ρ S).toS ρ fun d S1 => .rt d S1
def sRetN : FS := fun _ S => .rt .non S
def sSet (i : Nat) (f : FE) : FS := fun ρ S => (f ρ S).toS ρ fun d S1 => .nx (ρ.set i (some d)) S1
def sIf (c : FT) (a b : FS) : FS := fun ρ S => (c ρ S).toS ρ fun k S1 => match k with
  | true => a ρ S1
  | false => b ρ S1
section
variable {X : Cx} {W : WX} {st : Stmt} {rest : List Stmt} {f g : FS} {e : Expr} {fe : FE} {pos : Pos}
theorem q_snil : PSs X [] (tS X W sNil) := PSs.wk pss_nil fun D σ H ⟨w, ρ, S, s, en, h⟩ => h.nx' s en
theorem q_seq (h1 : PS X st (tS X W f)) (h2 : PSs X rest (tS X W g)) : PSs X (st :: rest) (tS X W (sSeq f g)) :=
  PSs.wk (pss_cons h1 h2) fun D σ H ⟨w, ρ, S, s, en, h⟩ => ⟨w, ρ, S, s, en, h.bind⟩
theorem q_last (h1 : PS X st (tS X W f)) : PSs X [st] (tS X W f) := pss_one h1
theorem q_expr (he : PE X e (tF X W fe)) (hs : swapsWith e none pos.line X.env = pure false := by rfl) : PS X (.Expr e pos) (tS X W (sExp fe)) :=
  PS.wk (ps_expr he hs) fun D σ H ⟨w, ρ, S, s, en, h⟩ => ⟨w, ρ, S, s, en, (h.of (R := fun w H => Rp X.K X.mg w H) en).imp (fun v H1 ⟨w1, S1, d, e1, s1, r1, h1⟩ => h1.nx' s1 (en.ext e1)) (fun _ _ _ z => z)⟩
theorem q_ret (he : PE X e (tF X W fe)) : PS X (.Return (some e) pos) (tS X W (sRet fe)) :=
  PS.wk (ps_ret he) fun D σ H ⟨w, ρ, S, s, en, h⟩ => ⟨w, ρ, S, s, en, (h.of (R := fun w H => Rp X.K X.mg w H) en).imp (fun v H1 ⟨w1, S1, d, e1, s1, r1, h1⟩ => h1.rt' s1 r1) (fun _ _ _ z => z)⟩
theorem q_set {i : Nat} {x : Str} {pos' : Pos} (hN : X.N.Nodup) (hi : X.N[i]? = some x) (hx : Loc X.env.scope x) (he : PE X e (tF X W fe)) (hs : swapsWith e (some (.Name x pos')) pos.line X.env = pure false := by rfl) (hf : X.fn x = true ∨ X.env.scope.names.lookup x = some .local := by first | exact .inl rfl | exact .inr rfl | assumption) :
    PS X (.Assign [.Name x pos'] e pos) (tS X W (sSet i fe)) :=
  PS.wk (ps_set hN hi hx he hs hf) fun D σ H ⟨w, ρ, S, s, en, h⟩ => ⟨w, ρ, S, s, en, (h.of (R := fun w H => Rp X.K X.mg w H) en).imp (fun v H1 ⟨w1, S1, d, e1, s1, r1, h1⟩ => h1.nx' s1 ((en.ext e1).set r1)) (fun _ _ _ z => z)⟩
theorem q_ifS {c : Expr} {a b : List Stmt} {tc : FT} (hc : PT X c (tT X W tc)) (ha : PSs X a (tS X W f)) (hb : PSs X b (tS X W g)) : PS X (.If c a b pos) (tS X W (sIf tc f g)) :=
  PS.wk (ps_if hc ha hb) fun D σ H ⟨w, ρ, S, s, en, h⟩ => ⟨w, ρ, S, s, en, (h.of (R := fun _ _ (a b : Bool) => b = a) en).imp (fun v H1 ⟨w1, S1, d, e1, s1, r1, h1⟩ => by
    cases r1
    cases v with
    | true => rw [if_pos rfl]; exact ⟨w1, ρ, S1, s1, en.ext e1, h1⟩
    | false => rw [if_neg (by decide)]; exact ⟨w1, ρ, S1, s1, en.ext e1, h1⟩) (fun _ _ _ z => z)⟩
end
/-- name op= e: two whole numbers -/
def sAug (i : Nat) (g : D → D → Store → RE D) (f : FE) : FS := fun ρ S => match ρ[i]? with
  | some (some x) => (f ρ S).toS ρ fun y S1 => (g x y S1).toS ρ fun z S2 => .nx (ρ.set i (some z)) S2
  | _ => .no
def gIAdd (x y : D) (S : Store) : RE D := match x, y with
  | .int i, .int j => .ok (.int (i + j)) S
  | _, _ => .no
mutual
/-- no cell from n on is in it -/
def D.under (n : Nat) : D → Bool
  | .tup ds => underL n ds
  | .lst ds => underL n ds
  | .fls ds => underL n ds
  | .dic _ ds => underL n ds
  | .ins _ _ ds => underL n ds
  | .exo _ _ ds => underL n ds
  | .loc m => decide (m < n)
  | _ => true
def underL (n : Nat) : List D → Bool
  | [] => true
  | d :: ds => D.under n d && underL n ds
end
def Cell.under (n : Nat) : Cell → Bool
  | .lst ds => underL n ds
  | .frz ds => underL n ds
  | .dead => true
  | .tab _ => true
  | .sys => true
  | .gst ρ _ => ρ.all fun o => match o with
    | some d => d.under n
    | none => true
  | .ob _ _ ds => underL n ds
/-- the cells ahead of S's end are as they were, or have nothing that was made since -/
def CutOk (S S' : Store) : Prop := S.length ≤ S'.length ∧ ∀ (i : Nat) c, i < S.length → S'[i]? = some c → S[i]? = some c ∨ c.under S.length = true
open Classical in
noncomputable def cutR (S : Store) (r : RE D) : RE D := match r with
  | .ok d S' => if d.under S.length = true ∧ CutOk S S' then .ok d (S'.take S.length) else .no
  | .ex x S' => if underL S.length x.ds = true ∧ CutOk S S' then .ex x (S'.take S.length) else .no
  | .no => .no
def RS.fin (r : RS) : RE D := match r with
  | .nx _ S => .ok .non S
  | .rt d S => .ok d S
  | .ex x _ S => .ex x S
  | _ => .no
/-- a def with m parameters, n names -/
def fnB (m n : Nat) (b : FS) : FF := fun ds S => if ds.length = m then (b (ds.map some ++ List.replicate (n - m) none) S).fin else .no
/-- .. that throws its cells away -/
noncomputable def fnC (m n : Nat) (b : FS) : FF := fun ds S => cutR S (fnB m n b ds S)
section
variable {K : PySem.W.Frag} {mg : Str → Option Value} {w : Wd} {H : Hp} {S S' : Store}
theorem getElem?_of_take {α : Type} {l : List α} {n m : Nat} {x : α} (h : (l.take n)[m]? = some x) : l[m]? = some x ∧ m < n := by
  by_cases e : m < n
  · rw [List.getElem?_take_of_lt e] at h; exact ⟨h, e⟩
  · rw [List.getElem?_eq_none (by rw [List.length_take]; omega)] at h; exact (nomatch h)
def Wd.cut (w : Wd) (n : Nat) : Wd := ⟨w.φ.take n, w.hd⟩
theorem Wd.off_cut {n : Nat} {a : Addr} (h : w.Off a) : (w.cut n).Off a := ⟨fun z => h.1 (List.mem_of_mem_take z), h.2⟩
theorem Tp.cut {n : Nat} {a : Addr} {xs : List V} (h : Tp K w H a xs) : Tp K (w.cut n) H a xs := by
  rcases h with ⟨h, k⟩ | h
  · exact .inl ⟨h, Wd.off_cut k⟩
  · exact .inr h
theorem Fp.cut {n : Nat} {a : Addr} {xs : List V} (h : Fp K w H a xs) : Fp K (w.cut n) H a xs := by
  rcases h with ⟨o, h, k⟩ | h
  · exact .inl ⟨o, h, Wd.off_cut k⟩
  · exact .inr h
mutual
theorem Rp.cut {n : Nat} (hn : n ≤ w.φ.length) : ∀ (d : D) (v : V), d.under n = true → Rp K mg w H d v → Rp K mg (w.cut n) H d v
  | .non, _, _, h => by unfold Rp at h ⊢; exact h
  | .bl _, _, _, h => by unfold Rp at h ⊢; exact h
  | .int _, _, _, h => by unfold Rp at h ⊢; exact h
  | .str _, _, _, h => by unfold Rp at h ⊢; exact h
  | .tup ds, v, b, h => by
    unfold Rp at h ⊢
    obtain ⟨a, xs, e1, t, r⟩ := h
    exact ⟨a, xs, e1, t.cut, RpL.cutW hn ds xs (by simpa [D.under] using b) r⟩
  | .lst ds, v, b, h => by
    unfold Rp at h ⊢
    obtain ⟨a, xs, e1, t, o, r⟩ := h
    exact ⟨a, xs, e1, t, Wd.off_cut o, RpL.cutW hn ds xs (by simpa [D.under] using b) r⟩
  | .dic ks ds, v, b, h => by
    unfold Rp at h ⊢
    obtain ⟨a, vs, e1, t, o, l, r⟩ := h
    exact ⟨a, vs, e1, t, Wd.off_cut o, l, RpL.cutW hn ds vs (by simpa [D.under] using b) r⟩
  | .ins c fs ds, v, b, h => by
    unfold Rp at h ⊢
    obtain ⟨a, C, dx, vs, e1, m, t, o, l, r⟩ := h
    exact ⟨a, C, dx, vs, e1, m, t, Wd.off_cut o, l, RpL.cutW hn ds vs (by simpa [D.under] using b) r⟩
  | .loc m, v, b, h => by
    have hm : m < n := by simpa [D.under] using b
    unfold Rp at h ⊢
    refine ⟨?_, fun a q => h.2 a ?_⟩
    · show m < (w.φ.take n).length
      rw [List.length_take]; omega
    · have q' : (w.φ.take n)[m]? = some (some a) := q
      exact (getElem?_of_take q').1
  | .glo _, _, _, h => by unfold Rp at h ⊢; exact h
  | .exn _, _, _, h => by unfold Rp at h ⊢; exact h
  | .lam i q ob, v, b, h => by
    unfold Rp at h ⊢
    obtain ⟨f, c', pm, ctv, e1, t, o, t2, o2⟩ := h
    exact ⟨f, c', pm, ctv, e1, t, Wd.off_cut o, t2, Wd.off_cut o2⟩
  | .exo c ns ds, v, b, h => by
    unfold Rp at h ⊢
    obtain ⟨a, C, od, vs, e1, m, t, o, z, q, l, r⟩ := h
    exact ⟨a, C, od, vs, e1, m, t, Wd.off_cut o, z, fun d hd => ⟨(q d hd).1, Wd.off_cut (q d hd).2⟩, l, RpL.cutW hn ds vs (by simpa [D.under] using b) r⟩
  | .fls ds, v, b, h => by
    unfold Rp at h ⊢
    obtain ⟨a, xs, e1, t, r⟩ := h
    exact ⟨a, xs, e1, t.cut, RpL.cutW hn ds xs (by simpa [D.under] using b) r⟩
theorem RpL.cutW {n : Nat} (hn : n ≤ w.φ.length) : ∀ (ds : List D) (vs : List V), underL n ds = true → RpL K mg w H ds vs → RpL K mg (w.cut n) H ds vs
  | [], _, _, h => by unfold RpL at h ⊢; exact h
  | d :: ds, vs, b, h => by
    have b' : d.under n = true ∧ underL n ds = true := by simpa [underL] using b
    unfold RpL at h ⊢
    obtain ⟨v, r, e1, h1, h2⟩ := h
    exact ⟨v, r, e1, Rp.cut hn d v b'.1 h1, RpL.cutW hn ds r b'.2 h2⟩
end
mutual
theorem Rp.isUnder : ∀ (d : D) (v : V), Rp K mg w H d v → d.under w.φ.length = true
  | .non, _, h => rfl
  | .bl _, _, h => rfl
  | .int _, _, h => rfl
  | .str _, _, h => rfl
  | .tup ds, v, h => by
    unfold Rp at h
    obtain ⟨a, xs, e1, t, r⟩ := h
    simpa [D.under] using RpL.isUnder ds xs r
  | .lst ds, v, h => by
    unfold Rp at h
    obtain ⟨a, xs, e1, t, o, r⟩ := h
    simpa [D.under] using RpL.isUnder ds xs r
  | .dic ks ds, v, h => by
    unfold Rp at h
    obtain ⟨a, vs, e1, t, o, l, r⟩ := h
    simpa [D.under] using RpL.isUnder ds vs r
  | .ins c fs ds, v, h => by
    unfold Rp at h
    obtain ⟨a, C, dx, vs, e1, m, t, o, l, r⟩ := h
    simpa [D.under] using RpL.isUnder ds vs r
  | .loc m, v, h => by
    unfold Rp at h
    simpa [D.under] using h.1
  | .glo _, _, h => rfl
  | .exn _, _, h => rfl
  | .lam _ _ _, _, h => rfl
  | .exo c ns ds, v, h => by
    unfold Rp at h
    obtain ⟨a, C, od, vs, e1, m, t, o, z, q, l, r⟩ := h
    simpa [D.under] using RpL.isUnder ds vs r
  | .fls ds, v, h => by
    unfold Rp at h
    obtain ⟨a, xs, e1, t, r⟩ := h
    simpa [D.under] using RpL.isUnder ds xs r
theorem RpL.isUnder : ∀ (ds : List D) (vs : List V), RpL K mg w H ds vs → underL w.φ.length ds = true
  | [], _, h => rfl
  | d :: ds, vs, h => by
    unfold RpL at h
    obtain ⟨v, r, e1, h1, h2⟩ := h
    simp [underL, Rp.isUnder d v h1, RpL.isUnder ds r h2]
end
theorem CellR.isUnder {c : Cell} {n : Nat} (h : CellR K mg w H c n) : c.under w.φ.length = true := by
  unfold CellR at h
  split at h
  · obtain ⟨_, _, _, _, h⟩ := h; exact RpL.isUnder _ _ h
  · obtain ⟨_, _, _, _, _, h⟩ := h; exact RpL.isUnder _ _ h
  · rfl
  · rfl
  · rfl
  · rename_i ρ σ
    show (ρ.all fun o => match o with
      | some d => D.under w.φ.length d
      | none => true) = true
    rw [List.all_eq_true]
    intro o ho
    cases o with
    | none => rfl
    | some d =>
      obtain ⟨i, hi, e⟩ := List.mem_iff_getElem.mp ho
      obtain ⟨v, _, r⟩ := h.2.at_ i d (by rw [List.getElem?_eq_getElem hi, e])
      exact Rp.isUnder _ _ r
  · obtain ⟨_, _, _, _, _, _, _, _, h⟩ := h; exact RpL.isUnder _ _ h
theorem CellR.cut {c : Cell} {m n : Nat} (hn : n ≤ w.φ.length) (hm : m < n) (b : c.under n = true) (h : CellR K mg w H c m) : CellR K mg (w.cut n) H c m := by
  have g : (w.cut n).φ[m]? = w.φ[m]? := by
    show (w.φ.take n)[m]? = _
    rw [List.getElem?_take, if_pos hm]
  unfold CellR at h ⊢
  split at h
  · obtain ⟨a, xs, h1, h2, h3⟩ := h; exact ⟨a, xs, by rw [g]; exact h1, h2, RpL.cutW hn _ _ (by simpa [Cell.under] using b) h3⟩
  · obtain ⟨a, xs, o, h1, h2, h3⟩ := h; exact ⟨a, xs, o, by rw [g]; exact h1, h2, RpL.cutW hn _ _ (by simpa [Cell.under] using b) h3⟩
  · show _ = _; rw [g]; exact h
  · obtain ⟨c0, P, ht, h1, ps, h2, h3, h4⟩ := h
    refine ⟨c0, P, ht, by rw [g]; exact h1, ps, h2, h3, fun pos cv hc => ?_⟩
    obtain ⟨c, e1, e2, e3⟩ := h4 pos cv hc
    exact ⟨c, e1, e2, fun z => e3.1 (List.mem_of_mem_take z), e3.2⟩
  · exact ⟨by rw [g]; exact h.1, h.2.1, fun z => h.2.2.1 (List.mem_of_mem_take z), h.2.2.2⟩
  · refine ⟨by rw [g]; exact h.1, h.2.len, fun i d q => ?_⟩
    obtain ⟨v, h1, h2⟩ := h.2.at_ i d q
    have b' := List.all_eq_true.mp b (some d) (List.mem_of_getElem? q)
    exact ⟨v, h1, Rp.cut hn _ _ b' h2⟩
  · obtain ⟨a, C, dx, vs, h1, h2, h3, h4, h5⟩ := h; exact ⟨a, C, dx, vs, by rw [g]; exact h1, h2, h3, h4, RpL.cutW hn _ _ (by simpa [Cell.under] using b) h5⟩
theorem Sto.cut {w0 : Wd} {H0 : Hp} (s0 : Sto K mg w0 S H0) (s : Sto K mg w S' H) (h : CutOk S S') : Sto K mg (w.cut S.length) (S'.take S.length) H := by
  have hl : S.length ≤ w.φ.length := by rw [s.len]; exact h.1
  refine ⟨by show (w.φ.take _).length = _; rw [List.length_take, List.length_take, s.len], fun m n a h1 h2 => ?_, fun a ha => ⟨(s.ap a ha).1, fun z => (s.ap a ha).2 (List.mem_of_mem_take z)⟩, fun n c hc => ?_⟩
  · have k : ∀ m : Nat, (w.φ.take S.length)[m]? = some (some a) → w.φ[m]? = some (some a) := fun m q => by
      rw [List.getElem?_take] at q
      split at q
      · exact q
      · cases q
    exact s.nd m n a (k m h1) (k n h2)
  · rw [List.getElem?_take] at hc
    split at hc
    · rename_i hn
      have c0 := s.cell n c hc
      refine CellR.cut hl hn ?_ c0
      rcases h.2 n c hn hc with z | z
      · have := (s0.cell n c z).isUnder
        rw [s0.len] at this; exact this
      · exact z
    · cases hc
theorem Ext.cut {w0 : Wd} {H0 : Hp} (e : Ext w0 H0 w H) : Ext w0 H0 (w.cut w0.φ.length) H where
  fr := e.fr
  ln := by show _ ≤ (w.φ.take _).length; rw [List.length_take]; have := e.ln; omega
  ph := fun n a h l => by
    have q : (w.φ.take w0.φ.length)[n]? = some (some a) := h
    exact e.ph n a (getElem?_of_take q).1 l
  nw := fun a h => e.nw a (List.mem_of_mem_take h)
  hd := e.hd
theorem ExR.cutX {n : Nat} {x : Ex} {c : Value} {od : Option Addr} (hn : n ≤ w.φ.length) (b : underL n x.ds = true) (h : ExR K mg w H x c od) : ExR K mg (w.cut n) H x c od := by
  obtain ⟨h1, h2⟩ := h
  refine ⟨h1, ?_⟩
  rcases h2 with h2 | ⟨d, vs, a0, a1, a2, a3, a4, a5⟩
  · exact .inl h2
  · exact .inr ⟨d, vs, a0, a1, a2, Wd.off_cut a3, a4, RpL.cutW hn _ _ b a5⟩
/-- the cells that were made since are thrown away -/
theorem End.cutE {Q : VK} {E : Value → Option Addr → Hp → Prop} {r : RE D} (s : Sto K mg w S H) (h : End K mg (fun w H => Rp K mg w H) w H (cutR S r) Q E) : End K mg (fun w H => Rp K mg w H) w H r Q E := by
  cases r with
  | ok d S' =>
    have h' : End K mg (fun w H => Rp K mg w H) w H (cutR S (.ok d S')) Q E := h
    unfold cutR at h'
    simp only at h'
    split at h'
    · rename_i hc
      intro w1 H1 v e s1 r1
      have hl : S.length ≤ w1.φ.length := by rw [s1.len]; exact hc.2.1
      refine h' (w1.cut S.length) H1 v (s.len ▸ e.cut) (Sto.cut s s1 hc.2) (Rp.cut hl d v hc.1 r1)
    · exact h'.elim
  | ex x S' =>
    have h' : End K mg (fun w H => Rp K mg w H) w H (cutR S (.ex x S')) Q E := h
    unfold cutR at h'
    simp only at h'
    split at h'
    · rename_i hc
      intro w1 H1 c od e s1 r1
      have hl : S.length ≤ w1.φ.length := by rw [s1.len]; exact hc.2.1
      refine h' (w1.cut S.length) H1 c od (s.len ▸ e.cut) (Sto.cut s s1 hc.2) (ExR.cutX hl hc.1 r1)
    · exact h'.elim
  | no => exact h
end
theorem envStart {K : PySem.W.Frag} {mg : Str → Option Value} {w : Wd} {H : Hp} {ds : List D} {vs : List V} {N : List Str} (r : RpL K mg w H ds vs) : EnvR K mg w H (ds.map some ++ List.replicate (N.length - ds.length) none) (L2.start N vs) := by
  unfold L2.start
  refine ⟨by simp [r.length], fun i d h => ?_⟩
  by_cases hi : i < ds.length
  · rw [List.getElem?_append_left (by rw [List.length_map]; exact hi), List.getElem?_map] at h
    cases e : ds[i]? with
    | none => rw [e] at h; cases h
    | some d' =>
      rw [e] at h
      have ed : d' = d := by simpa using h
      subst ed
      obtain ⟨v, h1, h2⟩ := r.get e
      refine ⟨v, ?_, h2⟩
      rw [List.getElem?_append_left (by rw [List.length_map, ← r.length]; exact hi), List.getElem?_map, h1]
      rfl
  · rw [List.getElem?_append_right (by rw [List.length_map]; omega)] at h
    have := List.mem_of_getElem? h
    have := List.eq_of_mem_replicate this
    cases this
section
variable {P : Program} {w : World} {K : PySem.W.Frag} {mg : Str → Option Value} {base : Heap}
/-- a def by its body -/
theorem fn_g {x qual : Str} {st : Stmt} {f : Addr} {fd : FuncData} {N ps : List Str} {k : Nat} {sp : Sp} (F : Fun K x qual st f fd) (S : FnScope N ps (defScope st)) (size : ∀ vs H Q E, sp vs H Q E → vs.length = ps.length)
    (hb : ∀ (cdv : Value) (A : Around) (stk : List Env) (s : Shared) (H : Hp) (vs : List V) (Q : VK) (E : XK), RoomG k (A.deeper (envOfC qual (defScope st) s.heap.objs.size f cdv)) → sp vs H Q E →
      ∃ t, PSs (cxOf (L2.CX P w) P w K mg base N qual (defScope st) f cdv A stk s H E) (defBody st) t ∧ t { nx := fun _ H' => Q .non H', rt := Q } (L2.start N vs) H) : FnG P w K mg base (k + 1) f fd ps sp := by
  obtain ⟨oc, od, kV, doc, pm, an, cdv, ct, osl, rfl, lk, hcd⟩ := F.ex
  refine ⟨size, fun A stk s H ar us vs Q E hr e0 hbd hv hsp => ?_⟩
  have up : ∀ b o, base.get? b = some o → s.heap.get? b = some o := fun b o z => (e0.bs b o z).1
  have KX : K.In s.heap := e0.mod.kin.keeps up
  refine codeAny_call_function hr.rm.depth (KX _ _ lk) rfl S.co S.gen rfl (PySem.W.codeRec_of KX hcd) (hbd _ _ _ _ (wpAny_newFunctionEnv_cells S.kind (fun ⟨n, v⟩ hn => ?par) fun env he s1 x => ?run))
  case par =>
    have hn' := S.par n (List.of_mem_zip hn).1
    exact hn'.imp id fun z => ⟨z, PySem.W.cellsFrom_some _ _ _ (.inl z)⟩
  case run =>
    subst he
    obtain ⟨t, ht, hq⟩ := hb cdv A stk s H vs Q E (hr.down _) hsp
    have I0 := inv_start (CX := L2.CX P w) (E := E) S hr.rm.hd e0 (size _ _ _ _ hsp) hv x
    refine ⟨(e0.mod.nolimit.keeps up).keeps x.toInCall.keep, codeAny_func (wpAny_mono (ht.run [] s1 (L2.start N vs) H _ I0 hq) (fun fl s' hs => ?_) fun e s' hs => hs)⟩
    match fl, hs with
    | .ret u, ⟨v, σ', H', J, rv, q⟩ => exact ⟨v, H', J.os, J.bare, J.base, J.hok, rv, q⟩
    | .next, ⟨σ', H', J, q⟩ => exact ⟨.non, H', J.os, J.bare, J.base, J.hok, rfl, q⟩
    | .brk, ⟨_, _, _, q⟩ => exact q.elim
    | .cont, ⟨_, _, _, q⟩ => exact q.elim
theorem fn_ok {x qual : Str} {st : Stmt} {f : Addr} {fd : FuncData} {N ps : List Str} {k : Nat} {b : FS} (F : Fun K x qual st f fd) (S : FnScope N ps (defScope st))
    (hb : ∀ (cdv : Value) (A : Around) (outer : List Env) (s : Shared) (H : Hp) (E : XK), RoomG k (A.deeper (envOfC qual (defScope st) s.heap.objs.size f cdv)) →
      PSs (cxOf (L2.CX P w) P w K mg base N qual (defScope st) f cdv A outer s H E) (defBody st) (tS (cxOf (L2.CX P w) P w K mg base N qual (defScope st) f cdv A outer s H E) (fun c d _ H => E c d H) b)) :
    FnG P w K mg base (k + 1) f fd ps (spF K mg ps.length (fnB ps.length N.length b)) := by
  refine fn_g F S (fun vs H Q E ⟨w, st, ds, s, r, l, h⟩ => by rw [← r.length]; exact l) fun cdv A outer s H vs Q E hr ⟨w1, S1, ds, s1, r1, l, h⟩ => ⟨_, hb cdv A outer s H E hr, w1, _, S1, s1, envStart (N := N) r1, ?_⟩
  unfold fnB at h
  rw [if_pos l] at h
  rw [l]
  revert h
  cases hbb : b (ds.map some ++ List.replicate (N.length - ps.length) none) S1 with
  | nx ρ S2 => exact fun h w' H' σ' e s' en => h w' H' _ e s' rp_n
  | rt d S2 => exact fun h w' H' v e s' r' => h w' H' v e s' r'
  | ex x ρ S2 => exact fun h w' H' σ' c od e s' en ex => h w' H' c od e s' ex
  | bk ρ S2 => exact fun h => h.elim
  | ct ρ S2 => exact fun h => h.elim
  | no => exact fun h => h.elim
theorem fun_look {x qual : Str} {st : Stmt} {f : Addr} {fd : FuncData} (F : Fun K x qual st f fd) : ∃ oc od osl, K.lookup f = some ⟨oc, od, .func fd, osl⟩ := by
  obtain ⟨oc, od, kV, doc, pm, an, cdv, ct, osl, rfl, lk, hcd⟩ := F.ex
  exact ⟨oc, od, osl, lk⟩
theorem fun_names {x qual : Str} {st : Stmt} {f : Addr} {fd : FuncData} (F : Fun K x qual st f fd) : fd.params.args.map (·.arg) = (defArgs st).args.map (·.arg) := by
  obtain ⟨oc, od, kV, doc, pm, an, cdv, ct, osl, rfl, lk, hcd⟩ := F.ex
  rfl
theorem spF_cut {m : Nat} {f : FF} {k : Nat} {a : Addr} {fd : FuncData} {ps : List Str} (F : FnG P w K mg base k a fd ps (spF K mg m f)) : FnG P w K mg base k a fd ps (spF K mg m (fun ds S => cutR S (f ds S))) :=
  F.weak fun vs H Q E ⟨w1, S1, ds, s1, r1, l, h⟩ => ⟨w1, S1, ds, s1, r1, l, h.cutE s1⟩
theorem fnB_ar {m n : Nat} {b : FS} : ∀ ds S, ds.length ≠ m → fnB m n b ds S = .no := fun ds S h => by unfold fnB; rw [if_neg h]
theorem fnC_ar {m n : Nat} {b : FS} : ∀ ds S, ds.length ≠ m → fnC m n b ds S = .no := fun ds S h => by unfold fnC; rw [fnB_ar ds S h]; rfl
theorem cal_B {x : Str} {st : Stmt} {f : Addr} {fd : FuncData} {N ps : List Str} {k : Nat} {b : FS} (F : Fun K x x st f fd) (S : FnScope N ps (defScope st)) (hm : mg x = some (.ref f)) (hbd : Binds K fd ps []) (hps : ps = (defArgs st).args.map (·.arg))
    (hb : ∀ (cdv : Value) (A : Around) (outer : List Env) (s : Shared) (H : Hp) (E : XK), RoomG k (A.deeper (envOfC x (defScope st) s.heap.objs.size f cdv)) →
      PSs (cxOf (L2.CX P w) P w K mg base N x (defScope st) f cdv A outer s H E) (defBody st) (tS (cxOf (L2.CX P w) P w K mg base N x (defScope st) f cdv A outer s H E) (fun c d _ H => E c d H) b)) :
    Cal P w K mg base (k + 1) x (fnB ps.length N.length b) := ⟨f, fd, ps, fn_ok F S hb, hm, F.kp, hbd, fnB_ar, hps.trans (fun_names F).symm, fun_look F⟩
theorem cal_C {x : Str} {st : Stmt} {f : Addr} {fd : FuncData} {N ps : List Str} {k : Nat} {b : FS} (F : Fun K x x st f fd) (S : FnScope N ps (defScope st)) (hm : mg x = some (.ref f)) (hbd : Binds K fd ps []) (hps : ps = (defArgs st).args.map (·.arg))
    (hb : ∀ (cdv : Value) (A : Around) (outer : List Env) (s : Shared) (H : Hp) (E : XK), RoomG k (A.deeper (envOfC x (defScope st) s.heap.objs.size f cdv)) →
      PSs (cxOf (L2.CX P w) P w K mg base N x (defScope st) f cdv A outer s H E) (defBody st) (tS (cxOf (L2.CX P w) P w K mg base N x (defScope st) f cdv A outer s H E) (fun c d _ H => E c d H) b)) :
    Cal P w K mg base (k + 1) x (fnC ps.length N.length b) := ⟨f, fd, ps, spF_cut (fn_ok F S hb), hm, F.kp, hbd, fnC_ar, hps.trans (fun_names F).symm, fun_look F⟩
end
def gFz (x : D) (S : Store) : RE D := match x with
  | .loc n => (match cellM S n with
    | some ds => .ok (.lst ds) (S.set n .dead)
    | none => .no)
  | _ => .no
section
variable {K : PySem.W.Frag} {mg : Str → Option Value} {w : Wd} {H : Hp} {S : Store} {Q : VK} {E : Value → Option Addr → Hp → Prop}
theorem fz_at {x : D} {v : V} (s : Sto K mg w S H) (r : Rp K mg w H x v) (h : End K mg (fun w H => Rp K mg w H) w H (gFz x S) Q E) : Q v H := by
  unfold gFz at h
  split at h
  · rename_i n
    split at h
    · rename_i ds hz
      obtain ⟨a, xs, h1, h2, h3⟩ := cellM_at s hz
      unfold Rp at r
      have ev := r.2 a h1
      have hn : n < w.φ.length := r.1
      have gs : (w.φ.set n none)[n]? = some none := by rw [List.getElem?_set_self hn]
      have gn : ∀ m : Nat, m ≠ n → (w.φ.set n none)[m]? = w.φ[m]? := fun m hm => List.getElem?_set_ne (Ne.symm hm)
      have sub : ∀ (m : Nat) b, (w.φ.set n none)[m]? = some (some b) → w.φ[m]? = some (some b) ∧ m ≠ n := fun m b q => by
        by_cases e : m = n
        · subst e; rw [gs] at q; cases q
        · rw [gn m e] at q; exact ⟨q, e⟩
      have mem : ∀ b, some b ∈ w.φ.set n none → some b ∈ w.φ := fun b q => by
        obtain ⟨m, hm⟩ := List.mem_iff_getElem?.mp q
        exact List.mem_of_getElem? (sub m b hm).1
      have out : some a ∉ w.φ.set n none := fun q => by
        obtain ⟨m, hm⟩ := List.mem_iff_getElem?.mp q
        obtain ⟨q1, q2⟩ := sub m a hm
        exact q2 (s.nd m n a q1 h1)
      have ex : Ext w H ⟨w.φ.set n none, w.hd⟩ H := ⟨fun _ _ h _ => h, by show _ ≤ (w.φ.set n none).length; rw [List.length_set]; exact Nat.le_refl _, fun m b q _ => (sub m b q).1, fun b q => .inl (mem b q), rfl⟩
      have s' : Sto K mg ⟨w.φ.set n none, w.hd⟩ (S.set n .dead) H := by
        refine ⟨by show (w.φ.set n none).length = _; rw [List.length_set, List.length_set]; exact s.len, fun m k b q1 q2 => s.nd m k b (sub m b q1).1 (sub k b q2).1, fun b hb => ⟨(s.ap b hb).1, fun z => (s.ap b hb).2 (mem b z)⟩, fun m c hc => ?_⟩
        by_cases e : m = n
        · subst e
          rw [List.getElem?_set_self (s.len ▸ hn)] at hc
          cases hc
          exact gs
        · rw [List.getElem?_set_ne (Ne.symm e)] at hc
          exact CellR.ext ex (fun b hb => ⟨by show (w.φ.set n none)[m]? = _; rw [gn m e]; exact hb, rfl⟩) (fun hb => by show (w.φ.set n none)[m]? = _; rw [gn m e]; exact hb) (s.cell m c hc)
      refine h ⟨w.φ.set n none, w.hd⟩ H v ex s' ?_
      show Rp _ _ _ _ _ _
      unfold Rp
      exact ⟨a, xs, ev, h2, ⟨out, fun z => (s.ap a z).2 (List.mem_of_getElem? h1)⟩, RpL.ext ex _ _ h3⟩
    · exact h.elim
  · exact h.elim
end
theorem q_fz {X : Cx} {W : WX} {e : Expr} {f : FE} (he : PE X e (tF X W f)) : PE X e (tF X W (f1 gFz f)) := PE.wk he fun σ H Q ⟨w, ρ, S, s, en, h⟩ =>
  ⟨w, ρ, S, s, en, (End.bind (R := fun w H => Rp X.K X.mg w H) h).imp (fun x H1 ⟨w1, S1, d, e1, s1, r1, h1⟩ => fz_at s1 r1 h1) (fun _ _ _ z => z)⟩
end Kw
namespace Kw
open PySem PySem.Spec PyProof.Rows L2
structure Mv (w : Wd) (H : Hp) (w' : Wd) (H' : Hp) : Prop where
  fr : ∀ a o, H a = some o → w.Off a → H' a = some o ∧ w'.Off a
  ln : w.φ.length ≤ w'.φ.length
  ph : ∀ (n : Nat) a, w'.φ[n]? = some (some a) → n < w.φ.length → w.φ[n]? = some (some a)
section
variable {K : PySem.W.Frag} {mg : Str → Option Value} {w w' w'' : Wd} {H H' H'' : Hp} {S : Store}
mutual
theorem Rp.mv (e : Mv w H w' H') : ∀ (d : D) (v : V), Rp K mg w H d v → Rp K mg w' H' d v
  | .non, _, h => by unfold Rp at h ⊢; exact h
  | .bl _, _, h => by unfold Rp at h ⊢; exact h
  | .int _, _, h => by unfold Rp at h ⊢; exact h
  | .str _, _, h => by unfold Rp at h ⊢; exact h
  | .tup ds, v, h => by
    unfold Rp at h ⊢
    obtain ⟨a, xs, e1, t, r⟩ := h
    refine ⟨a, xs, e1, ?_, RpL.mv e ds xs r⟩
    rcases t with ⟨t, n⟩ | t
    · exact .inl (e.fr _ _ t n)
    · exact .inr t
  | .lst ds, v, h => by
    unfold Rp at h ⊢
    obtain ⟨a, xs, e1, t, n, r⟩ := h
    exact ⟨a, xs, e1, (e.fr _ _ t n).1, (e.fr _ _ t n).2, RpL.mv e ds xs r⟩
  | .dic ks ds, v, h => by
    unfold Rp at h ⊢
    obtain ⟨a, vs, e1, t, n, l, r⟩ := h
    exact ⟨a, vs, e1, (e.fr _ _ t n).1, (e.fr _ _ t n).2, l, RpL.mv e ds vs r⟩
  | .ins c fs ds, v, h => by
    unfold Rp at h ⊢
    obtain ⟨a, C, dx, vs, e1, m, t, n, l, r⟩ := h
    exact ⟨a, C, dx, vs, e1, m, (e.fr _ _ t n).1, (e.fr _ _ t n).2, l, RpL.mv e ds vs r⟩
  | .loc n, v, h => by
    unfold Rp at h ⊢
    exact ⟨Nat.lt_of_lt_of_le h.1 e.ln, fun a q => h.2 a (e.ph n a q h.1)⟩
  | .glo _, _, h => by unfold Rp at h ⊢; exact h
  | .exn _, _, h => by unfold Rp at h ⊢; exact h
  | .lam i q ob, v, h => by
    unfold Rp at h ⊢
    obtain ⟨f, c', pm, ctv, e1, t, n, t2, n2⟩ := h
    exact ⟨f, c', pm, ctv, e1, (e.fr _ _ t n).1, (e.fr _ _ t n).2, (e.fr _ _ t2 n2).1, (e.fr _ _ t2 n2).2⟩
  | .exo c ns ds, v, h => by
    unfold Rp at h ⊢
    obtain ⟨a, C, od, vs, e1, m, t, n, z, q, l, r⟩ := h
    exact ⟨a, C, od, vs, e1, m, (e.fr _ _ t n).1, (e.fr _ _ t n).2, z, fun d hd => ⟨(e.fr _ _ (q d hd).1 (q d hd).2).1, (e.fr _ _ (q d hd).1 (q d hd).2).2⟩, l, RpL.mv e ds vs r⟩
  | .fls ds, v, h => by
    unfold Rp at h ⊢
    obtain ⟨a, xs, e1, t, r⟩ := h
    refine ⟨a, xs, e1, ?_, RpL.mv e ds xs r⟩
    rcases t with ⟨o, t, n⟩ | t
    · exact .inl ⟨o, e.fr _ _ t n⟩
    · exact .inr t
theorem RpL.mv (e : Mv w H w' H') : ∀ (ds : List D) (vs : List V), RpL K mg w H ds vs → RpL K mg w' H' ds vs
  | [], _, h => by unfold RpL at h ⊢; exact h
  | d :: ds, vs, h => by
    unfold RpL at h ⊢
    obtain ⟨v, r, e1, h1, h2⟩ := h
    exact ⟨v, r, e1, Rp.mv e d v h1, RpL.mv e ds r h2⟩
end
theorem EnvR.mv {ρ : FEnv} {σ : L2.St} (e : Mv w H w' H') (h : EnvR K mg w H ρ σ) : EnvR K mg w' H' ρ σ := ⟨h.len, fun i d q => by
  obtain ⟨v, h1, h2⟩ := h.at_ i d q
  exact ⟨v, h1, Rp.mv e _ _ h2⟩⟩
theorem TabW.mv {P : Addr} {q : Str} (m : Mv w H w' H') (hP : H' P = H P) (h : TabW w H P q) : TabW w' H' P q := by
  obtain ⟨ps, h1, h2, h3⟩ := h
  refine ⟨ps, by rw [hP]; exact h1, h2, fun pos cv hc => ?_⟩
  obtain ⟨c, e1, e2, e3⟩ := h3 pos cv hc
  exact ⟨c, e1, m.fr _ _ e2 e3⟩
theorem Ext.mv (e : Ext w H w' H') : Mv w H w' H' := ⟨fun a o h n => ⟨e.fr a o h n.1, e.out h n⟩, e.ln, e.ph⟩
theorem Mv.trans (a : Mv w H w' H') (b : Mv w' H' w'' H'') : Mv w H w'' H'' :=
  ⟨fun c o h n => b.fr c o (a.fr c o h n).1 (a.fr c o h n).2, Nat.le_trans a.ln b.ln, fun n c h l => a.ph n c (b.ph n c h (Nat.lt_of_lt_of_le l a.ln)) l⟩
theorem Mv.refl : Mv w H w H := Ext.refl.mv
/-- the object at C is built, hidden -/
structure ExtD (C : Addr) (w : Wd) (H : Hp) (w' : Wd) (H' : Hp) : Prop where
  c0 : H C = none
  fr : ∀ a o, a ≠ C → H a = some o → some a ∉ w.φ → H' a = some o
  ln : w.φ.length ≤ w'.φ.length
  ph : ∀ (n : Nat) a, w'.φ[n]? = some (some a) → n < w.φ.length → w.φ[n]? = some (some a)
  nw : ∀ a, some a ∈ w'.φ → some a ∈ w.φ ∨ H a = none
  hd : w'.hd = C :: w.hd
theorem ExtD.step {C : Addr} (a : ExtD C w H w' H') (b : Ext w' H' w'' H'') : ExtD C w H w'' H'' where
  c0 := a.c0
  fr := fun c o hc h n => b.fr c o (a.fr c o hc h n) fun z => by
    rcases a.nw c z with z | z
    · exact n z
    · rw [h] at z; cases z
  ln := Nat.le_trans a.ln b.ln
  ph := fun n c h l => a.ph n c (b.ph n c h (Nat.lt_of_lt_of_le l a.ln)) l
  nw := fun c h => by
    rcases b.nw c h with z | z
    · exact a.nw c z
    · by_cases q : some c ∈ w.φ
      · exact .inl q
      · cases e : H c with
        | none => exact .inr rfl
        | some o =>
          have hc : c ≠ C := fun z => by subst z; rw [a.c0] at e; cases e
          rw [a.fr c o hc e q] at z; cases z
  hd := b.hd.trans a.hd
theorem ExtD.poke {C : Addr} {o : HO} (a : ExtD C w H w' H') : ExtD C w H w' (upd H' C o) := ⟨a.c0, fun c u hc h n => by rw [upd_ne hc]; exact a.fr c u hc h n, a.ln, a.ph, a.nw, a.hd⟩
theorem ExtD.mv {C : Addr} (a : ExtD C w H w' H') : Mv w H w' H' := ⟨fun c o h n => by
  have hc : c ≠ C := fun z => by subst z; rw [a.c0] at h; cases h
  refine ⟨a.fr c o hc h n.1, fun z => ?_, fun z => ?_⟩
  · rcases a.nw c z with z | z
    · exact n.1 z
    · rw [h] at z; cases z
  · rw [a.hd] at z
    rcases List.mem_cons.mp z with z | z
    · exact hc z
    · exact n.2 z, a.ln, a.ph⟩
theorem ExtD.begin_ {C : Addr} {o : HO} (hC : H C = none) : ExtD C w H ⟨w.φ, C :: w.hd⟩ (upd H C o) := ⟨hC, fun a u e h _ => by rw [upd_ne e]; exact h, Nat.le_refl _, fun _ _ h _ => h, fun _ h => .inl h, rfl⟩
theorem ExtD.done {C : Addr} (a : ExtD C w H w' H') : Ext w H ⟨w'.φ, w.hd⟩ H' := ⟨fun c o h n => a.fr c o (fun z => by subst z; rw [a.c0] at h; cases h) h n, a.ln, a.ph, a.nw, rfl⟩
theorem Sto.mvd {C : Addr} (s : Sto K mg w S H) (hC : H C = none) {o : HO} : Sto K mg ⟨w.φ, C :: w.hd⟩ S (upd H C o) := by
  have m : Mv w H ⟨w.φ, C :: w.hd⟩ (upd H C o) := (ExtD.begin_ hC).mv
  refine ⟨s.len, s.nd, fun a ha => ?_, fun n c hc => ?_⟩
  · rcases List.mem_cons.mp ha with e | ha
    · subst e; exact ⟨by rw [upd_same]; exact fun z => (nomatch z), (s.new hC).1⟩
    · exact ⟨upd_some (s.ap a ha).1, (s.ap a ha).2⟩
  · have c0 := s.cell n c hc
    have ne : ∀ a, w.φ[n]? = some (some a) → upd H C o a = H a := fun a ha => upd_ne fun z => by subst z; exact (s.new hC).1 (List.mem_of_getElem? ha)
    unfold CellR at c0 ⊢
    split at c0
    · obtain ⟨b, xs, h2, h3, h4⟩ := c0; exact ⟨b, xs, h2, by rw [ne b h2]; exact h3, RpL.mv m _ _ h4⟩
    · obtain ⟨b, xs, o', h2, h3, h4⟩ := c0; exact ⟨b, xs, o', h2, by rw [ne b h2]; exact h3, RpL.mv m _ _ h4⟩
    · exact c0
    · obtain ⟨c1, P, ht, t1, t2⟩ := c0; exact ⟨c1, P, ht, t1, TabW.mv m (ne _ t1) t2⟩
    · obtain ⟨h1, h2, h3, ⟨φ, h4, h6⟩, h5⟩ := c0
      exact ⟨h1, List.mem_cons_of_mem _ h2, h3, ⟨φ, by rw [upd_ne (fun z => by rw [z, hC] at h4; cases h4)]; exact h4, h6⟩, h5⟩
    · exact ⟨c0.1, EnvR.mv m c0.2⟩
    · obtain ⟨b, C1, dx, vs, h2, h3, h4, h5, h6⟩ := c0; exact ⟨b, C1, dx, vs, h2, h3, by rw [ne b h2]; exact h4, h5, RpL.mv m _ _ h6⟩
theorem Mv.poke {C : Addr} {o : HO} (hC : C ∈ w.hd) : Mv w H w (upd H C o) := ⟨fun a u h n => ⟨by rw [upd_ne (fun z => by subst z; exact n.2 hC)]; exact h, n⟩, Nat.le_refl _, fun _ _ h _ => h⟩
theorem Sto.poke {C : Addr} {o : HO} (s : Sto K mg w S H) (hC : C ∈ w.hd) (hx : ∃ xs, H C = some (.lst xs)) : Sto K mg w S (upd H C o) := by
  have m : Mv w H w (upd H C o) := Mv.poke hC
  refine ⟨s.len, s.nd, fun a ha => ⟨upd_some (s.ap a ha).1, (s.ap a ha).2⟩, fun n c hc => ?_⟩
  have c0 := s.cell n c hc
  have ne : ∀ a, w.φ[n]? = some (some a) → upd H C o a = H a := fun a ha => upd_ne fun z => by subst z; exact (s.ap a hC).2 (List.mem_of_getElem? ha)
  unfold CellR at c0 ⊢
  split at c0
  · obtain ⟨b, xs, h2, h3, h4⟩ := c0; exact ⟨b, xs, h2, by rw [ne b h2]; exact h3, RpL.mv m _ _ h4⟩
  · obtain ⟨b, xs, o', h2, h3, h4⟩ := c0; exact ⟨b, xs, o', h2, by rw [ne b h2]; exact h3, RpL.mv m _ _ h4⟩
  · exact c0
  · obtain ⟨c1, P, ht, t1, t2⟩ := c0; exact ⟨c1, P, ht, t1, TabW.mv m (ne _ t1) t2⟩
  · obtain ⟨h1, h2, h3, ⟨φ, h4, h6⟩, h5⟩ := c0
    obtain ⟨xs, hx⟩ := hx
    exact ⟨h1, h2, h3, ⟨φ, by rw [upd_ne (fun z => by rw [z, hx] at h4; cases h4)]; exact h4, h6⟩, h5⟩
  · exact ⟨c0.1, EnvR.mv m c0.2⟩
  · obtain ⟨b, C1, dx, vs, h2, h3, h4, h5, h6⟩ := c0; exact ⟨b, C1, dx, vs, h2, h3, by rw [ne b h2]; exact h4, h5, RpL.mv m _ _ h6⟩
theorem Mv.show {C : Addr} {h0 : List Addr} (e : w.hd = C :: h0) : Mv w H ⟨w.φ, h0⟩ H := ⟨fun a o h n => ⟨h, n.1, fun z => n.2 (by rw [e]; exact List.mem_cons_of_mem _ z)⟩, Nat.le_refl _, fun _ _ h _ => h⟩
theorem Sto.show {C : Addr} {h0 : List Addr} (s : Sto K mg w S H) (e : w.hd = C :: h0) (hx : ∃ xs, H C = some (.lst xs)) : Sto K mg ⟨w.φ, h0⟩ S H := by
  have m : Mv w H ⟨w.φ, h0⟩ H := Mv.show e
  refine ⟨s.len, s.nd, fun a ha => s.ap a (by rw [e]; exact List.mem_cons_of_mem _ ha), fun n c hc => ?_⟩
  have c0 := s.cell n c hc
  unfold CellR at c0 ⊢
  split at c0
  · obtain ⟨b, xs, h2, h3, h4⟩ := c0; exact ⟨b, xs, h2, h3, RpL.mv m _ _ h4⟩
  · obtain ⟨b, xs, o', h2, h3, h4⟩ := c0; exact ⟨b, xs, o', h2, h3, RpL.mv m _ _ h4⟩
  · exact c0
  · obtain ⟨c1, P, ht, t1, t2⟩ := c0; exact ⟨c1, P, ht, t1, TabW.mv m rfl t2⟩
  · obtain ⟨h1, h2, h3, ⟨φ, h4, h6⟩, h5⟩ := c0
    obtain ⟨xs, hx⟩ := hx
    refine ⟨h1, ?_, h3, ⟨φ, h4, h6⟩, h5⟩
    rw [e] at h2
    rcases List.mem_cons.mp h2 with z | z
    · rw [z, hx] at h4; cases h4
    · exact z
  · exact ⟨c0.1, EnvR.mv m c0.2⟩
  · obtain ⟨b, C1, dx, vs, h2, h3, h4, h5, h6⟩ := c0; exact ⟨b, C1, dx, vs, h2, h3, h4, h5, RpL.mv m _ _ h6⟩
end
abbrev FG := D → FEnv → Store → Option (FEnv × Store)
abbrev FGs := List D → FEnv → Store → Option (FEnv × Store)
def GOk (X : Cx) (w : Wd) (H : Hp) (sl : List Nat) (σ : L2.St) (r : Option (FEnv × Store)) (Q : L2.St → Hp → Prop) : Prop := match r with
  | some (ρ', S') => ∀ w' H' σ', Ext w H w' H' → Sto X.K X.mg w' S' H' → EnvR X.K X.mg w' H' ρ' σ' → (∀ i, i ∉ sl → σ'[i]? = σ[i]?) → σ'.length = σ.length → Q σ' H'
  | none => False
def tG (X : Cx) (sl : List Nat) (g : FG) : TG := fun v σ H Q => ∃ w ρ S d, Sto X.K X.mg w S H ∧ EnvR X.K X.mg w H ρ σ ∧ Rp X.K X.mg w H d v ∧ GOk X w H sl σ (g d ρ S) Q
def tGs (X : Cx) (sl : List Nat) (g : FGs) : TGs := fun vs σ H Q => ∃ w ρ S ds, Sto X.K X.mg w S H ∧ EnvR X.K X.mg w H ρ σ ∧ RpL X.K X.mg w H ds vs ∧ GOk X w H sl σ (g ds ρ S) Q
theorem PG.wk {X : Cx} {e : Expr} {t t' : TG} (h : PG X e t) (m : ∀ v σ H Q, t' v σ H Q → t v σ H Q) : PG X e t' := ⟨fun pins s σ H v u Q I r k => h.run pins s σ H v u Q I r (m v σ H Q k)⟩
theorem PGs.wk {X : Cx} {e : List Expr} {t t' : TGs} (h : PGs X e t) (m : ∀ v σ H Q, t' v σ H Q → t v σ H Q) : PGs X e t' := ⟨fun pins s σ H v u Q I r k => h.run pins s σ H v u Q I r (m v σ H Q k)⟩
def gN (i : Nat) : FG := fun d ρ S => some (ρ.set i (some d), S)
def gsNil : FGs := fun ds ρ S => match ds with
  | [] => some (ρ, S)
  | _ => none
def gsCons (g : FG) (gs : FGs) : FGs := fun ds ρ S => match ds with
  | d :: r => (match g d ρ S with
    | some (ρ1, S1) => gs r ρ1 S1
    | none => none)
  | [] => none
def gTu (n : Nat) (gs : FGs) : FG := fun d ρ S => match d with
  | .tup ds => if ds.length = n then gs ds ρ S else none
  | _ => none
def gSetI (o i d : D) (S : Store) : Option Store := match o, i with
  | .loc n, .int k => (match cellM S n with
    | some xs => (match ixN xs.length k with
      | some j => some (S.set n (.lst (xs.set j d)))
      | none => none)
    | none => none)
  | _, _ => none
def gSb (fo fi : FE) : FG := fun d ρ S => match fo ρ S with
  | .ok o S1 => (match fi ρ S1 with
    | .ok i S2 => (match gSetI o i d S2 with
      | some S3 => some (ρ, S3)
      | none => none)
    | _ => none)
  | _ => none
section
variable {X : Cx} {W : WX} {pos : Pos} {e : Expr} {es : List Expr}
theorem GOk.imp {w : Wd} {H : Hp} {sl sl' : List Nat} {σ : L2.St} {r : Option (FEnv × Store)} {Q Q' : L2.St → Hp → Prop} (h : GOk X w H sl σ r Q) (hs : ∀ i, i ∉ sl → i ∉ sl') (hq : ∀ σ H, Q σ H → Q' σ H) : GOk X w H sl' σ r Q' := by
  unfold GOk at h ⊢
  split
  · intro w' H' σ' e s en k l
    exact hq _ _ (h w' H' σ' e s en (fun i hi => k i (hs i hi)) l)
  · exact h
theorem q_gn {i : Nat} {x : Str} (hN : X.N.Nodup) (hi : X.N[i]? = some x) (hx : Loc X.env.scope x) (hf : X.fn x = true ∨ X.env.scope.names.lookup x = some .local := by first | exact .inl rfl | exact .inr rfl | assumption) : PG X (.Name x pos) (tG X [i] (gN i)) :=
  PG.wk (pg_name hN hi hx hf) fun v σ H Q ⟨w, ρ, S, d, s, en, r, h⟩ => h w H _ Ext.refl s (en.set r) (fun j hj => by
    rw [List.getElem?_set_ne (fun z => hj (by rw [z]; exact List.mem_singleton.mpr rfl))]) (by rw [List.length_set])
theorem q_gsnil : PGs X [] (tGs X [] gsNil) := PGs.wk pgs_nil fun v σ H Q ⟨w, ρ, S, ds, s, en, r, h⟩ => by
  unfold gsNil at h
  split at h
  · unfold RpL at r
    exact ⟨r, h w H σ Ext.refl s en (fun _ _ => rfl) rfl⟩
  · exact h.elim
theorem q_gscons {g : FG} {gs : FGs} {sl sl2 : List Nat} (h1 : PG X e (tG X sl g)) (h2 : PGs X es (tGs X sl2 gs)) (hs : (assignEach (e :: es) X.env).map (·.2) = assign e X.env :: (assignEach es X.env).map (·.2) := by rfl) : PGs X (e :: es) (tGs X (sl ++ sl2) (gsCons g gs)) :=
  PGs.wk (pgs_cons h1 h2 hs) fun vs σ H Q ⟨w, ρ, S, ds, s, en, r, h⟩ => by
    unfold gsCons at h
    split at h
    · rename_i d ds'
      unfold RpL at r
      obtain ⟨v, vs', e1, r1, r2⟩ := r
      refine ⟨v, vs', e1, w, ρ, S, d, s, en, r1, ?_⟩
      split at h
      · rename_i ρ1 S1 hg
        rw [hg]
        intro w' H' σ' ex s' en' k l
        refine ⟨w', ρ1, S1, ds', s', en', RpL.ext ex _ _ r2, ?_⟩
        unfold GOk at h ⊢
        split at h
        · intro w2 H2 σ2 ex2 s2 en2 k2 l2
          exact h w2 H2 σ2 (ex.trans ex2) s2 en2 (fun i hi => by
            rw [k2 i (fun z => hi (List.mem_append_right _ z)), k i (fun z => hi (List.mem_append_left _ z))]) (l2.trans l)
        · exact h
      · exact h.elim
    · exact h.elim
theorem q_gtu {k n : Nat} {gs : FGs} {sl : List Nat} (hc : X.calm = true) (h : PGs X es (tGs X sl gs)) (hn : (assignEach es X.env).length = n := by rfl) (hst : (assignEach es X.env).findIdx? (·.1) = none := by rfl) : PG X (.Tuple es k pos) (tG X sl (gTu n gs)) :=
  PG.wk (pg_tup hc h hn hst) fun v σ H Q ⟨w, ρ, S, d, s, en, r, h⟩ => by
    unfold gTu at h
    split at h
    · rename_i ds
      split at h
      · rename_i hl
        obtain ⟨a, xs, e1, t1, q1⟩ := tup_at r
        exact ⟨a, xs, e1, t1, by rw [← q1.length]; exact hl, w, ρ, S, ds, s, en, q1, h⟩
      · exact h.elim
    · exact h.elim
theorem setI_at {w : Wd} {S S' : Store} {H : Hp} {o i d : D} {ov iv v : V} (s : Sto X.K X.mg w S H) (ro : Rp X.K X.mg w H o ov) (ri : Rp X.K X.mg w H i iv) (rd : Rp X.K X.mg w H d v) (h : gSetI o i d S = some S') {Q : Hp → Prop} (hq : ∀ H', Ext w H w H' → Sto X.K X.mg w S' H' → Q H') : rSetL ov iv v H Q := by
  unfold gSetI at h
  split at h
  · rename_i n k
    split at h
    · rename_i xs hx
      split at h
      · rename_i j hj
        cases h
        obtain ⟨a, vs, h1, h2, h3⟩ := cellM_at s hx
        unfold Rp at ro
        refine ⟨a, vs, k, j, ro.2 a h1, rp_int ri, h2, by rw [← h3.length]; exact hj, hq _ (Ext.write h1) (s.write h1 (cellM_lt hx) (h3.set j rd))⟩
      · cases h
    · cases h
  · cases h
theorem q_gsb {o i : Expr} {fo fi : FE} (ho : PE X o (tF X W fo)) (hi : PE X i (tF X W fi)) (ha : ∀ v, assign (.Subscript o i pos) X.env v = (do
      let ov ← holding [v] (eval o X.env)
      let iv ← holding [v, ov] (eval i X.env)
      standAt pos
      holding [v, ov, iv] (setItem ov iv v)
      release [v, ov, iv] []) := by intro _; rfl) : PG X (.Subscript o i pos) (tG X [] (gSb fo fi)) :=
  PG.wk (pg_sub ho hi set_list ha) fun v σ H Q ⟨w, ρ, S, d, s, en, r, h⟩ => by
    unfold gSb at h
    split at h
    · rename_i od S1 h1
      split at h
      · rename_i id S2 h2
        split at h
        · rename_i S3 h3
          refine ⟨w, ρ, S, s, en, ?_⟩
          rw [h1]
          intro w1 H1 ov e1 s1 r1
          refine ⟨w1, ρ, S1, s1, en.ext e1, ?_⟩
          rw [h2]
          intro w2 H2 iv e2 s2 r2
          have ex := e1.trans e2
          refine setI_at s2 (Rp.ext e2 _ _ r1) r2 (Rp.ext ex _ _ r) h3 fun H3 e3 s3 => ?_
          exact h w2 H3 σ (ex.trans e3) s3 (en.ext (ex.trans e3)) (fun _ _ => rfl) rfl
        · exact h.elim
      · exact h.elim
    · exact h.elim
/-- target = value -/
def sAsg (f : FE) (g : FG) : FS := fun ρ S => (f ρ S).toS ρ fun d S1 => match g d ρ S1 with
  | some (ρ', S') => .nx ρ' S'
  | none => .no
theorem q_asg {tg : Expr} {fe : FE} {g : FG} {sl : List Nat} (he : PE X e (tF X W fe)) (hg : PG X tg (tG X sl g)) (hs : swapsWithSole [tg] e pos.line X.env = pure false := by rfl) (hw : swappedStores [tg] e X.env = pure none := by rfl) (h1 : (assignEach [tg] X.env).map (·.2) = [assign tg X.env] := by rfl) : PS X (.Assign [tg] e pos) (tS X W (sAsg fe g)) :=
  PS.wk (ps_asg he hg hs hw h1) fun D σ H ⟨w, ρ, S, s, en, h⟩ => ⟨w, ρ, S, s, en, (h.of (R := fun w H => Rp X.K X.mg w H) en).imp (fun v H1 ⟨w1, S1, d, e1, s1, r1, h1⟩ => by
    refine ⟨w1, ρ, S1, d, s1, en.ext e1, r1, ?_⟩
    split at h1
    · rename_i ρ' S' hg'
      rw [hg']
      intro w2 H2 σ2 e2 s2 en2 _ _
      exact h1 w2 H2 σ2 e2 s2 en2
    · exact h1.elim) (fun _ _ _ z => z)⟩
/-- a, b = x, y -/
def sPar (i j : Nat) (f : FA) : FS := fun ρ S => (f ρ S).toS ρ fun ds S1 => match ds with
  | [x, y] => .nx ((ρ.set i (some x)).set j (some y)) S1
  | _ => .no
theorem q_par {i j : Nat} {x y : Str} {a b : Expr} {fa : FA} {px py pt : Pos} {kt k2 pt2} (hc : X.calm = true) (hN : X.N.Nodup) (hi : X.N[i]? = some x) (hj : X.N[j]? = some y) (hij : i ≠ j)
    (hx : X.env.scope.names.lookup x = some .local) (hy : X.env.scope.names.lookup y = some .local) (ha : PA X [a, b] (tA X W fa))
    (hw : swappedStores [.Tuple [.Name x px, .Name y py] kt pt] (.Tuple [a, b] k2 pt2) X.env = pure (some [x, y]))
    (hs : swapsWithSole [.Tuple [.Name x px, .Name y py] kt pt] (.Tuple [a, b] k2 pt2) pos.line X.env = pure false := by rfl) : PS X (.Assign [.Tuple [.Name x px, .Name y py] kt pt] (.Tuple [a, b] k2 pt2) pos) (tS X W (sPar i j fa)) :=
  PS.wk (ps_par hc hN hi hj hij hx hy ha hw hs) fun D σ H ⟨w, ρ, S, s, en, h⟩ => ⟨w, ρ, S, s, en, (h.of (R := fun w H => RpL X.K X.mg w H) en).imp (fun v H1 ⟨w1, S1, ds, e1, s1, r1, h1⟩ => by
    split at h1
    · obtain ⟨u, t, e2, r2, r3⟩ := r1.two_inv
      exact ⟨u, t, e2, h1.nx' s1 (((en.ext e1).set r2).set r3)⟩
    · exact h1.elim) (fun _ _ _ z => z)⟩
end
abbrev Its' := List D × Option (Nat × List D)
/-- the list that is walked is as it was -/
def gd (g : Option (Nat × List D)) (S : Store) : Prop := match g with
  | none => True
  | some (n, ds) => cellOf S n = some ds
open Classical in
noncomputable def gchk (g : Option (Nat × List D)) (S : Store) {α : Type} (a b : α) : α := if gd g S then a else b
def ItOk (K : PySem.W.Frag) (mg : Str → Option Value) (w : Wd) (H : Hp) (p : Its') (J : It) : Prop :=
  ∀ w' S' H', Mv w H w' H' → Sto K mg w' S' H' → gd p.2 S' → (∀ i, p.1.length ≤ i → J.stop i H') ∧ ∀ i d, p.1[i]? = some d → J.go i H' ∧ ∀ x H'', J.yld i H' x H'' → Ext w' H' w' H'' ∧ Sto K mg w' S' H'' ∧ Rp K mg w' H'' d x
abbrev FI := FEnv → Store → RE Its'
def tI (X : Cx) (W : WX) (f : FI) : TI := fun σ H R => ∃ w ρ S, Sto X.K X.mg w S H ∧ EnvR X.K X.mg w H ρ σ ∧ End X.K X.mg (ItOk X.K X.mg) w H (f ρ S) R (fun c od H' => W c od σ H')
theorem PI.wk {X : Cx} {tg e : Expr} {t t' : TI} (h : PI X tg e t) (m : ∀ σ H R, t' σ H R → t σ H R) : PI X tg e t' := ⟨fun pins s σ H R I k => h.run pins s σ H R I (m σ H R k)⟩
/-- a list or a tuple -/
def iSeq (S : Store) : D → Option Its'
  | .lst ds => some (ds, none)
  | .fls ds => some (ds, none)
  | .loc n => (cellOf S n).map fun ds => (ds, some (n, ds))
  | _ => none
def fiL (f : FE) : FI := fun ρ S => (f ρ S).bnd fun x S1 => match iSeq S1 x with
  | some p => .ok p S1
  | none => .no
def fiT (f : FE) : FI := fun ρ S => (f ρ S).bnd fun x S1 => match x with
  | .tup ds => .ok (ds, none) S1
  | _ => .no
def chrs (z : Str) : List D := z.cps.toList.map fun c => .str ⟨#[c]⟩
def fiS (f : FE) : FI := fun ρ S => (f ρ S).bnd fun x S1 => match x with
  | .str z => .ok (chrs z, none) S1
  | _ => .no
def rngD (lo : Int) : Nat → List D
  | 0 => []
  | n + 1 => .int lo :: rngD (lo + 1) n
def fiR1 (f : FA) : FI := fun ρ S => (f ρ S).bnd fun ds S1 => match ds with
  | [.int j] => if -(2 ^ 62) ≤ j ∧ j < 2 ^ 62 then .ok (rngD 0 j.toNat, none) S1 else .no
  | _ => .no
def enumD : Nat → List D → List D
  | _, [] => []
  | i, d :: r => .tup [.int i, d] :: enumD (i + 1) r
def fiE (f : FA) : FI := fun ρ S => (f ρ S).bnd fun ds S1 => match ds with
  | [x] => (match iSeq S1 x with
    | some (xs, g) => .ok (enumD 0 xs, g) S1
    | none => .no)
  | _ => .no
def zipD : List D → List D → List D
  | a :: r, b :: q => .tup [a, b] :: zipD r q
  | _, _ => []
/-- zip of two lists, one of them no cell at least -/
def fiZ (f : FA) : FI := fun ρ S => (f ρ S).bnd fun ds S1 => match ds with
  | [x, y] => (match iSeq S1 x, iSeq S1 y with
    | some (xs, none), some (ys, g) => .ok (zipD xs ys, g) S1
    | some (xs, g), some (ys, none) => .ok (zipD xs ys, g) S1
    | _, _ => .no)
  | _ => .no
section
variable {K : PySem.W.Frag} {mg : Str → Option Value} {w w' : Wd} {H H' : Hp} {S S' : Store}
/-- a walked list, at any later time -/
theorem iSeq_at {x : D} {v : V} {p : Its'} (s : Sto K mg w S H) (r : Rp K mg w H x v) (h : iSeq S x = some p) : ∃ a, v = .ref a ∧ (∃ xs, SqL K H a xs) ∧
    ∀ w' S' H', Mv w H w' H' → Sto K mg w' S' H' → gd p.2 S' → ∃ xs, SqL K H' a xs ∧ RpL K mg w' H' p.1 xs := by
  cases x <;> simp only [iSeq] at h <;> try (cases h; done)
  · cases h
    unfold Rp at r
    obtain ⟨a, xs, e, t, o, q⟩ := r
    refine ⟨a, e, ⟨xs, .of t⟩, fun w' S' H' m s' _ => ?_⟩
    obtain ⟨t', o'⟩ := m.fr a _ t o
    exact ⟨xs, .of t', RpL.mv m _ _ q⟩
  · rename_i n
    simp only [Option.map_eq_some_iff] at h
    obtain ⟨ds, h1, h2⟩ := h
    subst h2
    obtain ⟨a, xs, h3, h4, h5⟩ := cellOf_at s h1
    unfold Rp at r
    refine ⟨a, r.2 a h3, ⟨xs, .inl h4⟩, fun w' S' H' m s' g => ?_⟩
    obtain ⟨b, ys, k3, k4, k5⟩ := cellOf_at s' (show cellOf S' n = some ds from g)
    have := m.ph n b k3 r.1
    rw [h3] at this
    cases this
    exact ⟨ys, .inl k4, k5⟩
  · cases h
    unfold Rp at r
    obtain ⟨a, xs, e, t, q⟩ := r
    refine ⟨a, e, ⟨xs, t.sq⟩, fun w' S' H' m s' _ => ?_⟩
    have t' : Fp K w' H' a xs := by
      rcases t with ⟨o, t, n⟩ | t
      · exact .inl ⟨o, m.fr _ _ t n⟩
      · exact .inr t
    exact ⟨xs, t'.sq, RpL.mv m _ _ q⟩
theorem Rd.inj {a : Addr} {u u' : HO} (h : Rd H a u) (h' : Rd H a u') (n : ∀ o q, u ≠ .frz o q) (n' : ∀ o q, u' ≠ .frz o q) : u = u' := by
  rcases h with h | ⟨o, h⟩ <;> rcases h' with h' | ⟨o', h'⟩
  · rw [h] at h'; cases h'; rfl
  · rw [h] at h'; cases h'; exact absurd rfl (n _ _)
  · rw [h] at h'; cases h'; exact absurd rfl (n' _ _)
  · rw [h] at h'; cases h'; rfl
theorem itl_ok {x : D} {v : V} {p : Its'} (s : Sto K mg w S H) (r : Rp K mg w H x v) (h : iSeq S x = some p) {R : It → Hp → Prop} {E : Value → Option Addr → Hp → Prop} (he : End K mg (ItOk K mg) w H (.ok p S) R E) : ∃ a, v = .ref a ∧ (∃ xs, SqL K H a xs) ∧ R (Itl K a) H := by
  obtain ⟨a, e, ex, k⟩ := iSeq_at s r h
  refine ⟨a, e, ex, he w H _ Ext.refl s fun w' S' H' m s' g => ?_⟩
  obtain ⟨xs, q1, q2⟩ := k w' S' H' m s' g
  refine ⟨fun i hi => ⟨xs, q1, by rw [← q2.length]; exact hi⟩, fun i d hd => ?_⟩
  obtain ⟨u, h1, h2⟩ := q2.get hd
  refine ⟨⟨xs, u, q1, h1⟩, fun y H'' hy => ?_⟩
  obtain ⟨rfl, hy⟩ := hy
  have := hy xs q1
  rw [h1] at this
  cases this
  exact ⟨Ext.refl, s', h2⟩
theorem enumD_get : ∀ (l : List D) (k i : Nat) (d : D), (enumD k l)[i]? = some d → ∃ y, l[i]? = some y ∧ d = .tup [.int ((k + i : Nat) : Int), y]
  | [], k, i, d, h => by simp [enumD] at h
  | y :: l, k, 0, d, h => by simp [enumD] at h; exact ⟨y, rfl, by rw [← h]; rfl⟩
  | y :: l, k, i + 1, d, h => by
    simp only [enumD, List.getElem?_cons_succ] at h
    obtain ⟨z, h1, h2⟩ := enumD_get l (k + 1) i d h
    exact ⟨z, by simpa using h1, by rw [h2]; rw [show k + 1 + i = k + (i + 1) by omega]⟩
theorem enumD_len : ∀ (l : List D) (k : Nat), (enumD k l).length = l.length
  | [], _ => rfl
  | _ :: l, k => by simp [enumD, enumD_len l (k + 1)]
theorem zipD_get : ∀ (l m : List D) (i : Nat) (d : D), (zipD l m)[i]? = some d → ∃ x y, l[i]? = some x ∧ m[i]? = some y ∧ d = .tup [x, y]
  | [], _, i, d, h => by simp [zipD] at h
  | _ :: _, [], i, d, h => by simp [zipD] at h
  | x :: l, y :: m, 0, d, h => by simp [zipD] at h; exact ⟨x, y, rfl, rfl, h.symm⟩
  | x :: l, y :: m, i + 1, d, h => by
    simp only [zipD, List.getElem?_cons_succ] at h
    obtain ⟨a, b, h1, h2, h3⟩ := zipD_get l m i d h
    exact ⟨a, b, by simpa using h1, by simpa using h2, h3⟩
theorem zipD_len : ∀ (l m : List D), (zipD l m).length = min l.length m.length
  | [], _ => by simp [zipD]
  | _ :: _, [] => by simp [zipD]
  | x :: l, y :: m => by simp [zipD, zipD_len l m]
theorem pair_new {p : Addr} {d e : D} {x y : V} (s : Sto K mg w S H) (np : H p = none) (r1 : Rp K mg w H d x) (r2 : Rp K mg w H e y) : Ext w H w (upd H p (.tup [x, y])) ∧ Sto K mg w S (upd H p (.tup [x, y])) ∧ Rp K mg w (upd H p (.tup [x, y])) (.tup [d, e]) (.ref p) := by
  have ex : Ext w H w (upd H p (.tup [x, y])) := Ext.new np
  refine ⟨ex, s.beside np, ?_⟩
  unfold Rp
  exact ⟨p, _, rfl, .inl ⟨upd_same, s.new np⟩, RpL.cons (Rp.ext ex _ _ r1) (RpL.one (Rp.ext ex _ _ r2))⟩
end
section
variable {X : Cx} {W : WX} {tg e e2 : Expr} {fe : FE} {fa : FA} {p pos : Pos}
theorem qi_list (he : PE X e (tF X W fe)) : PI X tg e (tI X W (fiL fe)) := PI.wk (pi_list he) fun σ H R ⟨w, ρ, S, s, en, h⟩ =>
  ⟨w, ρ, S, s, en, (End.bind (R := fun w H => Rp X.K X.mg w H) h).imp (fun v H1 ⟨w1, S1, d, e1, s1, r1, h1⟩ => by
    split at h1
    · rename_i q hq; exact itl_ok s1 r1 hq h1
    · exact h1.elim) (fun _ _ _ z => z)⟩
theorem qi_tup (he : PE X e (tF X W fe)) : PI X tg e (tI X W (fiT fe)) := PI.wk (pi_tup he) fun σ H R ⟨w, ρ, S, s, en, h⟩ =>
  ⟨w, ρ, S, s, en, (End.bind (R := fun w H => Rp X.K X.mg w H) h).imp (fun v H1 ⟨w1, S1, d, e1, s1, r1, h1⟩ => by
    split at h1
    · rename_i ds
      have r1' := r1
      unfold Rp at r1'
      obtain ⟨a, xs, e, t, q⟩ := r1'
      refine ⟨a, e, ⟨xs, t.sq⟩, h1 w1 H1 _ Ext.refl s1 fun w' S' H' m s' g => ?_⟩
      have t' : SqT X.K H' a xs := by
        rcases t with ⟨t, o⟩ | t
        · exact .of (m.fr a _ t o).1
        · exact .inr t
      have q' := RpL.mv m _ _ q
      refine ⟨fun i hi => ⟨xs, t', by rw [← q.length]; exact hi⟩, fun i d hd => ?_⟩
      obtain ⟨u, k1, k2⟩ := q'.get hd
      refine ⟨⟨xs, u, t', k1⟩, fun y H'' hy => ?_⟩
      obtain ⟨rfl, hy⟩ := hy
      have := hy xs t'
      rw [k1] at this
      cases this
      exact ⟨Ext.refl, s', k2⟩
    · exact h1.elim) (fun _ _ _ z => z)⟩
theorem rngD_len : ∀ (n : Nat) (lo : Int), (rngD lo n).length = n
  | 0, _ => rfl
  | n + 1, lo => by simp [rngD, rngD_len n (lo + 1)]
theorem rngD_get : ∀ (n : Nat) (lo : Int) (i : Nat) (d : D), (rngD lo n)[i]? = some d → i < n ∧ d = .int (lo + i)
  | 0, lo, i, d, h => by simp [rngD] at h
  | n + 1, lo, 0, d, h => by simp [rngD] at h; exact ⟨Nat.succ_pos _, by rw [← h]; simp⟩
  | n + 1, lo, i + 1, d, h => by
    simp only [rngD, List.getElem?_cons_succ] at h
    obtain ⟨h1, h2⟩ := rngD_get n (lo + 1) i d h
    exact ⟨Nat.succ_lt_succ h1, by rw [h2]; congr 1; omega⟩
theorem rng_ok {K : PySem.W.Frag} {mg : Str → Option Value} {w : Wd} {H : Hp} (lo : Int) (n : Nat) : ItOk K mg w H (rngD lo n, none) (Itr lo n) := by
  intro w' S' H' m s' g
  refine ⟨fun i hi => (show n ≤ i by have h2 : (rngD lo n).length ≤ i := hi; rw [rngD_len] at h2; exact h2), fun i d hd => ?_⟩
  obtain ⟨h1, rfl⟩ := rngD_get n lo i d hd
  refine ⟨h1, fun y H'' hy => ?_⟩
  obtain ⟨rfl, rfl⟩ := hy
  exact ⟨Ext.refl, s', rp_i⟩
theorem qi_range1 (hg : Gl X "range") (hm : X.mg "range" = none) (ha : PA X [e] (tA X W fa)) (hs : starEach [e] X.env = [(false, eval e X.env)] := by rfl) : PI X tg (.Call (.Name "range" p) [e] [] pos) (tI X W (fiR1 fa)) := PI.wk (pi_range1 hg hm ha hs) fun σ H R ⟨w, ρ, S, s, en, h⟩ =>
  ⟨w, ρ, S, s, en, (End.bind (R := fun w H => RpL X.K X.mg w H) h).imp (fun vs H1 ⟨w1, S1, ds, e1, s1, r1, h1⟩ => by
    split at h1
    · split at h1
      · rename_i j hj
        obtain ⟨v, rfl, r2⟩ := r1.one_inv
        exact ⟨j, by rw [rp_int r2], hj.1, hj.2, h1.ret s1 (rng_ok 0 _)⟩
      · exact h1.elim
    · exact h1.elim) (fun _ _ _ z => z)⟩
theorem qi_enum {elts : List Expr} {kk : Nat} {tpos : Pos} (hg : Gl X "enumerate") (hm : X.mg "enumerate" = none) (ha : PA X [e] (tA X W fa)) (hs : starEach [e] X.env = [(false, eval e X.env)] := by rfl) : PI X (.Tuple elts kk tpos) (.Call (.Name "enumerate" p) [e] [] pos) (tI X W (fiE fa)) := PI.wk (pi_enum hg hm ha hs) fun σ H R ⟨w, ρ, S, s, en, h⟩ =>
  ⟨w, ρ, S, s, en, (End.bind (R := fun w H => RpL X.K X.mg w H) h).imp (fun vs H1 ⟨w1, S1, ds, e1, s1, r1, h1⟩ => by
    split at h1
    · rename_i x
      split at h1
      · rename_i xs g hx
        obtain ⟨v, rfl, r2⟩ := r1.one_inv
        obtain ⟨a, e, ⟨ys, ey⟩, k⟩ := iSeq_at s1 r2 hx
        refine ⟨a, ys, by rw [e], ey, h1.ret s1 fun w' S' H' m s' g' => ?_⟩
        obtain ⟨zs, q1, q2⟩ := k w' S' H' m s' g'
        refine ⟨fun i hi => ⟨zs, q1, ?_⟩, fun i d hd => ?_⟩
        · have h2 : (enumD 0 xs).length ≤ i := hi
          rw [enumD_len] at h2
          rw [← q2.length]; exact h2
        · obtain ⟨y, k1, k2⟩ := enumD_get _ _ _ _ hd
          obtain ⟨u, k3, k4⟩ := q2.get k1
          refine ⟨⟨zs, u, q1, k3⟩, fun z H'' hz => ?_⟩
          obtain ⟨T, x', rfl, nT, rfl, hx'⟩ := hz
          have := hx' zs q1
          rw [k3] at this
          cases this
          subst k2
          have pr := pair_new (d := .int ((0 + i : Nat) : Int)) s' nT rp_i k4
          rw [Nat.zero_add] at pr ⊢
          exact pr
      · exact h1.elim
    · exact h1.elim) (fun _ _ _ z => z)⟩
theorem zip_ok {K : PySem.W.Frag} {mg : Str → Option Value} {w : Wd} {H : Hp} {S : Store} {x y : D} {v u : V} {xs ys : List D} {g1 g2 g : Option (Nat × List D)} {R : It → Hp → Prop} {E : Value → Option Addr → Hp → Prop} (s : Sto K mg w S H) (r1 : Rp K mg w H x v) (r2 : Rp K mg w H y u)
    (h1 : iSeq S x = some (xs, g1)) (h2 : iSeq S y = some (ys, g2)) (hg : ∀ S', gd g S' → gd g1 S' ∧ gd g2 S') (he : End K mg (ItOk K mg) w H (.ok (zipD xs ys, g) S) R E) : ∃ a b as bs, [v, u] = [.ref a, .ref b] ∧ SqL K H a as ∧ SqL K H b bs ∧ R (Itz K a b) H := by
  obtain ⟨a, e1, ⟨as, ea⟩, k1⟩ := iSeq_at s r1 h1
  obtain ⟨b, e2, ⟨bs, eb⟩, k2⟩ := iSeq_at s r2 h2
  refine ⟨a, b, as, bs, by rw [e1, e2], ea, eb, he.ret s fun w' S' H' m s' g' => ?_⟩
  obtain ⟨zs, q1, q2⟩ := k1 w' S' H' m s' (hg _ g').1
  obtain ⟨us, p1, p2⟩ := k2 w' S' H' m s' (hg _ g').2
  refine ⟨fun i hi => ⟨zs, us, q1, p1, ?_⟩, fun i d hd => ?_⟩
  · have h3 : (zipD xs ys).length ≤ i := hi
    rw [zipD_len] at h3
    rw [← q2.length, ← p2.length]
    show xs.length ≤ i ∨ ys.length ≤ i
    omega
  · obtain ⟨d1, d2, t1, t2, t3⟩ := zipD_get _ _ _ _ hd
    obtain ⟨v1, t4, t5⟩ := q2.get t1
    obtain ⟨v2, t6, t7⟩ := p2.get t2
    refine ⟨⟨zs, us, v1, v2, q1, p1, t4, t6⟩, fun z H'' hz => ?_⟩
    obtain ⟨T, x', y', rfl, nT, rfl, hx', hy'⟩ := hz
    have z1 := hx' zs q1
    have z2 := hy' us p1
    rw [t4] at z1; rw [t6] at z2
    cases z1; cases z2
    subst t3
    exact pair_new s' nT t5 t7
theorem qi_zip {elts : List Expr} {kk : Nat} {tpos : Pos} (hg : Gl X "zip") (hm : X.mg "zip" = none) (ha : PA X [e, e2] (tA X W fa)) (hs : starEach [e, e2] X.env = (false, eval e X.env) :: starEach [e2] X.env := by rfl) (hpl : (backTo pos (starEach [e2] X.env)).any (·.1) = false := by rfl) : PI X (.Tuple elts kk tpos) (.Call (.Name "zip" p) [e, e2] [] pos) (tI X W (fiZ fa)) := PI.wk (pi_zip hg hm ha hs hpl) fun σ H R ⟨w, ρ, S, s, en, h⟩ =>
  ⟨w, ρ, S, s, en, (End.bind (R := fun w H => RpL X.K X.mg w H) h).imp (fun vs H1 ⟨w1, S1, ds, e1, s1, r1, h1⟩ => by
    split at h1
    · rename_i x y
      obtain ⟨v, u, rfl, r2, r3⟩ := r1.two_inv
      split at h1
      · rename_i xs ys g hx hy; exact zip_ok s1 r2 r3 hx hy (fun S' g' => ⟨trivial, g'⟩) h1
      · rename_i xs g ys hx hy; exact zip_ok s1 r2 r3 hx hy (fun S' g' => ⟨g', trivial⟩) h1
      · exact h1.elim
    · exact h1.elim) (fun _ _ _ z => z)⟩
end
noncomputable def forL (tg : FG) (b : FS) (g : Option (Nat × List D)) : List D → FS
  | [] => fun ρ S => gchk g S (.nx ρ S) .no
  | d :: r => fun ρ S => gchk g S (match tg d ρ S with
    | some (ρ1, S1) => (match b ρ1 S1 with
      | .nx ρ2 S2 => forL tg b g r ρ2 S2
      | .ct ρ2 S2 => forL tg b g r ρ2 S2
      | .bk ρ2 S2 => .nx ρ2 S2
      | z => z)
    | none => .no) .no
noncomputable def sFor (fi : FI) (tg : FG) (b : FS) : FS := fun ρ S => (fi ρ S).toS ρ fun p S1 => forL tg b p.2 p.1 ρ S1
theorem gchk_in {K : PySem.W.Frag} {mg : Str → Option Value} {w : Wd} {H : Hp} {D : Ends} {W : WX} {g : Option (Nat × List Kw.D)} {S : Store} {r : RS} (h : EndS K mg w H (gchk g S r .no) D W) : gd g S ∧ EndS K mg w H r D W := by
  unfold gchk at h
  split at h
  · rename_i k; exact ⟨k, h⟩
  · exact h.elim
section
variable {X : Cx} {W : WX} {tg iter : Expr} {body : List Stmt} {fi : FI} {g : FG} {sl : List Nat} {b : FS} {pos : Pos}
theorem q_for (hp : PassesOwn (model X.prog X.w) X.A X.env X.xe) (hc : X.calm = true) (hi : PI X tg iter (tI X W fi)) (hg : PG X tg (tG X sl g)) (hb : PSs X body (tS X W b)) (hs : ∀ x, foldedSetIterable iter X.env x = pure x := by intro _; rfl) : PS X (.For tg iter body [] pos) (tS X W (sFor fi g b)) :=
  PS.wk (ps_for hp hc hi hg hb hs) fun D σ H ⟨w, ρ, S, s, en, h⟩ => by
    refine ⟨w, ρ, S, s, en, (h.of (R := ItOk X.K X.mg) en).imp ?_ (fun _ _ _ z => z)⟩
    rintro J H1 ⟨w1, S1, ⟨items, gu⟩, e1, s1, J1, h1⟩
    refine ⟨fun i m σ' H' => ∃ w' ρ' S', i + m = items.length ∧ Ext w1 H1 w' H' ∧ Sto X.K X.mg w' S' H' ∧ EnvR X.K X.mg w' H' ρ' σ' ∧ EndS X.K X.mg w' H' (forL g b gu (items.drop i) ρ' S') D W, ⟨items.length, w1, ρ, S1, by omega, Ext.refl, s1, en.ext e1, h1⟩, ?_⟩
    rintro i m σ' H' ⟨w', ρ', S', hm, ex, s', en', h2⟩
    cases hd : items.drop i with
    | nil =>
      rw [hd] at h2
      unfold forL at h2
      obtain ⟨gd1, h3⟩ := gchk_in h2
      have hl : items.length ≤ i := List.drop_eq_nil_iff.mp hd
      exact .inl ⟨(J1 w' S' H' ex.mv s' gd1).1 i hl, h3.nx' s' en'⟩
    | cons d r =>
      rw [hd] at h2
      unfold forL at h2
      obtain ⟨gd1, h3⟩ := gchk_in h2
      have hi' : items[i]? = some d := by
        have := congrArg (·[0]?) hd
        simpa using this
      have hr : items.drop (i + 1) = r := by
        have := congrArg List.tail hd
        simpa using this
      have hlt : i < items.length := (List.getElem?_eq_some_iff.mp hi').1
      obtain ⟨j1, j2⟩ := (J1 w' S' H' ex.mv s' gd1).2 i d hi'
      refine .inr ⟨j1, fun σ2 H2 => ∃ w2 ρ2 S2, Ext w1 H1 w2 H2 ∧ Sto X.K X.mg w2 S2 H2 ∧ EnvR X.K X.mg w2 H2 ρ2 σ2 ∧ EndS X.K X.mg w2 H2 (forL g b gu r ρ2 S2) D W, ?_, ?_⟩
      · rintro σ2 H2 ⟨w2, ρ2, S2, a1, a2, a3, a4⟩
        exact ⟨m - 1, by omega, w2, ρ2, S2, by omega, a1, a2, a3, by rw [hr]; exact a4⟩
      · intro x H'' hy
        obtain ⟨j3, j4, j5⟩ := j2 x H'' hy
        have h3' := h3.on j3
        refine ⟨w', ρ', S', d, j4, en'.ext j3, j5, ?_⟩
        split at h3'
        · rename_i ρ1 S1' hg1
          rw [hg1]
          intro w2 H2 σ2 e2 s2 en2 _ _
          have h4 := h3'.on e2
          have ex2 : Ext w1 H1 w2 H2 := (ex.trans j3).trans e2
          refine ⟨w2, ρ1, S1', s2, en2, ?_⟩
          revert h4
          cases b ρ1 S1' with
          | nx ρ3 S3 => exact fun h4 w3 H3 σ3 e3 s3 en3 => ⟨w3, ρ3, S3, ex2.trans e3, s3, en3, h4.on e3⟩
          | ct ρ3 S3 => exact fun h4 w3 H3 σ3 e3 s3 en3 => ⟨w3, ρ3, S3, ex2.trans e3, s3, en3, h4.on e3⟩
          | bk ρ3 S3 => exact fun h4 => h4
          | rt d S3 => exact fun h4 => h4
          | ex x ρ3 S3 => exact fun h4 => h4
          | no => exact fun h4 => h4
        · exact h3'.elim
end
def wLoop (c : FT) (b : FS) : Nat → FS
  | 0 => fun _ _ => .no
  | n + 1 => fun ρ S => (c ρ S).toS ρ fun k S1 => match k with
    | true => (match b ρ S1 with
      | .nx ρ2 S2 => wLoop c b n ρ2 S2
      | .ct ρ2 S2 => wLoop c b n ρ2 S2
      | .bk ρ2 S2 => .nx ρ2 S2
      | z => z)
    | false => .nx ρ S1
open Classical in
noncomputable def sWhile (c : FT) (b : FS) : FS := fun ρ S => if h : ∃ n, wLoop c b n ρ S ≠ .no then wLoop c b (choose h) ρ S else .no
theorem wLoop_mono {c : FT} {b : FS} : ∀ {n m : Nat} {ρ : FEnv} {S : Store}, n ≤ m → wLoop c b n ρ S ≠ .no → wLoop c b m ρ S = wLoop c b n ρ S
  | 0, _, _, _, _, h => absurd rfl h
  | n + 1, 0, _, _, l, _ => absurd l (by omega)
  | n + 1, m + 1, ρ, S, l, h => by
    unfold wLoop at h ⊢
    cases hc : c ρ S with
    | ok k S1 =>
      rw [hc] at h
      cases k with
      | true =>
        simp only [RE.toS] at h ⊢
        cases hb : b ρ S1 with
        | nx ρ2 S2 =>
          rw [hb] at h
          exact wLoop_mono (Nat.le_of_succ_le_succ l) h
        | ct ρ2 S2 =>
          rw [hb] at h
          exact wLoop_mono (Nat.le_of_succ_le_succ l) h
        | _ => rfl
      | false => rfl
    | _ => rfl
theorem sWhile_eq {c : FT} {b : FS} {n : Nat} {ρ : FEnv} {S : Store} (h : wLoop c b n ρ S ≠ .no) : sWhile c b ρ S = wLoop c b n ρ S := by
  unfold sWhile
  have hx : ∃ n, wLoop c b n ρ S ≠ .no := ⟨n, h⟩
  rw [dif_pos hx]
  have hk := Classical.choose_spec hx
  rcases Nat.le_total n (Classical.choose hx) with l | l
  · exact wLoop_mono l h
  · exact (wLoop_mono l hk).symm
/-- one turn -/
theorem sWhile_step (c : FT) (b : FS) (ρ : FEnv) (S : Store) : sWhile c b ρ S = (c ρ S).toS ρ fun k S1 => match k with
    | true => (match b ρ S1 with
      | .nx ρ2 S2 => sWhile c b ρ2 S2
      | .ct ρ2 S2 => sWhile c b ρ2 S2
      | .bk ρ2 S2 => .nx ρ2 S2
      | z => z)
    | false => .nx ρ S1 := by
  by_cases hx : ∃ n, wLoop c b n ρ S ≠ .no
  · obtain ⟨n, hn⟩ := hx
    cases n with
    | zero => exact absurd rfl hn
    | succ n =>
      rw [sWhile_eq hn]
      unfold wLoop at hn ⊢
      cases hc : c ρ S with
      | ok k S1 =>
        rw [hc] at hn
        cases k with
        | true =>
          simp only [RE.toS] at hn ⊢
          cases hb : b ρ S1 with
          | nx ρ2 S2 => rw [hb] at hn; exact (sWhile_eq hn).symm
          | ct ρ2 S2 => rw [hb] at hn; exact (sWhile_eq hn).symm
          | _ => rfl
        | false => rfl
      | _ => rfl
  · have e0 : sWhile c b ρ S = .no := by unfold sWhile; rw [dif_neg hx]
    rw [e0]
    have key : ∀ n, wLoop c b n ρ S = .no := fun n => Classical.byContradiction fun z => hx ⟨n, z⟩
    cases hc : c ρ S with
    | ok k S1 =>
      cases k with
      | true =>
        simp only [RE.toS]
        have k1 : ∀ n, (match b ρ S1 with
            | .nx ρ2 S2 => wLoop c b n ρ2 S2
            | .ct ρ2 S2 => wLoop c b n ρ2 S2
            | .bk ρ2 S2 => .nx ρ2 S2
            | z => z) = RS.no := fun n => by
          have := key (n + 1)
          unfold wLoop at this
          rw [hc] at this
          exact this
        cases hb : b ρ S1 with
        | nx ρ2 S2 =>
          simp only [hb] at k1
          show RS.no = sWhile c b ρ2 S2
          unfold sWhile
          rw [dif_neg (fun ⟨n, hn⟩ => hn (k1 n))]
        | ct ρ2 S2 =>
          simp only [hb] at k1
          show RS.no = sWhile c b ρ2 S2
          unfold sWhile
          rw [dif_neg (fun ⟨n, hn⟩ => hn (k1 n))]
        | rt d1 S2 => have z := k1 0; rw [hb] at z; exact (nomatch z)
        | ex d1 ρ2 S2 => have z := k1 0; rw [hb] at z; exact (nomatch z)
        | bk ρ2 S2 => have z := k1 0; rw [hb] at z; exact (nomatch z)
        | no => rfl
      | false =>
        have := key 1
        unfold wLoop at this
        rw [hc] at this
        exact this.symm
    | ex x S1 =>
      have := key 1
      unfold wLoop at this
      rw [hc] at this
      exact this.symm
    | no => rfl
section
variable {X : Cx} {W : WX} {c : Expr} {body : List Stmt} {tc : FT} {b : FS} {pos : Pos}
theorem q_while (hp : PassesOwn (model X.prog X.w) X.A X.env X.xe) (hc : PT X c (tT X W tc)) (hb : PSs X body (tS X W b)) : PS X (.While c body [] pos) (tS X W (sWhile tc b)) :=
  PS.wk (ps_while hp hc hb) fun D σ H ⟨w, ρ, S, s, en, h⟩ => by
    refine ⟨fun m σ' H' => ∃ w' ρ' S', Sto X.K X.mg w' S' H' ∧ EnvR X.K X.mg w' H' ρ' σ' ∧ EndS X.K X.mg w' H' (wLoop tc b m ρ' S') D W, ?_, ?_⟩
    · unfold sWhile at h
      split at h
      · exact ⟨_, w, ρ, S, s, en, h⟩
      · exact h.elim
    · rintro m σ' H' ⟨w', ρ', S', s', en', h'⟩
      cases m with
      | zero => exact h'.elim
      | succ n =>
        unfold wLoop at h'
        refine ⟨w', ρ', S', s', en', (h'.of (R := fun _ _ (a b : Bool) => b = a) en').imp ?_ (fun _ _ _ z => z)⟩
        rintro k H1 ⟨w1, S1, k', e1, s1, rfl, h1⟩
        cases k with
        | false => rw [if_neg (by decide)]; exact h1.nx' s1 (en'.ext e1)
        | true =>
          rw [if_pos rfl]
          refine ⟨fun σ2 H2 => ∃ w2 ρ2 S2, Sto X.K X.mg w2 S2 H2 ∧ EnvR X.K X.mg w2 H2 ρ2 σ2 ∧ EndS X.K X.mg w2 H2 (wLoop tc b n ρ2 S2) D W, fun σ2 H2 h2 => ⟨n, Nat.lt_succ_self n, h2⟩, w1, ρ', S1, s1, en'.ext e1, ?_⟩
          revert h1
          cases b ρ' S1 with
          | nx ρ3 S3 => exact fun h4 w3 H3 σ3 e3 s3 en3 => ⟨w3, ρ3, S3, s3, en3, h4.on e3⟩
          | ct ρ3 S3 => exact fun h4 w3 H3 σ3 e3 s3 en3 => ⟨w3, ρ3, S3, s3, en3, h4.on e3⟩
          | bk ρ3 S3 => exact fun h4 => h4
          | rt d S3 => exact fun h4 => h4
          | ex x ρ3 S3 => exact fun h4 => h4
          | no => exact fun h4 => h4
end
def wipeR (ρ : FEnv) : List Nat → FEnv
  | [] => ρ
  | v :: vs => (wipeR ρ vs).set v none
noncomputable def compL (tg : FG) (tt : FT) (te : FE) (g : Option (Nat × List D)) (ρ : FEnv) : List D → List D → Store → RE (List D)
  | [], acc, S => gchk g S (.ok acc S) .no
  | d :: r, acc, S => gchk g S (match tg d ρ S with
    | some (ρ1, S1) => (match tt ρ1 S1 with
      | .ok true S2 => (match te ρ1 S2 with
        | .ok y S3 => if acc.length < sizeLine then compL tg tt te g ρ r (acc ++ [y]) S3 else .no
        | _ => .no)
      | .ok false S2 => compL tg tt te g ρ r acc S2
      | _ => .no)
    | none => .no) .no
/-- c: the list is a cell -/
noncomputable def fLc (c : Bool) (fi : FI) (tg : FG) (tt : FT) (te : FE) (vs : List Nat) : FE := fun ρ S => (fi ρ S).bnd fun p S1 => match compL tg tt te p.2 (wipeR ρ vs) p.1 [] S1 with
  | .ok acc S2 => if c then .ok (.loc S2.length) (S2 ++ [.lst acc]) else .ok (.lst acc) S2
  | _ => .no
def fYes : FT := fun _ S => .ok true S
abbrev W0 : WX := fun _ _ _ _ => False
theorem wipe_eq {σ σ' : L2.St} {vs : List Nat} (hl : σ'.length = σ.length) (h : ∀ i, i ∉ vs → σ'[i]? = σ[i]?) : wipe σ' vs = wipe σ vs := by
  have len : ∀ (σ : L2.St) (vs : List Nat), (wipe σ vs).length = σ.length := fun σ vs => wipe_length σ vs
  have at1 : ∀ (σ : L2.St) (vs : List Nat) (i : Nat), i < σ.length → (wipe σ vs)[i]? = if i ∈ vs then some none else σ[i]? := by
    intro σ vs
    induction vs with
    | nil => intro i _; rw [if_neg (by simp)]; rfl
    | cons v vs ih =>
      intro i hi
      show ((wipe σ vs).set v none)[i]? = _
      by_cases e : i = v
      · subst e
        rw [List.getElem?_set_self (by rw [len]; exact hi), if_pos (by simp)]
      · rw [List.getElem?_set_ne (Ne.symm e), ih i hi]
        by_cases m : i ∈ vs
        · rw [if_pos m, if_pos (List.mem_cons_of_mem _ m)]
        · rw [if_neg m, if_neg (by simp [e, m])]
  refine List.ext_getElem? fun i => ?_
  by_cases hi : i < σ.length
  · rw [at1 σ' vs i (hl ▸ hi), at1 σ vs i hi]
    split
    · rfl
    · rename_i m; exact h i m
  · rw [List.getElem?_eq_none (by rw [len, hl]; omega), List.getElem?_eq_none (by rw [len]; omega)]
theorem EnvR.wipe {K : PySem.W.Frag} {mg : Str → Option Value} {w : Wd} {H : Hp} {ρ : FEnv} {σ : L2.St} (en : EnvR K mg w H ρ σ) : ∀ vs : List Nat, EnvR K mg w H (wipeR ρ vs) (L2.wipe σ vs)
  | [] => en
  | v :: vs => (EnvR.wipe en vs).wipe1
theorem wipe_wipe (σ : L2.St) (vs : List Nat) : L2.wipe (L2.wipe σ vs) vs = L2.wipe σ vs := wipe_eq (wipe_length σ vs) fun i hi => wipe_out hi
section
variable {X : Cx} {W : WX} {elt tg iter : Expr} {ifs : List Expr} {scope : Scope} {own : List (Str × Nat)} {pos : Pos} {fi : FI} {g : FG} {sl : List Nat} {tt : FT} {te : FE}
theorem qts_nil : PTs X [] (tT X W fYes) := ⟨fun pins s σ H Q I ⟨w, ρ, S, st, en, h⟩ => pts_nil.run pins s σ H Q I (h.ret st rfl)⟩
theorem qts_one {c : Expr} {t : FT} (h : PT X c (tT X W t)) : PTs X [c] (tT X W t) := pts_one h
/-- the reading of a comprehension -/
theorem lc_core' {σ : L2.St} {H : Hp} {Q : VK} {c : Bool} {vs : List Nat} (hsl : ∀ i ∈ sl, i ∈ vs) (h : tF X W (fLc c fi g tt te vs) σ H Q) : tLc (tI X W fi) (tG X sl g) (tT X W0 tt) (tF X W0 te) vs σ H Q := by
  obtain ⟨w, ρ, S, s, en, h⟩ := h
  refine ⟨w, ρ, S, s, en, (End.bind (R := ItOk X.K X.mg) h).imp ?_ (fun _ _ _ z => z)⟩
  rintro J H1 ⟨w1, S1, ⟨items, gu⟩, e1, s1, J1, h1⟩ C hC
  have enw : EnvR X.K X.mg w1 H1 (wipeR ρ vs) (wipe σ vs) := (en.ext e1).wipe vs
  -- what is left to do, from the items, the list so far and the store
  let fin : RE (List D) → RE D := fun r => match r with
    | .ok acc S2 => if c then .ok (.loc S2.length) (S2 ++ [.lst acc]) else .ok (.lst acc) S2
    | _ => .no
  have h1' : End X.K X.mg (fun w H => Rp X.K X.mg w H) w1 H1 (fin (compL g tt te gu (wipeR ρ vs) items [] S1)) Q (fun c od H' => W c od σ H') := h1
  let G : Hp → List D → Store → RE (List D) → Prop := fun H' acc S' r => ∃ w' xs, ExtD C w1 H1 w' H' ∧ Sto X.K X.mg w' S' H' ∧ H' C = some (.lst xs) ∧ RpL X.K X.mg w' H' acc xs ∧ ∃ r0, fin r = r0 ∧ End X.K X.mg (fun w H => Rp X.K X.mg w H) w1 H1 r0 Q (fun c od H' => W c od σ H')
  refine ⟨fun i m H' => ∃ acc S', i + m = items.length ∧ G H' acc S' (compL g tt te gu (wipeR ρ vs) (items.drop i) acc S'), ⟨items.length, [], S1, by omega, ⟨w1.φ, C :: w1.hd⟩, [], ExtD.begin_ hC, s1.mvd hC, upd_same, RpL.nil, _, rfl, h1'⟩, ?_⟩
  rintro i m H' ⟨acc, S', hm, w', xs, ed, s', hx, ra, r0, hr0, he⟩
  have hCin : C ∈ w'.hd := by rw [ed.hd]; exact List.mem_cons_self
  have no_end : ∀ {r : RE D}, r = .no → End X.K X.mg (fun w H => Rp X.K X.mg w H) w1 H1 r Q (fun c od H' => W c od σ H') → False := fun e h => by rw [e] at h; exact h
  cases hd : items.drop i with
  | nil =>
    rw [hd] at hr0
    unfold compL at hr0
    unfold gchk at hr0
    split at hr0
    · rename_i gd1
      have hl : items.length ≤ i := List.drop_eq_nil_iff.mp hd
      refine .inl ⟨(J1 w' S' H' ed.mv s' gd1).1 i hl, ?_⟩
      have hout : some C ∉ w'.φ := (s'.ap C hCin).2
      have hnh : C ∉ w1.hd := fun z => (s1.ap C z).1 hC
      have mv := Mv.show (H := H') ed.hd
      have s3 := s'.show ed.hd ⟨xs, hx⟩
      have ra3 := RpL.mv mv _ _ ra
      subst hr0
      cases c with
      | false =>
        refine he ⟨w'.φ, w1.hd⟩ H' (.ref C) ed.done s3 ?_
        show Rp _ _ _ _ _ _
        unfold Rp
        exact ⟨C, xs, rfl, hx, ⟨hout, hnh⟩, ra3⟩
      | true =>
        -- the new list becomes a cell
        have ph : ∀ (n : Nat) a, (w'.φ ++ [some C])[n]? = some (some a) → (w'.φ[n]? = some (some a) ∧ n < w'.φ.length) ∨ (n = w'.φ.length ∧ a = C) := fun n a hk => by
          by_cases hl : n < w'.φ.length
          · rw [List.getElem?_append_left hl] at hk; exact .inl ⟨hk, hl⟩
          · have hl' : w'.φ.length ≤ n := Nat.le_of_not_lt hl
            rw [List.getElem?_append_right hl'] at hk
            have : n - w'.φ.length = 0 := by
              cases e : n - w'.φ.length with
              | zero => rfl
              | succ j => rw [e] at hk; simp at hk
            rw [this] at hk; simp at hk
            exact .inr ⟨by omega, hk.symm⟩
        have mv2 : Mv w' H' ⟨w'.φ ++ [some C], w1.hd⟩ H' := ⟨fun a o h n => by
          have hne : a ≠ C := fun z => by subst z; exact n.2 hCin
          refine ⟨h, fun z => ?_, fun z => n.2 (by rw [ed.hd]; exact List.mem_cons_of_mem _ z)⟩
          rcases List.mem_append.mp (show some a ∈ w'.φ ++ [some C] from z) with z | z
          · exact n.1 z
          · simp at z; exact hne z, by show _ ≤ (w'.φ ++ [some C]).length; rw [List.length_append]; omega, fun n a h l => by
          rcases ph n a h with z | z
          · exact z.1
          · omega⟩
        have ex2 : Ext w1 H1 ⟨w'.φ ++ [some C], w1.hd⟩ H' := ⟨ed.done.fr, Nat.le_trans ed.ln mv2.ln, fun n a h l => by
          rcases ph n a h with z | z
          · exact ed.ph n a z.1 l
          · have := ed.ln; omega, fun a h => by
          rcases List.mem_append.mp (show some a ∈ w'.φ ++ [some C] from h) with z | z
          · exact ed.nw a z
          · simp at z; subst z; exact .inr hC, rfl⟩
        have ra4 := RpL.mv mv2 _ _ ra
        have s4 : Sto X.K X.mg ⟨w'.φ ++ [some C], w1.hd⟩ (S' ++ [.lst acc]) H' := by
          refine ⟨by show (w'.φ ++ [some C]).length = _; rw [List.length_append, List.length_append, s'.len]; rfl, fun m n a q1 q2 => ?_, fun a ha => ⟨(s3.ap a ha).1, fun z => ?_⟩, fun n cc hc => ?_⟩
          · rcases ph m a q1 with ⟨z1, z2⟩ | ⟨z1, z2⟩ <;> rcases ph n a q2 with ⟨y1, y2⟩ | ⟨y1, y2⟩
            · exact s'.nd m n a z1 y1
            · subst y2; exact absurd (List.mem_of_getElem? z1) hout
            · subst z2; exact absurd (List.mem_of_getElem? y1) hout
            · omega
          · rcases List.mem_append.mp (show some a ∈ w'.φ ++ [some C] from z) with z | z
            · exact (s3.ap a ha).2 z
            · simp at z; subst z; exact hnh ha
          · by_cases hl : n < S'.length
            · rw [List.getElem?_append_left hl] at hc
              have c0 := s'.cell n cc hc
              have gl : (w'.φ ++ [some C])[n]? = w'.φ[n]? := List.getElem?_append_left (s'.len ▸ hl)
              unfold CellR at c0 ⊢
              split at c0
              · obtain ⟨b, ys, h2, h3, h4⟩ := c0; exact ⟨b, ys, by rw [← gl] at h2; exact h2, h3, RpL.mv mv2 _ _ h4⟩
              · obtain ⟨b, ys, o', h2, h3, h4⟩ := c0; exact ⟨b, ys, o', by rw [← gl] at h2; exact h2, h3, RpL.mv mv2 _ _ h4⟩
              · rw [← gl] at c0; exact c0
              · obtain ⟨c1, P, ht, t1, t2⟩ := c0; exact ⟨c1, P, ht, by rw [gl]; exact t1, TabW.mv mv2 rfl t2⟩
              · obtain ⟨y1, y2, y3, ⟨φ, y4, y6⟩, y5⟩ := c0
                refine ⟨by rw [gl]; exact y1, ?_, fun z => ?_, ⟨φ, y4, y6⟩, y5⟩
                · rw [ed.hd] at y2
                  rcases List.mem_cons.mp y2 with z | z
                  · rw [z, hx] at y4; cases y4
                  · exact z
                · rcases List.mem_append.mp (show some sysModules ∈ w'.φ ++ [some C] from z) with z | z
                  · exact y3 z
                  · simp at z; rw [z, hx] at y4; cases y4
              · exact ⟨by rw [gl]; exact c0.1, EnvR.mv mv2 c0.2⟩
              · obtain ⟨b, C1, dx, vs', h2, h3, h4, h5, h6⟩ := c0; exact ⟨b, C1, dx, vs', by rw [gl]; exact h2, h3, h4, h5, RpL.mv mv2 _ _ h6⟩
            · have hl' : S'.length ≤ n := Nat.le_of_not_lt hl
              rw [List.getElem?_append_right hl'] at hc
              have e0 : n - S'.length = 0 := by
                cases e : n - S'.length with
                | zero => rfl
                | succ j => rw [e] at hc; simp at hc
              rw [e0] at hc; simp at hc; subst hc
              have en' : n = w'.φ.length := by rw [s'.len]; omega
              subst en'
              exact ⟨C, xs, by show (w'.φ ++ [some C])[w'.φ.length]? = _; rw [List.getElem?_append_right (Nat.le_refl _), Nat.sub_self]; rfl, hx, ra4⟩
        refine he ⟨w'.φ ++ [some C], w1.hd⟩ H' (.ref C) ex2 s4 ?_
        show Rp _ _ _ _ _ _
        unfold Rp
        refine ⟨by show S'.length < (w'.φ ++ [some C]).length; rw [List.length_append, s'.len]; exact Nat.lt_succ_self _, fun a ha => ?_⟩
        have ha' : (w'.φ ++ [some C])[S'.length]? = some (some a) := ha
        rw [← s'.len, List.getElem?_append_right (Nat.le_refl _), Nat.sub_self] at ha'
        simp at ha'; rw [ha']
    · exact (no_end hr0.symm he).elim
  | cons d r =>
    rw [hd] at hr0
    unfold compL at hr0
    unfold gchk at hr0
    split at hr0
    · rename_i gd1
      have hi' : items[i]? = some d := by
        have := congrArg (·[0]?) hd
        simpa using this
      have hr : items.drop (i + 1) = r := by
        have := congrArg List.tail hd
        simpa using this
      have hlt : i < items.length := (List.getElem?_eq_some_iff.mp hi').1
      obtain ⟨j1, j2⟩ := (J1 w' S' H' ed.mv s' gd1).2 i d hi'
      refine .inr ⟨j1, fun H2 => ∃ acc2 S2, G H2 acc2 S2 (compL g tt te gu (wipeR ρ vs) r acc2 S2), fun H2 ⟨acc2, S2, z⟩ => ⟨m - 1, by omega, acc2, S2, by omega, by rw [hr]; exact z⟩, ?_⟩
      intro x H'' hy
      obtain ⟨j3, j4, j5⟩ := j2 x H'' hy
      have enw' : EnvR X.K X.mg w' H'' (wipeR ρ vs) (wipe σ vs) := (enw.mv ed.mv).ext j3
      refine ⟨w', wipeR ρ vs, S', d, j4, enw', j5, ?_⟩
      split at hr0
      · rename_i ρ1 S1' hg1
        rw [hg1]
        intro w2 H2 σ2 e2 s2 en2 k2 l2
        have hw : wipe σ2 vs = wipe σ vs := by
          rw [← wipe_wipe σ vs]
          exact wipe_eq l2 fun i hi => k2 i (fun z => hi (hsl i z))
        refine ⟨hw, w2, ρ1, S1', s2, en2, ?_⟩
        have ed2 : ExtD C w1 H1 w2 H2 := (ed.step j3).step e2
        split at hr0
        · rename_i S2' ht
          rw [ht]
          intro w3 H3 b e3 s3 hb
          cases hb
          rw [if_pos rfl]
          refine ⟨w3, ρ1, S2', s3, en2.ext e3, ?_⟩
          split at hr0
          · rename_i y S3' hy'
            rw [hy']
            intro w4 H4 u e4 s4 r4
            have ed4 : ExtD C w1 H1 w4 H4 := (ed2.step e3).step e4
            have hC4 : C ∈ w4.hd := by rw [ed4.hd]; exact List.mem_cons_self
            have exx : Ext w' H' w4 H4 := ((j3.trans e2).trans e3).trans e4
            have hx4 : H4 C = some (.lst xs) := exx.fr C _ hx (s'.ap C hCin).2
            have ra4 := RpL.ext exx _ _ ra
            split at hr0
            · rename_i hlen
              refine ⟨xs, hx4, by rw [← ra.length]; exact hlen, acc ++ [y], S3', w4, xs ++ [u], ed4.poke, s4.poke hC4 ⟨xs, hx4⟩, upd_same, ?_, _, hr0, he⟩
              exact (RpL.mv (Mv.poke hC4) _ _ ra4).append (RpL.one (Rp.mv (Mv.poke hC4) _ _ r4))
            · exact (no_end hr0.symm he).elim
          · exact (no_end hr0.symm he).elim
        · rename_i S2' ht
          rw [ht]
          intro w3 H3 b e3 s3 hb
          cases hb
          rw [if_neg (by decide)]
          have exx : Ext w' H' w3 H3 := (j3.trans e2).trans e3
          exact ⟨acc, S2', w3, xs, ed2.step e3, s3, exx.fr C _ hx (s'.ap C hCin).2, RpL.ext exx _ _ ra, _, hr0, he⟩
        · exact (no_end hr0.symm he).elim
      · exact (no_end hr0.symm he).elim
    · exact (no_end hr0.symm he).elim
theorem q_lc {c : Bool} (hc : X.calm = true) (hN : X.N.Nodup) (hi : PI X tg iter (tI X W fi)) (ok : BlkOk X.N X.env.scope scope own) (hsl : ∀ i ∈ sl, i ∈ own.map (·.2))
    (hg : ∀ (s : Shared) (H : Hp) (C : Addr) (cl : List (Str × Addr)) (fp : List Addr), PG (X.blk s H scope (compEnvC scope cl C X.env) fp) tg (tG (X.blk s H scope (compEnvC scope cl C X.env) fp) sl g)) (ht : ∀ (s : Shared) (H : Hp) (C : Addr) (cl : List (Str × Addr)) (fp : List Addr), PTs (X.blk s H scope (compEnvC scope cl C X.env) fp) ifs (tT (X.blk s H scope (compEnvC scope cl C X.env) fp) W0 tt))
    (he : ∀ (s : Shared) (H : Hp) (C : Addr) (cl : List (Str × Addr)) (fp : List Addr), PE (X.blk s H scope (compEnvC scope cl C X.env) fp) elt (tF (X.blk s H scope (compEnvC scope cl C X.env) fp) W0 te)) (hs : ∀ x, foldedSetIterable iter X.env x = pure x := by intro _; rfl) :
    PE X (.ListComp elt [⟨tg, iter, ifs, 0⟩] scope pos) (tF X W (fLc c fi g tt te (own.map (·.2)))) :=
  PE.wk (pe_lc (g := tG X sl g) (tt := tT X W0 tt) (te := tF X W0 te) hc hN hi ok hg ht he hs) fun σ H Q h => lc_core' hsl h
theorem q_setLc {c : Bool} {i : Nat} {y : Str} {py spos : Pos} (hc : X.calm = true) (hN : X.N.Nodup) (hy : X.N[i]? = some y) (hyl : X.env.scope.names.lookup y = some .local)
    (hsw : swapsWith (.ListComp elt [⟨tg, iter, ifs, 0⟩] scope pos) (some (.Name y py)) spos.line X.env = pure true) (hi : PI X tg iter (tI X W fi)) (ok : BlkOk X.N X.env.scope scope own) (hsl : ∀ i ∈ sl, i ∈ own.map (·.2))
    (hg : ∀ (s : Shared) (H : Hp) (C : Addr) (cl : List (Str × Addr)) (fp : List Addr), PG (X.blk s H scope (compEnvC scope cl C X.env) fp) tg (tG (X.blk s H scope (compEnvC scope cl C X.env) fp) sl g)) (ht : ∀ (s : Shared) (H : Hp) (C : Addr) (cl : List (Str × Addr)) (fp : List Addr), PTs (X.blk s H scope (compEnvC scope cl C X.env) fp) ifs (tT (X.blk s H scope (compEnvC scope cl C X.env) fp) W0 tt))
    (he : ∀ (s : Shared) (H : Hp) (C : Addr) (cl : List (Str × Addr)) (fp : List Addr), PE (X.blk s H scope (compEnvC scope cl C X.env) fp) elt (tF (X.blk s H scope (compEnvC scope cl C X.env) fp) W0 te)) (hs : ∀ x, foldedSetIterable iter X.env x = pure x := by intro _; rfl) :
    PS X (.Assign [.Name y py] (.ListComp elt [⟨tg, iter, ifs, 0⟩] scope pos) spos) (tS X W (sSet i (fLc c fi g tt te (own.map (·.2))))) :=
  PS.wk (ps_setLc (g := tG X sl g) (tt := tT X W0 tt) (te := tF X W0 te) hc hN hy hyl hsw hi ok hg ht he hs) fun D σ H ⟨w, ρ, S, s, en, h⟩ => by
    refine lc_core' (Q := fun x H1 => gName i x σ H1 D.nx) hsl ⟨w, ρ, S, s, en, (h.of (R := fun w H => Rp X.K X.mg w H) en).imp (fun v H1 ⟨w1, S1, d, e1, s1, r1, h1⟩ => h1.nx' s1 ((en.ext e1).set r1)) (fun _ _ _ z => z)⟩
end
end Kw
namespace Kw
open PySem PySem.Spec PyProof.Rows L2
/-- a constant's value -/
def CV (d : D) (v : V) : Prop := match d with
  | .int i => v = .int i
  | .str z => v = .str z
  | _ => False
theorem CV.rp {K : PySem.W.Frag} {mg : Str → Option Value} {w : Wd} {H : Hp} {d : D} {v : V} (h : CV d v) : Rp K mg w H d v := by
  cases d <;> first | (exact h.elim) | (have h' := h; unfold CV at h'; subst h'; unfold Rp; rfl)
/-- the name x holds the constant d -/
def GC (mg : Str → Option Value) (x : Str) (d : D) : Prop := ∃ v u, mg x = some u ∧ RelV v u ∧ CV d v
/-- .. a dict with text keys and constants -/
def GD (K : PySem.W.Frag) (P : Params) (mg : Str → Option Value) (x : Str) (kvs : List (Str × D)) : Prop :=
  ∃ a es n, mg x = some (.ref a) ∧ K.lookup a = some ⟨.type "dict", none, .dict es n, #[]⟩ ∧ PySem.W.KeysLit P es.toList ∧ (a == sysModules) = false ∧
    ∀ z, match kvs.lookup z with
      | some d => ∃ u v, PySem.W.nsIn K a z = some (some u) ∧ RelV v u ∧ CV d v
      | none => PySem.W.nsIn K a z = some none
inductive Ents : List DictEntry → List (Str × D) → Prop
  | nil : Ents [] []
  | cons {h : Int} {k : Str} {t : Tok} {u : Value} {v : V} {d : D} {es : List DictEntry} {kvs : List (Str × D)} (r : RelV v u) (c : CV d v) (rest : Ents es kvs) : Ents (⟨h, .str k t, u⟩ :: es) ((k, d) :: kvs)
theorem Ents.find {es : List DictEntry} {kvs : List (Str × D)} (e : Ents es kvs) (z : Str) : match kvs.lookup z with
      | some d => ∃ en v, es.find? (·.key.isStr z) = some en ∧ RelV v en.val ∧ CV d v
      | none => es.find? (·.key.isStr z) = none := by
  induction e with
  | nil => rfl
  | @cons h k t u v d es kvs r c rest ih =>
    by_cases hz : z = k
    · subst hz
      have e1 : List.lookup z ((z, d) :: kvs) = some d := by simp [List.lookup]
      rw [e1]
      refine ⟨⟨h, .str z t, u⟩, v, ?_, r, c⟩
      rw [List.find?_cons_of_pos]
      simp [PySem.W.isStr_of, Value.isStrOf]
    · have e1 : List.lookup z ((k, d) :: kvs) = List.lookup z kvs := by
        have : (z == k) = false := by simpa using hz
        simp [List.lookup, this]
      rw [e1]
      have e2 : List.find? (·.key.isStr z) ((⟨h, .str k t, u⟩ : DictEntry) :: es) = List.find? (·.key.isStr z) es := by
        rw [List.find?_cons_of_neg]
        simp [PySem.W.isStr_of, Value.isStrOf]
        exact fun q => hz q.symm
      rw [e2]; exact ih
theorem Ents.noRef {es : List DictEntry} {kvs : List (Str × D)} (e : Ents es kvs) : es.any (·.refKey) = false := by
  induction e with
  | nil => rfl
  | cons r c rest ih => rw [List.any_cons, ih]; rfl
theorem GD.of {K : PySem.W.Frag} {P : Params} {mg : Str → Option Value} {x : Str} {kvs : List (Str × D)} {a : Addr} {es : Array DictEntry} {n : Nat} (m : mg x = some (.ref a)) (l : K.lookup a = some ⟨.type "dict", none, .dict es n, #[]⟩) (k : PySem.W.KeysLit P es.toList) (s : (a == sysModules) = false) (e : Ents es.toList kvs) : GD K P mg x kvs := by
  refine ⟨a, es, n, m, l, k, s, fun z => ?_⟩
  have f := e.find z
  have u : PySem.W.nsIn K a z = match es.toList.find? (·.key.isStr z) with
      | some e => some (some e.val)
      | none => if es.toList.any (·.refKey) then none else some none := by unfold PySem.W.nsIn; rw [l]; rfl
  split at f
  · obtain ⟨en, v, f1, f2, f3⟩ := f
    exact ⟨en.val, v, by rw [u, f1], f2, f3⟩
  · rw [u, f, e.noRef]; rfl
theorem RpL.ints {K : PySem.W.Frag} {mg : Str → Option Value} {w : Wd} {H : Hp} : ∀ ns : List Int, RpL K mg w H (ns.map D.int) (ns.map V.int)
  | [] => RpL.nil
  | i :: r => RpL.cons (by unfold Rp; rfl) (RpL.ints r)
def gInG (neg : Bool) (n : Str) (kvs : List (Str × D)) (x y : D) (S : Store) : RE D := match x, y with
  | .str z, .glo m => if m = n then .ok (.bl (xor neg (kvs.lookup z).isSome)) S else .no
  | _, _ => .no
def gIxG (n : Str) (kvs : List (Str × D)) (x y : D) (S : Store) : RE D := match x, y with
  | .glo m, .str z => if m = n then (match kvs.lookup z with
    | some d => .ok d S
    | none => .no) else .no
  | _, _ => .no
def gNeg (x : D) (S : Store) : RE D := match x with
  | .int i => .ok (.int (-i)) S
  | _ => .no
section
variable {X : Cx} {W : WX} {a b e : Expr} {es : List Expr} {fa fb : FE} {fs : FA} {pos : Pos} {x : Str} {kvs : List (Str × D)} {d : D}
theorem q_gc (h : GC X.mg x d) (hg : Gl X x) (hd : (x == ("__debug__" : Str)) = false := by decide) : PE X (.Name x pos) (tF X W (fC d)) := by
  obtain ⟨v, u, m, r, c⟩ := h
  exact q_const (fun w H => c.rp) (pe_glob hg m r hd)
theorem q_gd (h : GD X.K X.w.params X.mg x kvs) (hg : Gl X x) (hd : (x == ("__debug__" : Str)) = false := by decide) : PE X (.Name x pos) (tF X W (fC (.glo x))) := by
  obtain ⟨a, es, n, m, _⟩ := h
  exact q_const (v := .ref a) (fun w H => by unfold Rp; exact ⟨a, rfl, m⟩) (pe_glob hg m rfl hd)
theorem op_inG {neg : Bool} {op : CmpOp} (ho : op = if neg then .NotIn else .In) (h : GD X.K X.w.params X.mg x kvs) : ∃ r, OpR X (compareOp op) r ∧ OpV X.K X.mg r (gInG neg x kvs) := by
  obtain ⟨a, es, n, m, l, k, s, f⟩ := h
  have D : KDict X.K X.w a es n := ⟨l, k, s⟩
  have key : ∀ z, PySem.W.nsIn X.K a z = some (match kvs.lookup z with
      | some d => PySem.W.nsIn X.K a z |>.getD none
      | none => none) ∧ ((match kvs.lookup z with
      | some d => PySem.W.nsIn X.K a z |>.getD none
      | none => none).isSome = (kvs.lookup z).isSome) := fun z => by
    have fz := f z
    split at fz
    · rename_i d hd
      obtain ⟨u, v, f1, _, _⟩ := fz
      rw [hd, f1]; exact ⟨rfl, rfl⟩
    · rename_i hd
      rw [hd]; exact ⟨fz, rfl⟩
  have body : ∀ (w : Wd) (S : Store) (H : Hp) (x' y : V) (d e : Kw.D) (Q : VK) (E : Value → Option Addr → Hp → Prop), Sto X.K X.mg w S H → Rp X.K X.mg w H d x' → Rp X.K X.mg w H e y → End X.K X.mg (fun w H => Rp X.K X.mg w H) w H (gInG neg x kvs d e S) Q E → ∃ (z : Str) (r : Option Value), x' = .str z ∧ y = .ref a ∧ PySem.W.nsIn X.K a z = some r ∧ Q (.bl (xor neg r.isSome)) H := by
    intro w S H x' y d e Q E st r1 r2 h
    cases d <;> cases e <;> simp only [gInG] at h <;> try exact h.elim
    rename_i z m'
    split at h
    · rename_i em
      subst em
      unfold Rp at r2
      obtain ⟨b, e1, e2⟩ := r2
      rw [m] at e2; cases e2
      obtain ⟨k1, k2⟩ := key z
      exact ⟨z, _, rp_str r1, e1, k1, by rw [k2]; exact h.ret st rp_b⟩
    · exact h.elim
  cases neg with
  | false =>
    subst ho
    refine ⟨_, op_in_kd D, fun w S H x' y d e Q E st r1 r2 h => ?_⟩
    obtain ⟨z, r, h1, h2, h3, h4⟩ := body w S H x' y d e Q E st r1 r2 h
    exact ⟨z, r, h1, h2, h3, by simpa using h4⟩
  | true =>
    subst ho
    refine ⟨_, op_notIn_kd D, fun w S H x' y d e Q E st r1 r2 h => ?_⟩
    obtain ⟨z, r, h1, h2, h3, h4⟩ := body w S H x' y d e Q E st r1 r2 h
    exact ⟨z, r, h1, h2, h3, by simpa using h4⟩
theorem qt_inG (h : GD X.K X.w.params X.mg x kvs) (ha : PE X a (tF X W fa)) (hb : PE X b (tF X W fb)) (hm : behindInMarks .In b = false := by rfl) : PT X (.Compare a [.In] [b] pos) (tT X W (fB (f2 (gInG false x kvs) fa fb))) := by
  obtain ⟨r, h1, h2⟩ := op_inG (neg := false) (op := .In) rfl h
  exact qt_cmp h1 h2 ha hb hm
theorem q_neg (ha : PE X a (tF X W fa)) : PE X (.UnaryOp .USub a pos) (tF X W (f1 gNeg fa)) := PE.wk (pe_un un_neg ha) fun σ H Q ⟨w, ρ, S, s, en, h⟩ =>
  ⟨w, ρ, S, s, en, (End.bind (R := fun w H => Rp X.K X.mg w H) h).imp (fun v H1 ⟨w1, S1, d, e1, s1, r1, h1⟩ => by
    cases d <;> simp only [gNeg] at h1 <;> try exact h1.elim
    exact ⟨_, rp_int r1, h1.ret s1 rp_i⟩) (fun _ _ _ z => z)⟩
end
def ExcF (K : PySem.W.Frag) (mg : Str → Option Value) (x : Str) : Prop := ∃ C, mg x = some (.ref C) ∧ PySem.W.excIn K C [.type "ValueError", .type "Exception", .type "BaseException", .type "object"] "ValueError.__new__" = true ∧
  PySem.W.keepIn K (.ref C) = true ∧ PySem.W.subIn K (.ref C) (.type "BaseException") = some true ∧ PySem.W.typeIn K (.ref C) = some (.type "type")
def sRaise (x : Str) : FS := fun ρ S => .ex ⟨x, [], []⟩ ρ S
def RS.noX (r : RS) : RS := match r with
  | .ex _ _ _ => .no
  | r => r
/-- es: the classes that may come; sub: those that the clause names -/
def sTry (es : List Str) (sub : Str → Bool) (b c : FS) : FS := fun ρ S => match b ρ S with
  | .ex x ρ' S' => if x.cls ∈ es then (if sub x.cls then (c ρ' S').noX else .ex x ρ' S') else .no
  | r => r
section
variable {X : Cx} {W : WX} {x m : Str} {j : Nat} {p p2 pos pos' : Pos}
theorem q_raise (hc : X.calm = true) (tk : Takes X W) (h : ExcF X.K X.mg x) (hg : Gl X x) (hdb : (x == ("__debug__" : Str)) = false := by decide) : PS X (.Raise (some (.Call (.Name x p) [.Constant (.str m) j p2] [] pos)) none pos') (tS X W (sRaise x)) := by
  obtain ⟨C, gC, xC, kC, bC, tC⟩ := h
  refine PS.wk (ps_raise hc tk (pmk_own PySem.F.excBase_ValueError xC gC kC (raises_own bC tC) hg hdb)) fun D σ H ⟨w, ρ, S, s, en, h⟩ => ?_
  exact h w H σ (.ref C) none Ext.refl s en ⟨gC, .inl ⟨rfl, rfl, rfl⟩⟩
theorem q_try {body suite : List Stmt} {b₀ : Stmt} {np : Pos} {es : List Str} {sub : Str → Bool} {fb fc : FS} {c : Value} (hs : X.stack = X.env :: X.outer) (hf : X.env.frame = some X.env.locals) (hc : Names X x c) (tk : Takes X W)
    (hx : ∀ y ∈ es, ∀ cy, X.mg y = some cy → PySem.W.exmOne X.K cy c = some (sub y))
    (hb : ∀ (W' : WX) (pn : List (Addr × Obj)) (xe : Value → Shared → Prop), Takes (X.tr pn xe) W' → PassesOwn (model X.prog X.w) X.A X.env xe → PSs (X.tr pn xe) body (tS (X.tr pn xe) W' fb))
    (hsu : ∀ (a : Addr) (pn : List (Addr × Obj)), PSs (X.suite a pn) (b₀ :: suite) (tS (X.suite a pn) W0 fc)) :
    PS X (.Try body [.ExceptHandler (some (.Name x np)) none (b₀ :: suite) pos'] [] [] pos) (tS X W (sTry es sub fb fc)) := by
  refine PS.wk (ps_try_only (tb := fun W' => tS X W' fb) (ts := fun a cls d => tS X W0 fc) (Wout := W) hs hf hc tk (fun W' pn xe t o => hb W' pn xe t o) (fun a oe cls d pn _ _ => hsu a _)) fun D σ H ⟨w, ρ, S, s, en, h⟩ => ?_
  refine ⟨w, ρ, S, s, en, ?_⟩
  unfold sTry at h
  cases hbb : fb ρ S with
  | ex y ρ' S' =>
    rw [hbb] at h
    simp only at h
    split at h
    · rename_i hm
      intro w' H' σ' cy od e s' en' ex
      obtain ⟨gy, hr⟩ := ex
      refine ⟨sub y.cls, hx _ hm _ gy, fun hs a na => ?_, fun hs => ?_⟩
      · rw [if_pos hs] at h
        refine ⟨w', ρ', S', s', en', ?_⟩
        have h2 := h.on e
        revert h2
        cases fc ρ' S' with
        | ex x2 ρ2 S2 => exact fun h2 => h2.elim
        | _ => exact fun h2 => h2
      · rw [if_neg (by rw [hs]; decide)] at h
        exact h w' H' σ' cy od e s' en' ⟨gy, hr⟩
    · exact h.elim
  | _ => rw [hbb] at h; exact h
end
end Kw
namespace Kw
open PySem PySem.Spec PyProof.Rows L2
/-- the def x stands at the module's top -/
def TF (K : PySem.W.Frag) (mg : Str → Option Value) (x : Str) (st : Stmt) (ps : List Str) : Prop := ∃ f fd, Fun K x x st f fd ∧ mg x = some (.ref f) ∧ Binds K fd ps []
section
variable {K : PySem.W.Frag} {mg : Str → Option Value} {h : Heap}
theorem tf_mk {x : Str} {st : Stmt} {ps : List Str} {f : Addr} {oc : Value} {od an : Option Addr} {osl : Array (Option Value)} {kV doc pm cdv ct : Value} (X : K.In h) (G : h.Ns mainGlobals mg) (a : PySem.W.nsIn K mainGlobals x = some (some (.ref f)))
    (l : K.lookup f = some ⟨oc, od, .func (PySem.W.fnOf x x (defArgs st) (defBody st) (defScope st) .none kV doc pm an cdv ct), osl⟩) (c : PySem.W.codeIn K cdv x = true) (k : PySem.W.keepIn K (.ref f) = true)
    (hb : ∀ (kV doc pm : Value) (an : Option Addr) (cdv ct : Value) (us : List Value), us.length = ps.length → bindArgs (PySem.W.fnOf x x (defArgs st) (defBody st) (defScope st) .none kV doc pm an cdv ct) ⟨us, []⟩ = pure (ps.zip us)) : TF K mg x st ps :=
  ⟨f, _, fun_mk l c k, PySem.W.mg_of X G a, (fun_mk l c k).binds hb⟩
theorem bl_mk {x : Str} (X : K.In h) (G : h.Ns mainGlobals mg) (z : PySem.W.nsIn K mainGlobals x = some none) : mg x = none := PySem.W.mg_none_of X G z
theorem gc_int {x : Str} {i : Int} {t : Tok} (X : K.In h) (G : h.Ns mainGlobals mg) (z : PySem.W.nsIn K mainGlobals x = some (some (.int i t))) : GC mg x (.int i) := ⟨.int i, _, PySem.W.mg_of X G z, ⟨t, rfl⟩, rfl⟩
theorem gc_str {x : Str} {i : Str} {t : Tok} (X : K.In h) (G : h.Ns mainGlobals mg) (z : PySem.W.nsIn K mainGlobals x = some (some (.str i t))) : GC mg x (.str i) := ⟨.str i, _, PySem.W.mg_of X G z, ⟨t, rfl⟩, rfl⟩
theorem gd_mk {P : Params} {x : Str} {kvs : List (Str × D)} {a : Addr} {es : Array DictEntry} {n : Nat} (X : K.In h) (G : h.Ns mainGlobals mg) (z : PySem.W.nsIn K mainGlobals x = some (some (.ref a))) (l : K.lookup a = some ⟨.type "dict", none, .dict es n, #[]⟩) (k : PySem.W.KeysLit P es.toList) (s : (a == sysModules) = false) (e : Ents es.toList kvs) : GD K P mg x kvs :=
  GD.of (PySem.W.mg_of X G z) l k s e
theorem exc_mk {x : Str} {C : Addr} (X : K.In h) (G : h.Ns mainGlobals mg) (z : PySem.W.nsIn K mainGlobals x = some (some (.ref C))) (h1 : PySem.W.excIn K C [.type "ValueError", .type "Exception", .type "BaseException", .type "object"] "ValueError.__new__" = true)
    (h2 : PySem.W.keepIn K (.ref C) = true) (h3 : PySem.W.subIn K (.ref C) (.type "BaseException") = some true) (h4 : PySem.W.typeIn K (.ref C) = some (.type "type")) : ExcF K mg x := ⟨C, PySem.W.mg_of X G z, h1, h2, h3, h4⟩
end
section
variable {P : Program} {w : World} {K : PySem.W.Frag} {mg : Str → Option Value} {base : Heap}
theorem cal_zero {x : Str} {st : Stmt} {ps : List Str} (T : TF K mg x st ps) (hps : ps = (defArgs st).args.map (·.arg) := by rfl) : Cal P w K mg base 0 x (fun _ _ => .no) := by
  obtain ⟨f, fd, F, m, b⟩ := T
  exact ⟨f, fd, ps, ⟨fun vs H Q E ⟨w, S, ds, s, r, l, h⟩ => by rw [← r.length]; exact l, fun A outer s H args us vs Q E _ _ _ _ ⟨w, S, ds, st, r, l, h⟩ => h.elim⟩, m, F.kp, b, fun _ _ _ => rfl, hps.trans (fun_names F).symm, fun_look F⟩
theorem calB {x : Str} {st : Stmt} {N ps : List Str} {k : Nat} {b : FS} (T : TF K mg x st ps) (S : FnScope N ps (defScope st))
    (hb : ∀ (f : Addr) (cdv : Value) (A : Around) (outer : List Env) (s : Shared) (H : Hp) (E : XK), RoomG k (A.deeper (envOfC x (defScope st) s.heap.objs.size f cdv)) →
      PSs (cxOf (L2.CX P w) P w K mg base N x (defScope st) f cdv A outer s H E) (defBody st) (tS (cxOf (L2.CX P w) P w K mg base N x (defScope st) f cdv A outer s H E) (fun c d _ H => E c d H) b)) (hps : ps = (defArgs st).args.map (·.arg) := by rfl) :
    Cal P w K mg base (k + 1) x (fnB ps.length N.length b) := by
  obtain ⟨f, fd, F, m, bd⟩ := T
  exact cal_B F S m bd hps (hb f)
theorem calC {x : Str} {st : Stmt} {N ps : List Str} {k : Nat} {b : FS} (T : TF K mg x st ps) (S : FnScope N ps (defScope st))
    (hb : ∀ (f : Addr) (cdv : Value) (A : Around) (outer : List Env) (s : Shared) (H : Hp) (E : XK), RoomG k (A.deeper (envOfC x (defScope st) s.heap.objs.size f cdv)) →
      PSs (cxOf (L2.CX P w) P w K mg base N x (defScope st) f cdv A outer s H E) (defBody st) (tS (cxOf (L2.CX P w) P w K mg base N x (defScope st) f cdv A outer s H E) (fun c d _ H => E c d H) b)) (hps : ps = (defArgs st).args.map (·.arg) := by rfl) :
    Cal P w K mg base (k + 1) x (fnC ps.length N.length b) := by
  obtain ⟨f, fd, F, m, bd⟩ := T
  exact cal_C F S m bd hps (hb f)
end
theorem hu2 {A : Around} {k : Nat} (hr : RoomG k A) : A.units + 200 < cLine := by have := hr.rm.un; omega
section
variable {K : PySem.W.Frag} {mg : Str → Option Value}
/-- the heap in which nothing is told but the script -/
def scrO (vs : List Value) : Obj := { cls := .type "list", data := .seq vs.toArray }
theorem cx_no {P : Program} {w : World} {H : Hp} {s s' : Shared} {e : Value} (h : L2.CX P w [] H s (fun _ _ _ => False) e s') : False := by
  obtain ⟨_, _, _, _, _, _, _, _, _, _, _, _, z⟩ := h
  exact z
end
end Kw
namespace Kw
open PySem PySem.Spec PyProof.Rows L2
def lookK (k : Key) : List Key → List D → Option D
  | a :: ks, d :: ds => if a = k then some d else lookK k ks ds
  | _, _ => none
/-- a dict that is asked -/
def gIxD (x y : D) (S : Store) : RE D := match x with
  | .dic ks ds => (match y with
    | .str z => (match lookK (.inr z) ks ds with
      | some d => .ok d S
      | none => .no)
    | .int i => (match lookK (.inl i) ks ds with
      | some d => .ok d S
      | none => .no)
    | _ => .no)
  | _ => .no
end Kw
namespace Kw
open PySem PySem.Spec PyProof.Rows L2
theorem ofString_inj {a b : String} (h : Str.ofString a = Str.ofString b) : a = b := by
  have h1 : (Str.ofString a).cps.toList = (Str.ofString b).cps.toList := by rw [h]
  have key : ∀ s : String, (Str.ofString s).cps.toList = s.toList.map Char.toNat := fun s => by
    show ((cpsOfBytes 0 0 s.toByteArray.data.toList).toArray).toList = _
    rw [cpsOfBytes_string]
  rw [key, key] at h1
  have inj : ∀ {l m : List Char}, l.map Char.toNat = m.map Char.toNat → l = m := fun {l m} h => List.map_inj_right (fun x y e => Char.toNat_inj.mp e) |>.mp h
  have h2 := inj h1
  rw [← String.ofList_toList (s := a), ← String.ofList_toList (s := b), h2]
@[simp] theorem ofString_eq {a b : String} : (Str.ofString a = Str.ofString b) ↔ a = b := ⟨ofString_inj, fun h => by rw [h]⟩
@[simp] theorem ofString_beq {a b : String} : (Str.ofString a == Str.ofString b) = decide (a = b) := by
  by_cases h : a = b
  · subst h; simp
  · have : Str.ofString a ≠ Str.ofString b := fun q => h (ofString_inj q)
    simp [h, this]
@[simp] theorem strOk_of (a : String) : PyData.strOk (Str.ofString a) = true := by
  have key : (Str.ofString a).cps.toList = a.toList.map Char.toNat := by
    show ((cpsOfBytes 0 0 a.toByteArray.data.toList).toArray).toList = _
    rw [cpsOfBytes_string]
  unfold PyData.strOk
  rw [← Array.all_toList, key, List.all_map, List.all_eq_true]
  intro c _
  have h := c.valid
  simp only [UInt32.isValidChar, Nat.isValidChar] at h
  show decide (c.toNat < 1114112) = true
  rw [decide_eq_true_eq]
  show c.val.toNat < 1114112
  omega
section
variable {α β : Type} {a : α} {S : Store} {x : Ex} {f : α → Store → RE β} {ρ : FEnv} {k : α → Store → RS}
@[simp] theorem bnd_ok : (RE.ok a S).bnd f = f a S := rfl
@[simp] theorem bnd_ex : (RE.ex x S : RE α).bnd f = .ex x S := rfl
@[simp] theorem bnd_no : (RE.no : RE α).bnd f = .no := rfl
@[simp] theorem toS_ok : (RE.ok a S).toS ρ k = k a S := rfl
@[simp] theorem toS_ex : (RE.ex x S : RE α).toS ρ k = .ex x ρ S := rfl
@[simp] theorem toS_no : (RE.no : RE α).toS ρ k = .no := rfl
variable {g : FS} {d : D} {ρ' : FEnv}
@[simp] theorem sb_nx : (RS.nx ρ S).bnd g = g ρ S := rfl
@[simp] theorem sb_rt : (RS.rt d S).bnd g = .rt d S := rfl
@[simp] theorem sb_bk : (RS.bk ρ S).bnd g = .bk ρ S := rfl
@[simp] theorem sb_ct : (RS.ct ρ S).bnd g = .ct ρ S := rfl
@[simp] theorem sb_ex : (RS.ex x ρ S).bnd g = .ex x ρ S := rfl
@[simp] theorem sb_no : (RS.no).bnd g = .no := rfl
@[simp] theorem fin_nx : (RS.nx ρ S).fin = .ok .non S := rfl
@[simp] theorem fin_rt : (RS.rt d S).fin = .ok d S := rfl
@[simp] theorem fin_ex : (RS.ex x ρ S).fin = .ex x S := rfl
end
section
variable {ρ : FEnv} {S : Store} {d e : D} {x : Option D} {i : Nat} {a b c : FE} {fs : FA} {ta tb : FT}
@[simp] theorem fVar_z : fVar 0 (some d :: ρ) S = .ok d S := rfl
@[simp] theorem fVar_s : fVar (i + 1) (x :: ρ) S = fVar i ρ S := rfl
@[simp] theorem fC_ap : fC d ρ S = .ok d S := rfl
@[simp] theorem f1_ap {g : D → Store → RE D} : f1 g a ρ S = (a ρ S).bnd g := rfl
@[simp] theorem f2_ap {g : D → D → Store → RE D} : f2 g a b ρ S = (a ρ S).bnd fun x S1 => (b ρ S1).bnd fun y S2 => g x y S2 := rfl
@[simp] theorem fNil_ap : fNil ρ S = .ok [] S := rfl
@[simp] theorem fCons_ap : fCons a fs ρ S = (a ρ S).bnd fun x S1 => (fs ρ S1).bnd fun xs S2 => .ok (x :: xs) S2 := rfl
@[simp] theorem fArg_ap {g : FF} : fArg g fs ρ S = (fs ρ S).bnd g := rfl
def toB (d : D) (S : Store) : RE Bool := match d with
  | .bl k => .ok k S
  | _ => .no
@[simp] theorem toB_bl {k : Bool} : toB (.bl k) S = .ok k S := rfl
@[simp] theorem fB_ap : fB a ρ S = (a ρ S).bnd toB := rfl
def brB (d : D) (S : Store) (t f : RE D) : RE D := match d with
  | .bl k => if k then t else f
  | _ => .no
@[simp] theorem brB_bl {k : Bool} {t f : RE D} : brB (.bl k) S t f = if k then t else f := rfl
@[simp] theorem fChain_ap {g g' : D → D → Store → RE D} : fChain g g' a b c ρ S = (a ρ S).bnd fun x S1 => (b ρ S1).bnd fun y S2 => (g x y S2).bnd fun k S3 => brB k S3 ((c ρ S3).bnd fun z S4 => g' y z S4) (.ok (.bl false) S3) := by
  unfold fChain
  congr; funext x S1; congr; funext y S2; congr; funext k S3
  cases k <;> try rfl
  rename_i k; cases k <;> rfl
@[simp] theorem fAnd_ap : fAnd ta tb ρ S = (ta ρ S).bnd fun k S1 => if k then tb ρ S1 else .ok false S1 := by
  unfold fAnd; congr; funext k S1; cases k <;> rfl
@[simp] theorem fOr_ap : fOr ta tb ρ S = (ta ρ S).bnd fun k S1 => if k then .ok true S1 else tb ρ S1 := by
  unfold fOr; congr; funext k S1; cases k <;> rfl
@[simp] theorem fNot_ap : fNot ta ρ S = (ta ρ S).bnd fun k S1 => .ok (!k) S1 := rfl
@[simp] theorem fIf_ap : fIf ta a b ρ S = (ta ρ S).bnd fun k S1 => if k then a ρ S1 else b ρ S1 := by
  unfold fIf; congr; funext k S1; cases k <;> rfl
@[simp] theorem fAndV_ap : fAndV a b ρ S = (a ρ S).bnd fun k S1 => brB k S1 (b ρ S1) (.ok (.bl false) S1) := by
  unfold fAndV; congr; funext k S1; cases k <;> try rfl
  rename_i k; cases k <;> rfl
@[simp] theorem fOrV_ap : fOrV a b ρ S = (a ρ S).bnd fun k S1 => brB k S1 (.ok (.bl true) S1) (b ρ S1) := by
  unfold fOrV; congr; funext k S1; cases k <;> try rfl
  rename_i k; cases k <;> rfl
def truR (d : D) (S : Store) : RE Bool := match truD S d with
  | some k => .ok k S
  | none => .no
@[simp] theorem truR_bl {k : Bool} : truR (.bl k) S = .ok k S := rfl
@[simp] theorem truR_int {k : Int} : truR (.int k) S = .ok (k != 0) S := rfl
@[simp] theorem truR_non : truR .non S = .ok false S := rfl
@[simp] theorem truR_lst {ds : List D} : truR (.lst ds) S = .ok (!ds.isEmpty) S := rfl
@[simp] theorem truR_tup {ds : List D} : truR (.tup ds) S = .ok (!ds.isEmpty) S := rfl
@[simp] theorem fTru_ap : fTru a ρ S = (a ρ S).bnd truR := rfl
@[simp] theorem fNotV_ap : fNotV a ρ S = (a ρ S).bnd fun x S1 => (truR x S1).bnd fun k S2 => .ok (.bl (!k)) S2 := by
  unfold fNotV; congr; funext x S1; unfold truR; cases truD S1 x <;> rfl
def isiR (T : String) (d : D) (S : Store) : RE D := match tyD S d with
  | some t => .ok (.bl (isiB t T)) S
  | none => .no
@[simp] theorem fIsi_ap {T : String} : fIsi T a ρ S = (a ρ S).bnd (isiR T) := rfl
@[simp] theorem isi_int {T : String} {i : Int} : isiR T (.int i) S = .ok (.bl (decide (T = "int"))) S := by
  have : (isiB "int" T) = decide (T = "int") := by
    unfold isiB
    by_cases h : T = "int"
    · subst h; rfl
    · have h' : ¬ "int" = T := fun z => h z.symm
      simp [h, h']
  show RE.ok (D.bl (isiB "int" T)) S = _
  rw [this]
@[simp] theorem isi_bl {T : String} {i : Bool} : isiR T (.bl i) S = .ok (.bl (decide (T = "bool") || decide (T = "int"))) S := by
  have : (isiB "bool" T) = (decide (T = "bool") || decide (T = "int")) := by
    unfold isiB
    by_cases h : T = "bool"
    · subst h; rfl
    · have h' : ¬ "bool" = T := fun z => h z.symm
      by_cases h2 : T = "int"
      · subst h2; rfl
      · simp [h, h', h2]
  show RE.ok (D.bl (isiB "bool" T)) S = _
  rw [this]
theorem isiB_other {t T : String} (h : t ≠ "bool") : isiB t T = decide (T = t) := by
  unfold isiB
  by_cases e : T = t
  · subst e; simp
  · have e' : ¬ t = T := fun z => e z.symm
    simp [h, e, e']
@[simp] theorem isi_str {T : String} {i : Str} : isiR T (.str i) S = .ok (.bl (decide (T = "str"))) S := by
  show RE.ok (D.bl (isiB "str" T)) S = _
  rw [isiB_other (by decide)]
@[simp] theorem isi_non {T : String} : isiR T .non S = .ok (.bl (decide (T = "NoneType"))) S := by
  show RE.ok (D.bl (isiB "NoneType" T)) S = _
  rw [isiB_other (by decide)]
@[simp] theorem isi_tup {T : String} {ds : List D} : isiR T (.tup ds) S = .ok (.bl (decide (T = "tuple"))) S := by
  show RE.ok (D.bl (isiB "tuple" T)) S = _
  rw [isiB_other (by decide)]
@[simp] theorem isi_lst {T : String} {ds : List D} : isiR T (.lst ds) S = .ok (.bl (decide (T = "list"))) S := by
  show RE.ok (D.bl (isiB "list" T)) S = _
  rw [isiB_other (by decide)]
@[simp] theorem isi_dic {T : String} {ks : List Key} {ds : List D} : isiR T (.dic ks ds) S = .ok (.bl (decide (T = "dict"))) S := by
  show RE.ok (D.bl (isiB "dict" T)) S = _
  rw [isiB_other (by decide)]
end
section
variable {ρ : FEnv} {S : Store} {f g : FS} {fe : FE} {tc : FT} {i : Nat} {fa : FA}
@[simp] theorem sNil_ap : sNil ρ S = .nx ρ S := rfl
@[simp] theorem sSeq_ap : sSeq f g ρ S = (f ρ S).bnd g := rfl
@[simp] theorem sExp_ap : sExp fe ρ S = (fe ρ S).toS ρ fun _ S1 => .nx ρ S1 := rfl
@[simp] theorem sRet_ap : sRet fe ρ S = (fe ρ S).toS ρ fun d S1 => .rt d S1 := rfl
@[simp] theorem sRetN_ap : sRetN ρ S = .rt .non S := rfl
@[simp] theorem sSet_ap : sSet i fe ρ S = (fe ρ S).toS ρ fun d S1 => .nx (ρ.set i (some d)) S1 := rfl
@[simp] theorem sIf_ap : sIf tc f g ρ S = (tc ρ S).toS ρ fun k S1 => if k then f ρ S1 else g ρ S1 := by
  unfold sIf; congr; funext k S1; cases k <;> rfl
@[simp] theorem sRaise_ap {x : Str} : sRaise x ρ S = .ex ⟨x, [], []⟩ ρ S := rfl
def gRes (r : Option (FEnv × Store)) : RS := match r with
  | some (ρ', S') => .nx ρ' S'
  | none => .no
@[simp] theorem gRes_some {ρ' : FEnv} {S' : Store} : gRes (some (ρ', S')) = .nx ρ' S' := rfl
@[simp] theorem sAsg_ap {g : FG} : sAsg fe g ρ S = (fe ρ S).toS ρ fun d S1 => gRes (g d ρ S1) := rfl
@[simp] theorem gN_ap {d : D} : gN i d ρ S = some (ρ.set i (some d), S) := rfl
@[simp] theorem gsNil_ap : gsNil [] ρ S = some (ρ, S) := rfl
def gBnd (r : Option (FEnv × Store)) (k : FEnv → Store → Option (FEnv × Store)) : Option (FEnv × Store) := match r with
  | some (ρ', S') => k ρ' S'
  | none => none
@[simp] theorem gBnd_some {ρ' : FEnv} {S' : Store} {k : FEnv → Store → Option (FEnv × Store)} : gBnd (some (ρ', S')) k = k ρ' S' := rfl
@[simp] theorem gsCons_ap {g : FG} {gs : FGs} {d : D} {r : List D} : gsCons g gs (d :: r) ρ S = gBnd (g d ρ S) (gs r) := rfl
@[simp] theorem gTu_ap {n : Nat} {gs : FGs} {ds : List D} : gTu n gs (.tup ds) ρ S = if ds.length = n then gs ds ρ S else none := rfl
def par2 (i j : Nat) (ρ : FEnv) (ds : List D) (S : Store) : RS := match ds with
  | [x, y] => .nx ((ρ.set i (some x)).set j (some y)) S
  | _ => .no
@[simp] theorem par2_ap {j : Nat} {x y : D} : par2 i j ρ [x, y] S = .nx ((ρ.set i (some x)).set j (some y)) S := rfl
@[simp] theorem sPar_ap' {j : Nat} : sPar i j fa ρ S = (fa ρ S).toS ρ (par2 i j ρ) := rfl
def augR (i : Nat) (g : D → D → Store → RE D) (x : Option (Option D)) (f : FE) (ρ : FEnv) (S : Store) : RS := match x with
  | some (some x) => (f ρ S).toS ρ fun y S1 => (g x y S1).toS ρ fun z S2 => .nx (ρ.set i (some z)) S2
  | _ => .no
@[simp] theorem augR_ap {g : D → D → Store → RE D} {x : D} : augR i g (some (some x)) fe ρ S = (fe ρ S).toS ρ fun y S1 => (g x y S1).toS ρ fun z S2 => .nx (ρ.set i (some z)) S2 := rfl
@[simp] theorem sAug_ap {g : D → D → Store → RE D} : sAug i g fe ρ S = augR i g ρ[i]? fe ρ S := rfl
end
section
variable {S : Store} {i j : Int} {a b : Str} {c : Bool} {xs ys ds : List D} {k : Bool} {d e : D}
@[simp] theorem gAdd_ii : gAdd c (.int i) (.int j) S = .ok (.int (i + j)) S := rfl
@[simp] theorem gAdd_ss : gAdd c (.str a) (.str b) S = if a.length + b.length ≤ sizeLine then .ok (.str (a ++ b)) S else .no := rfl
@[simp] theorem gAdd_tt : gAdd c (.tup xs) (.tup ys) S = mkTup (xs ++ ys) S := rfl
@[simp] theorem gAdd_ll : gAdd false (.lst xs) (.lst ys) S = mkLst (xs ++ ys) S := rfl
@[simp] theorem gSub_ii : Kw.gSub (.int i) (.int j) S = .ok (.int (i - j)) S := rfl
@[simp] theorem gMul_ii : gMul c (.int i) (.int j) S = if CMul i j ∨ CMulW i j then .ok (.int (i * j)) S else .no := rfl
@[simp] theorem gMod_ii : gMod (.int i) (.int j) S = if 0 < j then .ok (.int (i % j)) S else .no := rfl
@[simp] theorem gDiv_ii : gDiv (.int i) (.int j) S = if 0 < j ∧ j.natAbs.log2 < 9000 then .ok (.int (i / j)) S else .no := rfl
@[simp] theorem gPow_ii : gPow (.int i) (.int j) S = if 0 ≤ j ∧ j ≤ 1000000 ∧ i.natAbs < 2 ^ 64 then .ok (.int (i ^ j.toNat)) S else .no := rfl
@[simp] theorem gIAdd_ii : gIAdd (.int i) (.int j) S = .ok (.int (i + j)) S := rfl
@[simp] theorem gNeg_i : gNeg (.int i) S = .ok (.int (-i)) S := rfl
@[simp] theorem gCmp_ii {p : Int → Int → Bool} : gCmp p (.int i) (.int j) S = .ok (.bl (p i j)) S := rfl
@[simp] theorem gEq_ss : gEq (.str a) (.str b) S = .ok (.bl (a == b)) S := rfl
@[simp] theorem gNe_ss : gNe (.str a) (.str b) S = .ok (.bl (!(a == b))) S := rfl
@[simp] theorem gEq_ii : gEq (.int i) (.int j) S = .ok (.bl (i == j)) S := by
  simp [gEq, eqE, pyS, okPy, PyData.canLay0, PyData.depth, PyData.eqv]
@[simp] theorem gNe_ii : gNe (.int i) (.int j) S = .ok (.bl (!(i == j))) S := by
  simp [gNe, eqE, pyS, okPy, PyData.canLay0, PyData.depth, PyData.eqv]
@[simp] theorem gEq_bb {i j : Bool} : gEq (.bl i) (.bl j) S = .ok (.bl (i == j)) S := by
  simp [gEq, eqE, pyS, okPy, PyData.canLay0, PyData.depth, PyData.eqv]
@[simp] theorem gNe_bb {i j : Bool} : gNe (.bl i) (.bl j) S = .ok (.bl (!(i == j))) S := by
  simp [gNe, eqE, pyS, okPy, PyData.canLay0, PyData.depth, PyData.eqv]
@[simp] theorem gLen_tup : gLen [.tup ds] S = .ok (.int ds.length) S := rfl
@[simp] theorem gLen_lst : gLen [.lst ds] S = .ok (.int ds.length) S := rfl
@[simp] theorem gLen_fls : gLen [.fls ds] S = .ok (.int ds.length) S := rfl
@[simp] theorem gLen_str : gLen [.str a] S = if a.length ≤ sizeLine then .ok (.int a.length) S else .no := rfl
@[simp] theorem gInt_i : gInt [.int i] S = .ok (.int i) S := rfl
@[simp] theorem gInt_b : gInt [.bl k] S = .ok (.int (if k then 1 else 0)) S := rfl
@[simp] theorem gTuple_lst : gTuple [.lst ds] S = .ok (.tup ds) S := rfl
@[simp] theorem gTuple_tup : gTuple [.tup ds] S = .ok (.tup ds) S := rfl
@[simp] theorem gList_lst : gList false [.lst ds] S = .ok (.lst ds) S := rfl
@[simp] theorem gList_tup : gList false [.tup ds] S = .ok (.lst ds) S := rfl
@[simp] theorem gIs_nn : gIs c .non .non S = .ok (.bl (xor c true)) S := rfl
@[simp] theorem gIs_tn : gIs c (.tup ds) .non S = .ok (.bl (xor c false)) S := rfl
@[simp] theorem gIs_ln : gIs c (.lst ds) .non S = .ok (.bl (xor c false)) S := rfl
@[simp] theorem gIs_in : gIs c (.int i) .non S = .ok (.bl (xor c false)) S := rfl
@[simp] theorem gIs_sn : gIs c (.str a) .non S = .ok (.bl (xor c false)) S := rfl
@[simp] theorem gIs_bn : gIs c (.bl k) .non S = .ok (.bl (xor c false)) S := rfl
@[simp] theorem gIs_bb {l : Bool} : gIs c (.bl k) (.bl l) S = .ok (.bl (xor c (decide (k = l)))) S := rfl
def ixR (ds : List D) (i : Int) (S : Store) : RE D := match L2.atI ds i with
  | some d => .ok d S
  | none => .no
@[simp] theorem ixR_nat {n : Nat} : ixR ds (n : Int) S = match ds[n]? with
  | some d => .ok d S
  | none => .no := by
  unfold ixR
  cases h : ds[n]? with
  | some d => rw [atI_nat h]
  | none =>
    have hl : ds.length ≤ n := List.getElem?_eq_none_iff.mp h
    have : L2.atI ds (n : Int) = none := by
      unfold L2.atI ixN
      rw [if_pos (by omega), if_neg (by omega)]; rfl
    rw [this]
@[simp] theorem ixR_0 : ixR (d :: ds) 0 S = .ok d S := by
  have := ixR_nat (ds := d :: ds) (n := 0) (S := S)
  simpa using this
@[simp] theorem ixR_1 : ixR (d :: e :: ds) 1 S = .ok e S := by
  have := ixR_nat (ds := d :: e :: ds) (n := 1) (S := S)
  simpa using this
@[simp] theorem ixR_2 {e' : D} : ixR (d :: e :: e' :: ds) 2 S = .ok e' S := by
  have := ixR_nat (ds := d :: e :: e' :: ds) (n := 2) (S := S)
  simpa using this
@[simp] theorem gIx_tup : gIx (.tup ds) (.int i) S = ixR ds i S := rfl
@[simp] theorem gIx_lst : gIx (.lst ds) (.int i) S = ixR ds i S := rfl
@[simp] theorem gIx_fls : gIx (.fls ds) (.int i) S = ixR ds i S := rfl
theorem gIx_loc {n : Nat} (h : cellOf S n = some ds) : gIx (.loc n) (.int i) S = ixR ds i S := by
  show (match cellOf S n with | some ds => ixR ds i S | none => .no) = _
  rw [h]
end
@[simp] theorem short2 {n : Nat} (h : n ≤ 1000) : (n ≤ sizeLine) = True := eq_true (Nat.le_trans h (by decide))
theorem sz : sizeLine = 16777216 := rfl
section
variable {S : Store} {ds : List D}
@[simp] theorem mkTup_ap : mkTup ds S = if ds.length ≤ sizeLine then .ok (.tup ds) S else .no := rfl
@[simp] theorem mkLst_ap : mkLst ds S = if ds.length ≤ sizeLine then .ok (.lst ds) S else .no := rfl
@[simp] theorem mkCel_ap : mkCel ds S = if ds.length ≤ sizeLine then .ok (.loc S.length) (S ++ [.lst ds]) else .no := rfl
section
variable {n : Nat} {b : FS} {a1 a2 a3 a4 a5 : D}
@[simp] theorem fnB_0 : fnB 0 n b [] S = (b (List.replicate n none) S).fin := rfl
@[simp] theorem fnB_1 : fnB 1 n b [a1] S = (b (some a1 :: List.replicate (n - 1) none) S).fin := rfl
@[simp] theorem fnB_2 : fnB 2 n b [a1, a2] S = (b (some a1 :: some a2 :: List.replicate (n - 2) none) S).fin := rfl
@[simp] theorem fnB_3 : fnB 3 n b [a1, a2, a3] S = (b (some a1 :: some a2 :: some a3 :: List.replicate (n - 3) none) S).fin := rfl
@[simp] theorem fnB_4 : fnB 4 n b [a1, a2, a3, a4] S = (b (some a1 :: some a2 :: some a3 :: some a4 :: List.replicate (n - 4) none) S).fin := rfl
@[simp] theorem fnB_5 : fnB 5 n b [a1, a2, a3, a4, a5] S = (b (some a1 :: some a2 :: some a3 :: some a4 :: some a5 :: List.replicate (n - 5) none) S).fin := rfl
end
end
end Kw
namespace Kw
open PySem PySem.Spec PyProof.Rows L2
section
variable {S T : Store} {n : Nat} {ds xs ys : List D} {c c' : Cell} {d x : D} {i : Int} {ρ : FEnv}
@[simp] theorem cellOf_app : cellOf (S ++ [.lst ds]) S.length = some ds := by simp [cellOf]
@[simp] theorem cellM_app : cellM (S ++ [.lst ds]) S.length = some ds := by simp [cellM]
@[simp] theorem set_app : (S ++ [c]).set S.length c' = S ++ [c'] := by simp [List.set_append]
theorem cellOf_of (h : S[n]? = some (.lst ds)) : cellOf S n = some ds := by simp [cellOf, h]
theorem cellM_of (h : S[n]? = some (.lst ds)) : cellM S n = some ds := by simp [cellM, h]
def ixO (o : Option (List D)) (i : Int) (S : Store) : RE D := match o with
  | some ds => ixR ds i S
  | none => .no
@[simp] theorem ixO_some : ixO (some ds) i S = ixR ds i S := rfl
@[simp] theorem gIx_locO : gIx (.loc n) (.int i) S = ixO (cellOf S n) i S := rfl
theorem cut_ok {S : Store} {d : D} (T : Store) (h : d.under S.length = true) : cutR S (.ok d (S ++ T)) = .ok d S := by
  have hc : CutOk S (S ++ T) := ⟨by simp, fun i c hi e => .inl (by rw [List.getElem?_append_left hi] at e; exact e)⟩
  have hd : (D.under S.length d = true ∧ CutOk S (S ++ T)) := ⟨h, hc⟩
  simp [cutR, hd]
theorem cut_ex {S : Store} {e : Ex} (T : Store) (h : underL S.length e.ds = true) : cutR S (.ex e (S ++ T)) = .ex e S := by
  have hc : CutOk S (S ++ T) := ⟨by simp, fun i c hi e => .inl (by rw [List.getElem?_append_left hi] at e; exact e)⟩
  have hd : (underL S.length e.ds = true ∧ CutOk S (S ++ T)) := ⟨h, hc⟩
  simp [cutR, hd]
theorem fnC_ap {m n : Nat} {b : FS} : fnC m n b ds S = cutR S (fnB m n b ds S) := rfl
/-- a list beside the empty one -/
theorem gNe_nil (h : cellOf S n = some ds) : gNe (.loc n) (.lst []) S = .ok (.bl (!ds.isEmpty)) S := by
  unfold gNe eqE seqL
  simp only
  rw [h]; rfl
@[simp] theorem gEq_te : gEq (.tup ds) (.tup []) S = .ok (.bl ds.isEmpty) S := rfl
@[simp] theorem gNe_te : gNe (.tup ds) (.tup []) S = .ok (.bl (!ds.isEmpty)) S := rfl
@[simp] theorem gEq_ts {a b : Str} : gEq (.tup (.str a :: ds)) (.tup [.str b]) S = .ok (.bl (a == b && ds.isEmpty)) S := rfl
@[simp] theorem gNe_ts {a b : Str} : gNe (.tup (.str a :: ds)) (.tup [.str b]) S = .ok (.bl (!(a == b && ds.isEmpty))) S := rfl
@[simp] theorem gEq_le : gEq (.lst ds) (.lst []) S = .ok (.bl ds.isEmpty) S := rfl
@[simp] theorem gNe_le : gNe (.lst ds) (.lst []) S = .ok (.bl (!ds.isEmpty)) S := rfl
@[simp] theorem gInG_str {neg : Bool} {nm z : Str} {kvs : List (Str × D)} : gInG neg nm kvs (.str z) (.glo nm) S = .ok (.bl (xor neg (kvs.lookup z).isSome)) S := by
  show (if nm = nm then RE.ok (D.bl (xor neg (kvs.lookup z).isSome)) S else .no) = _
  rw [if_pos rfl]
def luR (o : Option D) (S : Store) : RE D := match o with
  | some d => .ok d S
  | none => .no
@[simp] theorem luR_some : luR (some d) S = .ok d S := rfl
@[simp] theorem gIxG_str {nm z : Str} {kvs : List (Str × D)} : gIxG nm kvs (.glo nm) (.str z) S = luR (kvs.lookup z) S := by
  show (if nm = nm then luR (kvs.lookup z) S else .no) = _
  rw [if_pos rfl]
@[simp] theorem gIxD_str {ks : List Key} {z : Str} : gIxD (.dic ks ds) (.str z) S = luR (lookK (.inr z) ks ds) S := rfl
@[simp] theorem gIxD_int {ks : List Key} {z : Int} : gIxD (.dic ks ds) (.int z) S = luR (lookK (.inl z) ks ds) S := rfl
@[simp] theorem fNone_ap : fNone ρ S = .ok none S := rfl
def toI (d : D) (S : Store) : RE (Option Int) := match d with
  | .int i => .ok (some i) S
  | _ => .no
@[simp] theorem toI_int : toI (.int i) S = .ok (some i) S := rfl
@[simp] theorem fSome_ap {f : FE} : fSome f ρ S = (f ρ S).bnd toI := rfl
@[simp] theorem fSl_ap {g : D → Option Int → Option Int → Store → RE D} {a : FE} {l u : FO} : fSl g a l u ρ S = (a ρ S).bnd fun x S1 => (l ρ S1).bnd fun lo S2 => (u ρ S2).bnd fun hi S3 => g x lo hi S3 := rfl
@[simp] theorem gSl_tup {c : Bool} {lo hi : Option Int} : gSl c (.tup ds) lo hi S = .ok (.tup (cutL ds lo hi)) S := rfl
@[simp] theorem gSl_lst {lo hi : Option Int} : gSl false (.lst ds) lo hi S = .ok (.lst (cutL ds lo hi)) S := rfl
@[simp] theorem gSl_fls {lo hi : Option Int} : gSl false (.fls ds) lo hi S = .ok (.lst (cutL ds lo hi)) S := rfl
def slO (o : Option (List D)) (lo hi : Option Int) (S : Store) : RE D := match o with
  | some ds => .ok (.lst (cutL ds lo hi)) S
  | none => .no
@[simp] theorem slO_some {lo hi : Option Int} : slO (some ds) lo hi S = .ok (.lst (cutL ds lo hi)) S := rfl
@[simp] theorem gSl_loc {lo hi : Option Int} : gSl false (.loc n) lo hi S = slO (cellOf S n) lo hi S := rfl
def mthR (g : D → List D → Store → RE D) (a : FA) (ρ : FEnv) (x : D) (S : Store) : RE D := match seqL S x with
  | some _ => (a ρ S).bnd fun ds S2 => g x ds S2
  | none => .no
@[simp] theorem fMth_ap {g : D → List D → Store → RE D} {o : FE} {a : FA} : fMth g o a ρ S = (o ρ S).bnd (mthR g a ρ) := rfl
theorem mthR_loc {g : D → List D → Store → RE D} {a : FA} (h : cellOf S n = some xs) : mthR g a ρ (.loc n) S = (a ρ S).bnd fun ds S2 => g (.loc n) ds S2 := by
  show (match cellOf S n with | some _ => (a ρ S).bnd fun ds S2 => g (.loc n) ds S2 | none => .no) = _
  rw [h]
theorem gAppend_loc (h : cellM S n = some xs) (hl : xs.length < sizeLine) : gAppend (.loc n) [d] S = .ok .non (S.set n (.lst (xs ++ [d]))) := by
  simp [gAppend, h, hl]
theorem gExtend_loc (h : cellM S n = some xs) (hl : xs.length + ys.length ≤ sizeLine) : gExtend (.loc n) [.lst ys] S = .ok .non (S.set n (.lst (xs ++ ys))) := by
  simp [gExtend, h, seqM, hl]
theorem gPop0_loc (h : cellM S n = some (xs ++ [d])) : gPop0 (.loc n) [] S = .ok d (S.set n (.lst xs)) := by
  simp [gPop0, h]
end
def loopR (w : FS) (r : RS) : RS := match r with
  | .nx ρ2 S2 => w ρ2 S2
  | .ct ρ2 S2 => w ρ2 S2
  | .bk ρ2 S2 => .nx ρ2 S2
  | z => z
section
variable {w : FS} {ρ : FEnv} {S : Store} {d : D} {x : Ex}
@[simp] theorem loopR_nx : loopR w (.nx ρ S) = w ρ S := rfl
@[simp] theorem loopR_ct : loopR w (.ct ρ S) = w ρ S := rfl
@[simp] theorem loopR_bk : loopR w (.bk ρ S) = .nx ρ S := rfl
@[simp] theorem loopR_rt : loopR w (.rt d S) = .rt d S := rfl
@[simp] theorem loopR_ex : loopR w (.ex x ρ S) = .ex x ρ S := rfl
@[simp] theorem loopR_no : loopR w .no = .no := rfl
theorem sWhile_go {c : FT} {b : FS} : sWhile c b ρ S = (c ρ S).toS ρ fun k S1 => if k then loopR (sWhile c b) (b ρ S1) else .nx ρ S1 := by
  rw [sWhile_step]
  congr; funext k S1; cases k
  · rfl
  · show _ = loopR (sWhile c b) (b ρ S1)
    cases b ρ S1 <;> rfl
variable {tg : FG} {b : FS} {r : List D} {fi : FI}
def tgR (w b : FS) (o : Option (FEnv × Store)) : RS := match o with
  | some (ρ1, S1) => loopR w (b ρ1 S1)
  | none => .no
@[simp] theorem tgR_some : tgR w b (some (ρ, S)) = loopR w (b ρ S) := rfl
@[simp] theorem forL_nil : forL tg b none [] ρ S = .nx ρ S := by
  unfold forL gchk; rw [if_pos (by unfold gd; trivial)]
theorem forL_cons : forL tg b none (d :: r) ρ S = tgR (forL tg b none r) b (tg d ρ S) := by
  show gchk none S _ _ = _
  unfold gchk
  rw [if_pos (by unfold gd; trivial)]
  cases tg d ρ S with
  | none => rfl
  | some p =>
    obtain ⟨ρ1, S1⟩ := p
    show (match b ρ1 S1 with
      | .nx ρ2 S2 => forL tg b none r ρ2 S2
      | .ct ρ2 S2 => forL tg b none r ρ2 S2
      | .bk ρ2 S2 => .nx ρ2 S2
      | z => z) = loopR _ (b ρ1 S1)
    cases b ρ1 S1 <;> rfl
@[simp] theorem sFor_ap : sFor fi tg b ρ S = (fi ρ S).toS ρ fun p S1 => forL tg b p.2 p.1 ρ S1 := rfl
def itL (d : D) (S : Store) : RE Its' := match iSeq S d with
  | some p => .ok p S
  | none => .no
def itT (d : D) (S : Store) : RE Its' := match d with
  | .tup ds => .ok (ds, none) S
  | _ => .no
def itS (d : D) (S : Store) : RE Its' := match d with
  | .str z => .ok (chrs z, none) S
  | _ => .no
def itR (ds : List D) (S : Store) : RE Its' := match ds with
  | [.int j] => if -(2 ^ 62) ≤ j ∧ j < 2 ^ 62 then .ok (rngD 0 j.toNat, none) S else .no
  | _ => .no
@[simp] theorem fiL_ap {f : FE} : fiL f ρ S = (f ρ S).bnd itL := rfl
@[simp] theorem fiT_ap {f : FE} : fiT f ρ S = (f ρ S).bnd itT := rfl
@[simp] theorem fiS_ap {f : FE} : fiS f ρ S = (f ρ S).bnd itS := rfl
@[simp] theorem fiR1_ap {f : FA} : fiR1 f ρ S = (f ρ S).bnd itR := rfl
@[simp] theorem itL_lst {ds : List D} : itL (.lst ds) S = .ok (ds, none) S := rfl
@[simp] theorem itL_fls {ds : List D} : itL (.fls ds) S = .ok (ds, none) S := rfl
@[simp] theorem itT_tup {ds : List D} : itT (.tup ds) S = .ok (ds, none) S := rfl
@[simp] theorem itS_str {z : Str} : itS (.str z) S = .ok (chrs z, none) S := rfl
@[simp] theorem itR_int {j : Int} : itR [.int j] S = if -(2 ^ 62) ≤ j ∧ j < 2 ^ 62 then .ok (rngD 0 j.toNat, none) S else .no := rfl
end
@[simp] theorem len_of (s : String) : (Str.ofString s).length = s.toList.length := by
  have key : (Str.ofString s).cps.toList = s.toList.map Char.toNat := by
    show ((cpsOfBytes 0 0 s.toByteArray.data.toList).toArray).toList = _
    rw [cpsOfBytes_string]
  show (Str.ofString s).cps.size = _
  rw [← Array.length_toList, key, List.length_map]
inductive Kd where
  | base (i : Fin 8)
  | unit
  | both (a b : Kd)
  | frm (a b : Kd)
deriving DecidableEq
namespace Kd
def d : Kd → D
  | .base i => .tup [.str "base", .int (i.val : Int)]
  | .unit => .tup [.str "unit"]
  | .both a b => .tup [.str "both", d a, d b]
  | .frm a b => .tup [.str "from", d a, d b]
def p : Kd → PyData
  | .base i => .tuple [.str "base", .int (i.val : Int)]
  | .unit => .tuple [.str "unit"]
  | .both a b => .tuple [.str "both", p a, p b]
  | .frm a b => .tuple [.str "from", p a, p b]
/-- how deep -/
def dep : Kd → Nat
  | .both a b => max (dep a) (dep b) + 1
  | .frm a b => max (dep a) (dep b) + 1
  | _ => 0
def sz : Kd → Nat
  | .both a b => sz a + sz b + 1
  | .frm a b => sz a + sz b + 1
  | _ => 1
theorem sz_pos : ∀ k : Kd, 0 < k.sz
  | .base _ => by simp [sz]
  | .unit => by simp [sz]
  | .both a b => by simp [sz]
  | .frm a b => by simp [sz]
@[simp] theorem py0_d : ∀ k : Kd, py0 k.d = some k.p
  | .base i => by simp [d, p, py0, py0L]
  | .unit => by simp [d, p, py0, py0L]
  | .both a b => by simp [d, p, py0, py0L, py0_d a, py0_d b]
  | .frm a b => by simp [d, p, py0, py0L, py0_d a, py0_d b]
@[simp] theorem pyS_d (S : Store) : ∀ k : Kd, pyS S k.d = some k.p
  | .base i => by simp [d, p, pyS, pySL]
  | .unit => by simp [d, p, pyS, pySL]
  | .both a b => by simp [d, p, pyS, pySL, pyS_d S a, pyS_d S b]
  | .frm a b => by simp [d, p, pyS, pySL, pyS_d S a, pyS_d S b]
@[simp] theorem lay_p : ∀ k : Kd, k.p.canLay0 = true
  | .base i => by simp [p, PyData.canLay0, PyData.canLayAll0]
  | .unit => by simp [p, PyData.canLay0, PyData.canLayAll0]
  | .both a b => by simp [p, PyData.canLay0, PyData.canLayAll0, lay_p a, lay_p b]
  | .frm a b => by simp [p, PyData.canLay0, PyData.canLayAll0, lay_p a, lay_p b]
theorem depth_p : ∀ k : Kd, k.p.depth = k.dep + 1
  | .base i => by simp [p, PyData.depth, PyData.depthAll, dep]
  | .unit => by simp [p, PyData.depth, PyData.depthAll, dep]
  | .both a b => by simp [p, PyData.depth, PyData.depthAll, dep, depth_p a, depth_p b]
  | .frm a b => by simp [p, PyData.depth, PyData.depthAll, dep, depth_p a, depth_p b]
theorem eqvAll_c {x y : PyData} {xs ys : List PyData} : PyData.eqvAll (x :: xs) (y :: ys) = (PyData.eqv x y && PyData.eqvAll xs ys) := by simp only [PyData.eqvAll]
theorem eqvAll_n : PyData.eqvAll [] [] = true := by simp only [PyData.eqvAll]
theorem eqvAll_l {x : PyData} {xs : List PyData} : PyData.eqvAll (x :: xs) [] = false := by simp only [PyData.eqvAll]
theorem eqvAll_r {x : PyData} {xs : List PyData} : PyData.eqvAll [] (x :: xs) = false := by simp only [PyData.eqvAll]
theorem eqv_t {xs ys : List PyData} : PyData.eqv (.tuple xs) (.tuple ys) = PyData.eqvAll xs ys := by simp only [PyData.eqv]
theorem eqv_s {x y : Str} : PyData.eqv (.str x) (.str y) = (x == y) := by simp only [PyData.eqv]
theorem eqv_i {x y : Int} : PyData.eqv (.int x) (.int y) = (x == y) := by simp only [PyData.eqv]
theorem eqv_p (a b : Kd) : PyData.eqv a.p b.p = decide (a = b) := by
  induction a generalizing b with
  | base i =>
    cases b with
    | base j =>
      have h1 : (i.val : Int) = (j.val : Int) ↔ i = j := by
        constructor
        · intro h; exact Fin.ext (by omega)
        · intro h; rw [h]
      by_cases h : i = j
      · subst h; simp [p, eqvAll_c, eqvAll_n, eqvAll_l, eqvAll_r, eqv_t, eqv_s, eqv_i]
      · have : ¬ (i.val : Int) = (j.val : Int) := fun z => h (h1.mp z)
        simp [p, eqvAll_c, eqvAll_n, eqvAll_l, eqvAll_r, eqv_t, eqv_s, eqv_i, h]
        omega
    | _ => simp [p, eqvAll_c, eqvAll_n, eqvAll_l, eqvAll_r, eqv_t, eqv_s, eqv_i]
  | unit => cases b <;> simp [p, eqvAll_c, eqvAll_n, eqvAll_l, eqvAll_r, eqv_t, eqv_s, eqv_i]
  | both a a' ha hb => cases b <;> simp [p, eqvAll_c, eqvAll_n, eqvAll_l, eqvAll_r, eqv_t, eqv_s, eqv_i, ha, hb]
  | frm a a' ha hb => cases b <;> simp [p, eqvAll_c, eqvAll_n, eqvAll_l, eqvAll_r, eqv_t, eqv_s, eqv_i, ha, hb]
@[simp] theorem und_d (n : Nat) : ∀ k : Kd, k.d.under n = true
  | .base i => by simp [d, D.under, underL]
  | .unit => by simp [d, D.under, underL]
  | .both a b => by simp [d, D.under, underL, und_d n a, und_d n b]
  | .frm a b => by simp [d, D.under, underL, und_d n a, und_d n b]
theorem d_tup : ∀ k : Kd, ∃ ds, k.d = .tup ds
  | .base i => ⟨_, rfl⟩
  | .unit => ⟨_, rfl⟩
  | .both a b => ⟨_, rfl⟩
  | .frm a b => ⟨_, rfl⟩
@[simp] theorem isi_d {T : String} {S : Store} (k : Kd) : isiR T k.d S = .ok (.bl (decide (T = "tuple"))) S := by
  obtain ⟨ds, h⟩ := d_tup k
  rw [h]; simp
end Kd
end Kw
namespace Kw
open PySem PySem.Spec PyProof.Rows L2
/-- isinstance of the exception in hand (at a), whose answer is b -/
def fIsE (a : Addr) (b : Bool) (f : FE) : FE := fun ρ S => (f ρ S).bnd fun x S1 => match x with
  | .exn a' => if a' = a then .ok (.bl b) S1 else .no
  | _ => .no
/-- y's class is one that isinstance can be asked of -/
def ExcK (K : PySem.W.Frag) (mg : Str → Option Value) (y : Str) : Prop := ∃ C, mg y = some (.ref C) ∧ ExcC K C
/-- what isinstance answers for an exception of class y, asked for the program's class x -/
def IsxO (K : PySem.W.Frag) (mg : Str → Option Value) (y x : Str) (b : Bool) : Prop := ∃ C B, mg y = some (.ref C) ∧ mg x = some (.ref B) ∧ PySem.W.kitOne K (.ref C) (.ref B) = some b
def RS.clr (i : Nat) (r : RS) : RS := match r with
  | .nx ρ S => .nx (ρ.set i none) S
  | .bk ρ S => .bk (ρ.set i none) S
  | .ct ρ S => .ct (ρ.set i none) S
  | r => r
/-- a result that no address matters to -/
noncomputable def aInd (R : Addr → RS) : RS := open Classical in if ∀ a, R a = R 0 then R 0 else .no
theorem aInd_at {R : Addr → RS} {r : RS} (a : Addr) (h : aInd R = r) (hn : r ≠ .no) : R a = r := by
  unfold aInd at h
  split at h
  · rename_i hh; rw [hh a, h]
  · exact absurd h.symm hn
theorem aInd_eq {R : Addr → RS} {r : RS} (h : ∀ a, R a = r) : aInd R = r := by
  unfold aInd
  rw [if_pos (fun a => by rw [h a, h 0]), h 0]
section
variable {X : Cx} {W : WX} {x n : Str} {pos pos' np : Pos} {i : Nat}
theorem EndS.clr {K : PySem.W.Frag} {mg : Str → Option Value} {w : Wd} {H : Hp} {D : Ends} {r : RS} (h : EndS K mg w H ((r.clr i).noX) D W) :
    EndS K mg w H r { nx := fun σ' H' => D.nx (σ'.set i none) H', rt := D.rt, bk := fun σ' H' => D.bk (σ'.set i none) H', ct := fun σ' H' => D.ct (σ'.set i none) H' } W0 := by
  cases r with
  | nx ρ S => exact fun w' H' σ' e s en => h w' H' _ e s en.wipe1
  | bk ρ S => exact fun w' H' σ' e s en => h w' H' _ e s en.wipe1
  | ct ρ S => exact fun w' H' σ' e s en => h w' H' _ e s en.wipe1
  | rt d S => exact h
  | ex x ρ S => exact h.elim
  | no => exact h.elim
end
end Kw
namespace Kw
open PySem PySem.Spec PyProof.Rows L2
def CatY (K : PySem.W.Frag) (mg : Str → Option Value) (c : Value) (y : Str) (b : Bool) : Prop := ∃ C, mg y = some (.ref C) ∧ PySem.W.exmOne K (.ref C) c = some b
/-- what a clause over x catches of the classes es -/
def CatF (K : PySem.W.Frag) (mg : Str → Option Value) (es : List Str) (x : Str) (sub : Str → Bool) : Prop := ∃ c, mg x = some c ∧ ∀ y ∈ es, CatY K mg c y (sub y)
section
variable {X : Cx} {W : WX} {x n : Str} {pos pos' np : Pos} {i : Nat} {body suite : List Stmt} {b₀ : Stmt} {es : List Str} {sub : Str → Bool} {fb : FS}
theorem CatF.names (h : CatF X.K X.mg es x sub) (hg : Gl X x) (hd : (x == ("__debug__" : Str)) = false) : ∃ c, Names X x c ∧ ∀ y ∈ es, ∀ cy, X.mg y = some cy → PySem.W.exmOne X.K cy c = some (sub y) := by
  obtain ⟨c, m, h⟩ := h
  refine ⟨c, ⟨hg, hd, .inl m⟩, fun y hy cy e => ?_⟩
  obtain ⟨C, m2, k⟩ := h y hy
  cases e.symm.trans m2
  exact k
theorem q_tryO {fc : FS} (h : CatF X.K X.mg es x sub) (hg : Gl X x) (hs : X.stack = X.env :: X.outer) (hf : X.env.frame = some X.env.locals) (tk : Takes X W)
    (hb : ∀ (W' : WX) (pn : List (Addr × Obj)) (xe : Value → Shared → Prop), Takes (X.tr pn xe) W' → PassesOwn (model X.prog X.w) X.A X.env xe → PSs (X.tr pn xe) body (tS (X.tr pn xe) W' fb))
    (hsu : ∀ (a : Addr) (pn : List (Addr × Obj)), PSs (X.suite a pn) (b₀ :: suite) (tS (X.suite a pn) W0 fc)) (hd : (x == ("__debug__" : Str)) = false := by decide) :
    PS X (.Try body [.ExceptHandler (some (.Name x np)) none (b₀ :: suite) pos'] [] [] pos) (tS X W (sTry es sub fb fc)) := by
  obtain ⟨c, nm, hx⟩ := h.names hg hd
  exact q_try hs hf nm tk hx hb hsu
end
section
variable {K : PySem.W.Frag} {mg : Str → Option Value} {h : Heap}
theorem exck_mk {y : Str} {C : Addr} (X : K.In h) (G : h.Ns mainGlobals mg) (z1 : PySem.W.nsIn K mainGlobals y = some (some (.ref C))) (k : ExcC K C) : ExcK K mg y := ⟨C, PySem.W.mg_of X G z1, k⟩
theorem caty_mk {y : Str} {C B : Addr} {b b' : Bool} (X : K.In h) (G : h.Ns mainGlobals mg) (z1 : PySem.W.nsIn K mainGlobals y = some (some (.ref C))) (e : b = b') (h1 : PySem.W.subIn K (.ref B) (.type "BaseException") = some true) (hd : PySem.W.hasDictIn K B = true) (ht : PySem.W.typeIn K (.ref B) = some (.type "type")) (h4 : PySem.W.subIn K (.ref C) (.ref B) = some b') : CatY K mg (.ref B) y b :=
  ⟨C, PySem.W.mg_of X G z1, by rw [e]; exact PySem.W.exm_ref h1 hd ht h4⟩
theorem cat_mk {es : List Str} {x : Str} {sub : Str → Bool} {B : Addr} (X : K.In h) (G : h.Ns mainGlobals mg) (z : PySem.W.nsIn K mainGlobals x = some (some (.ref B))) (l : ∀ y ∈ es, CatY K mg (.ref B) y (sub y)) : CatF K mg es x sub := ⟨.ref B, PySem.W.mg_of X G z, l⟩
end
end Kw
namespace Kw
open PySem PySem.Spec PyProof.Rows L2
section
variable {tg : FG} {tt : FT} {te : FE} {ρ : FEnv} {gg : Option (Nat × List D)} {S : Store} {acc ds : List D} {b : FS}
theorem compL_nil (hg : gd gg S) : compL tg tt te gg ρ [] acc S = .ok acc S := by
  unfold compL gchk; rw [if_pos hg]
theorem compL_step {d y : D} {ρ1 : FEnv} {S1 S2 S3 : Store} (hg : gd gg S) (h1 : tg d ρ S = some (ρ1, S1)) (h2 : tt ρ1 S1 = .ok true S2) (h3 : te ρ1 S2 = .ok y S3) (hl : acc.length < sizeLine) :
    compL tg tt te gg ρ (d :: ds) acc S = compL tg tt te gg ρ ds (acc ++ [y]) S3 := by
  conv => lhs; unfold compL
  unfold gchk
  rw [if_pos hg, h1]
  simp [h2, h3, hl]
theorem compL_skip {d : D} {ρ1 : FEnv} {S1 S2 : Store} (hg : gd gg S) (h1 : tg d ρ S = some (ρ1, S1)) (h2 : tt ρ1 S1 = .ok false S2) :
    compL tg tt te gg ρ (d :: ds) acc S = compL tg tt te gg ρ ds acc S2 := by
  conv => lhs; unfold compL
  unfold gchk
  rw [if_pos hg, h1]
  simp [h2]
def lcR (c : Bool) (r : RE (List D)) : RE D := match r with
  | .ok acc S2 => if c then .ok (.loc S2.length) (S2 ++ [.lst acc]) else .ok (.lst acc) S2
  | _ => .no
@[simp] theorem lcR_f : lcR false (.ok acc S) = .ok (.lst acc) S := rfl
@[simp] theorem lcR_t : lcR true (.ok acc S) = .ok (.loc S.length) (S ++ [.lst acc]) := rfl
@[simp] theorem fLc_ap {c : Bool} {fi : FI} {vs : List Nat} : fLc c fi tg tt te vs ρ S = (fi ρ S).bnd fun p S1 => lcR c (compL tg tt te p.2 (wipeR ρ vs) p.1 [] S1) := rfl
@[simp] theorem fYes_ap : fYes ρ S = .ok true S := rfl
@[simp] theorem gAll_lst {bs : List Bool} : gAll [.lst (bs.map .bl)] S = .ok (.bl (bs.all id)) S := by
  have : ∀ bs : List Bool, blsOf (bs.map .bl) = some bs := by
    intro bs
    induction bs with
    | nil => rfl
    | cons b bs ih => simp [blsOf, ih]
  show (match (some (bs.map D.bl)).bind blsOf with
    | some bs => RE.ok (D.bl (bs.all id)) S
    | none => .no) = _
  simp [this]
end
/-- an exception in hand, asked -/
@[simp] theorem fIsE_ap {a : Addr} {b : Bool} {i : Nat} {ρ : FEnv} {S : Store} (h : ρ[i]? = some (some (.exn a))) : fIsE a b (fVar i) ρ S = .ok (.bl b) S := by
  have e : fVar i ρ S = .ok (.exn a) S := by
    unfold fVar; rw [h]
  unfold fIsE
  rw [e]
  simp
section
variable {es : List Str} {sub : Str → Bool} {i : Nat} {c : Str → Addr → FS} {ρ : FEnv} {S : Store} {d : D}
@[simp] theorem clr_rt : (RS.rt d S).clr i = .rt d S := rfl
@[simp] theorem clr_nx : (RS.nx ρ S).clr i = .nx (ρ.set i none) S := rfl
@[simp] theorem noX_rt : (RS.rt d S).noX = .rt d S := rfl
@[simp] theorem noX_nx : (RS.nx ρ S).noX = .nx ρ S := rfl
end
end Kw
namespace Kw
open PySem PySem.Spec PyProof.Rows L2
abbrev Cl := Value × Option Nat × (Addr → Value → Option Addr → TS)
/-- the ends after a clause whose name stands in slot i -/
def gone (i : Nat) (D : Ends) : Ends := { nx := fun z G => D.nx (z.set i none) G, rt := D.rt, bk := fun z G => D.bk (z.set i none) G, ct := fun z G => D.ct (z.set i none) G }
def hit (o : Option Nat) (ts : TS) (D : Ends) (a : Addr) (σ : L2.St) (H : Hp) : Prop := match o with
  | none => ts D σ H
  | some i => ts (gone i D) (σ.set i (some (.ref a))) H
/-- what the clauses wish of an exception -/
def wCls (K : PySem.W.Frag) (Wout : WX) (D : Ends) : List Cl → WX
  | [] => Wout
  | (c, o, ts) :: r => fun cls d σ H => ∃ b, PySem.W.exmOne K cls c = some b ∧ (b = true → ∀ a, H a = none → hit o (ts a cls d) D a σ H) ∧ (b = false → wCls K Wout D r cls d σ H)
def SuOk (X : Cx) (suite : List Stmt) (ts : Addr → Value → Option Addr → TS) : Prop :=
  ∀ (a : Addr) (oe : Obj) (cls : Value) (d : Option Addr) (pn : List (Addr × Obj)), Zc cls d oe → (∃ vs, oe.data = .fields vs) → PSs (X.suite a ((a, oe) :: pn)) suite (ts a cls d)
inductive ClsOk (X : Cx) : List ExceptHandler → List Cl → Prop
  | nil : ClsOk X [] []
  | plain {x : Str} {c : Value} {ts : Addr → Value → Option Addr → TS} {b₀ : Stmt} {su : List Stmt} {np q : Pos} {hds : List ExceptHandler} {l : List Cl} (nm : Names X x c) (k : SuOk X (b₀ :: su) ts) (r : ClsOk X hds l) :
      ClsOk X (.ExceptHandler (some (.Name x np)) none (b₀ :: su) q :: hds) ((c, none, ts) :: l)
  | named {x n : Str} {i : Nat} {c : Value} {ts : Addr → Value → Option Addr → TS} {b₀ : Stmt} {su : List Stmt} {np q : Pos} {hds : List ExceptHandler} {l : List Cl} (hi : X.N[i]? = some n) (hln : X.env.kindOf n = some .local) (nm : Names X x c) (k : SuOk X (b₀ :: su) ts) (r : ClsOk X hds l) :
      ClsOk X (.ExceptHandler (some (.Name x np)) (some n) (b₀ :: su) q :: hds) ((c, some i, ts) :: l)
section
variable {X : Cx} {body : List Stmt} {h₀ : ExceptHandler} {hds : List ExceptHandler} {l : List Cl} {pos : Pos} {tb : WX → TS} {Wout : WX}
theorem try_cls (stk : X.stack = X.env :: X.outer) (frm : X.env.frame = some X.env.locals) (hN : X.N.Nodup) (tk : Takes X Wout)
    (hb : ∀ (W' : WX) (pn : List (Addr × Obj)) (xe : Value → Shared → Prop), Takes (X.tr pn xe) W' → PassesOwn (model X.prog X.w) X.A X.env xe → PSs (X.tr pn xe) body (tb W'))
    (hh : ClsOk X (h₀ :: hds) l) : PS X (.Try body (h₀ :: hds) [] [] pos) (fun D σ H => tb (wCls X.K Wout D l) D σ H) := by
  refine ⟨fun pins s σ H D I pre => ?_⟩
  have ok := I.ok
  have frs0 : X.A.frames = some (X.env :: X.outer) := ok.frames.trans (congrArg some stk)
  let XE0 : Value → Shared → Prop := fun e s₁ => wpAny (model X.prog X.w) X.A (noteFrame e X.env) (fun _ s₂ => wpAny (model X.prog X.w) X.A (setFlight e none) (fun _ s₃ => wpAny (model X.prog X.w) X.A (handleBy e X.env (h₀ :: hds)) (SP X pins D) X.xe s₃) X.xe s₂) X.xe s₁
  have caught : Takes (X.tr (X.pn ++ pins) XE0) (wCls X.K Wout D l) := by
    rintro u s' ⟨a, B, sI, pins', σ', H', cls, d, rfl, J', nb, up, sky, na, os, ag, w⟩
    have J : Inv X pins σ' H' sI := J'.ofTry ok
    have sky' : Sky B (X.env :: X.outer) a (Zc cls d) X.env.locals s'.heap := stk ▸ sky
    show wpAny (model X.prog X.w) X.A (noteFrame (.ref a) X.env) _ _ _
    refine Sky.land Zc.steady frs0 frm sky' fun g3 fl3 u3 => ?_
    have J3 : Inv X pins σ' H' { s' with heap := g3 } := J.landed nb fl3.1 (up.trans u3) os ag
    obtain ⟨o3, v3, at3, z3, d3⟩ := fl3.there
    have off : ∀ {g : Heap} {o : Obj} {vs : Array Value}, g.FunFrames B (X.env :: X.outer) → g.get? a = some o → o.data = .fields vs → a ∉ frs (X.env :: X.outer) := by
      intro g o vs ff at_ dd hm
      obtain ⟨_, o', at', nd⟩ := ff.mem hm
      cases at_.symm.trans at'
      exact nd _ dd
    have n0 := off fl3.2.2.1 at3 d3
    have n1 : a ≠ X.env.locals := by
      rintro rfl
      exact n0 (List.mem_filterMap.mpr ⟨X.env, List.mem_cons_self, frm⟩)
    have n2 : a ∉ X.fs := by
      intro hm
      obtain ⟨e, he, q⟩ := List.mem_filterMap.mp hm
      exact n0 (List.mem_filterMap.mpr ⟨e, .tail _ he, q⟩)
    have S3 := J3.suite at3 d3 na n1 n2
    have LT : PySem.W.Looks (model X.prog X.w) g3 (typeOf (.ref a)) cls := fun A Q E s k q => wpAny_typeOf_ref (k _ _ at3) (z3.1.symm ▸ q)
    have go : ∀ {hs' : List ExceptHandler} {l' : List Cl}, ClsOk X hs' l' → wCls X.K Wout D l' cls d σ' H' → wpAny (model X.prog X.w) X.A (handleBy (.ref a) X.env hs') (SP X pins D) X.xe { s' with heap := g3 } := by
      intro hs' l' hk
      have ask : ∀ {x : Str} {c : Value} {np : Pos}, Names X x c → ∀ {Q E : Value → Shared → Prop}, Q c { s' with heap := g3 } → wpAny (model X.prog X.w) (X.A.mark (some (.ref a))) (eval (.Name x np) X.env) (fun v s => Q v s) E { s' with heap := g3 } := by
        rintro x c np ⟨hg, hdb, hm | ⟨hm, hv, hnn⟩⟩ Q E q
        · exact ld_glob (X := X.suite a ((a, o3) :: (X.pn ++ pins))) S3 hg hm q hdb
        · exact ld_blt (X := X.suite a ((a, o3) :: (X.pn ++ pins))) S3 hg hm hv q hnn hdb
      induction hk with
      | nil =>
        intro w
        refine wpAny_handleBy_nil ?_
        obtain ⟨_, _, _, oe, vs, T, oT, ts', he, hz, hd, h1, hr⟩ := id fl3
        unfold PySem.passOn
        refine wpAny_bind (wpAny_field he hd h1 ?_)
        rw [if_neg (by simp)]
        have up4 : wpAny (model X.prog X.w) X.A (setFlight (.ref a) X.env.frame) (fun _ s4 => wpAny (model X.prog X.w) X.A (throw (.ref a) : Sem Flow) (SP X pins D) X.xe s4) X.xe { s' with heap := g3 } := by
          rw [frm]
          exact HandSPX.setFlight_upZ fl3 fun g4 hg4 u4 => wpAny_throw (tk _ _ ⟨a, B, sI, pins, σ', H', cls, d, rfl, J, nb, (up.trans u3).trans u4, .inr (.inr (stk.symm ▸ hg4)), na, os, ag, w⟩)
        first
          | exact wpAny_bind (wpAny_pure (wpAny_bind up4))
          | exact wpAny_bind up4
      | @plain x c ts b₀ su np q hds2 l2 nm k r ih =>
        rintro ⟨b, hb1, yes, no⟩
        refine wpAny_handleBy_cons (codeAny_handlers_test ?_) (by intro z; cases z)
        refine ask nm ((PySem.W.exm_one (M := model X.prog X.w) J3.kIn LT hb1).here ?_)
        cases b with
        | false => exact ih (no rfl)
        | true =>
          refine codeAny_handlers_suite (HandSPX.lands_againZ fl3 fun g4 fl4 u4 => ?_)
          have J4 : Inv X pins σ' H' { s' with heap := g4 } := J.landed nb fl4.1 ((up.trans u3).trans u4) os ag
          obtain ⟨o4, v4, at4, z4, d4⟩ := fl4.there
          have S4 := J4.suite at4 d4 na n1 n2
          refine wpAny_mono ((k a o4 cls d (X.pn ++ pins) z4 ⟨_, d4⟩).run [] _ _ H' _ S4 (yes rfl a na)) (fun f s6 hsp => ?_) (fun _ _ z => False.elim z)
          cases f with
          | ret u => obtain ⟨v6, σ6, H6, S6, r6, q6⟩ := hsp; exact ⟨_, _, _, S6.unsuite ok, r6, q6⟩
          | _ => obtain ⟨σ6, H6, S6, q6⟩ := hsp; exact ⟨_, _, S6.unsuite ok, q6⟩
      | @named x n i c ts b₀ su np q hds2 l2 hi hln nm k r ih =>
        rintro ⟨b, hb1, yes, no⟩
        refine wpAny_handleBy_cons (codeAny_handlers_test ?_) (by intro z; cases z)
        refine ask nm ((PySem.W.exm_one (M := model X.prog X.w) J3.kIn LT hb1).here ?_)
        cases b with
        | false => exact ih (no rfl)
        | true =>
          refine codeAny_handlers_suite_as (HandSPX.lands_againZ fl3 fun g4 fl4 u4 => ?_)
          have J4 : Inv X pins σ' H' { s' with heap := g4 } := J.landed nb fl4.1 ((up.trans u3).trans u4) os ag
          obtain ⟨o4, v4, at4, z4, d4⟩ := fl4.there
          have S4 := J4.suite at4 d4 na n1 n2
          refine store_ok (X := X.suite a ((a, o4) :: (X.pn ++ pins))) (v := .ref a) S4 hN hi (.inl hln) rfl (fun s5 S5 => ?_) (.inr hln)
          refine wpAny_mono ((k a o4 cls d (X.pn ++ pins) z4 ⟨_, d4⟩).run [] s5 _ H' _ S5 (yes rfl a na)) (fun f s6 hsp => ?_) (fun _ _ z => False.elim z)
          have out : ∀ {σ6 : L2.St} {H6 : Hp} {Q : Shared → Prop}, Inv (X.suite a ((a, o4) :: (X.pn ++ pins))) [] σ6 H6 s6 → (∀ s7, Inv X pins (σ6.set i none) H6 s7 → Q s7) → wpAny (model X.prog X.w) X.A (do bindName X.env n .none; unbindBehindTheSuite X.env n q) (fun _ s7 => Q s7) X.xe s6 :=
            fun S6 hq => gone_ok (S6.unsuite ok) hN hi hln hq
          cases f with
          | ret u => obtain ⟨v6, σ6, H6, S6, r6, q6⟩ := hsp; exact out S6 fun s7 J7 => ⟨_, _, _, J7, r6, q6⟩
          | _ => obtain ⟨σ6, H6, S6, q6⟩ := hsp; exact out S6 fun s7 J7 => ⟨_, _, J7, q6⟩
    exact go hh w
  refine wpAny_Try_except (wpAny_mono ((hb _ (X.pn ++ pins) XE0 caught PassesOwn.looking).run [] s σ H D (I.toTry _) pre) (fun f s1 hsp => ?_) (fun e s1 he => he))
  cases f with
  | next => obtain ⟨σ', H', J', q⟩ := hsp; exact wpAny_execs_nil ⟨σ', H', J'.ofTry ok, q⟩
  | ret u => obtain ⟨v, σ', H', J', r, q⟩ := hsp; exact ⟨v, σ', H', J'.ofTry ok, r, q⟩
  | _ => obtain ⟨σ', H', J', q⟩ := hsp; exact ⟨σ', H', J'.ofTry ok, q⟩
end
abbrev ClF := (Str → Bool) × Option Nat × (Str → Addr → FS)
def clRun (o : Option Nat) (c : Addr → FS) (ρ : FEnv) (S : Store) (a : Addr) : RS := match o with
  | none => (c a ρ S).noX
  | some i => ((c a (ρ.set i (some (.exn a))) S).clr i).noX
noncomputable def clsR (x : Ex) (ρ : FEnv) (S : Store) : List ClF → RS
  | [] => .ex x ρ S
  | (sub, o, c) :: r => if sub x.cls then aInd (clRun o (c x.cls) ρ S) else clsR x ρ S r
/-- es: the classes that may come -/
noncomputable def sTryC (es : List Str) (cs : List ClF) (b : FS) : FS := fun ρ S => match b ρ S with
  | .ex x ρ' S' => if x.cls ∈ es ∧ x.ns = [] then clsR x ρ' S' cs else .no
  | r => r
def SuF (X : Cx) (es : List Str) (suite : List Stmt) (c : Str → Addr → FS) : Prop :=
  ∀ (y : Str), y ∈ es → ∀ (a : Addr) (oe : Obj) (pn : List (Addr × Obj)) (C : Addr), X.mg y = some (.ref C) → Zc (.ref C) none oe → (∃ vs, oe.data = .fields vs) → PSs (X.suite a ((a, oe) :: pn)) suite (tS (X.suite a ((a, oe) :: pn)) W0 (c y a))
inductive ClsF (X : Cx) (es : List Str) : List ExceptHandler → List ClF → Prop
  | nil : ClsF X es [] []
  | plain {x : Str} {sub : Str → Bool} {c : Str → Addr → FS} {b₀ : Stmt} {su : List Stmt} {np q : Pos} {hds : List ExceptHandler} {l : List ClF} (h : CatF X.K X.mg es x sub) (hg : Gl X x) (k : SuF X es (b₀ :: su) c) (r : ClsF X es hds l) (hd : (x == ("__debug__" : Str)) = false := by decide) :
      ClsF X es (.ExceptHandler (some (.Name x np)) none (b₀ :: su) q :: hds) ((sub, none, c) :: l)
  | named {x n : Str} {i : Nat} {sub : Str → Bool} {c : Str → Addr → FS} {b₀ : Stmt} {su : List Stmt} {np q : Pos} {hds : List ExceptHandler} {l : List ClF} (h : CatF X.K X.mg es x sub) (hg : Gl X x) (hi : X.N[i]? = some n) (hln : X.env.kindOf n = some .local) (k : SuF X es (b₀ :: su) c) (r : ClsF X es hds l) (hd : (x == ("__debug__" : Str)) = false := by decide) :
      ClsF X es (.ExceptHandler (some (.Name x np)) (some n) (b₀ :: su) q :: hds) ((sub, some i, c) :: l)
section
variable {X : Cx} {W : WX} {es : List Str}
def tsOf (X : Cx) (es : List Str) (c : Str → Addr → FS) : Addr → Value → Option Addr → TS := fun a cls d D σ H => ∃ y C, y ∈ es ∧ X.mg y = some (.ref C) ∧ cls = .ref C ∧ d = none ∧ tS X W0 (c y a) D σ H
theorem SuF.su {suite : List Stmt} {c : Str → Addr → FS} (k : SuF X es suite c) : SuOk X suite (tsOf X es c) := by
  intro a oe cls d pn hz hd
  refine ⟨fun pins s σ H D I h => ?_⟩
  obtain ⟨y, C, hy, hyC, rfl, rfl, t⟩ := h
  exact (k y hy a oe pn C hyC hz hd).run pins s σ H D I t
theorem EndS.nox {K : PySem.W.Frag} {mg : Str → Option Value} {w : Wd} {H : Hp} {D : Ends} {r : RS} (h : EndS K mg w H r.noX D W) : EndS K mg w H r D W0 := by
  cases r with
  | ex x ρ S => exact h.elim
  | _ => exact h
theorem ClsF.go {hds : List ExceptHandler} {cs : List ClF} (h : ClsF X es hds cs) (hk : ∀ y ∈ es, ExcK X.K X.mg y) : ∃ l, ClsOk X hds l ∧ ∀ (D : Ends) (w : Wd) (x : Ex) (ρ : FEnv) (S : Store) (σ : L2.St) (H : Hp) (cy : Value) (od : Option Addr), x.cls ∈ es → x.ns = [] → Sto X.K X.mg w S H → EnvR X.K X.mg w H ρ σ → ExR X.K X.mg w H x cy od →
    EndS X.K X.mg w H (clsR x ρ S cs) D W → wCls X.K W D l cy od σ H := by
  have ex0 : ∀ {w : Wd} {H : Hp} {x : Ex} {cy : Value} {od : Option Addr}, x.cls ∈ es → x.ns = [] → ExR X.K X.mg w H x cy od → ∃ C, X.mg x.cls = some (.ref C) ∧ cy = .ref C ∧ od = none := by
    intro w H x cy od hx hn ex
    obtain ⟨gy, hr⟩ := ex
    obtain ⟨C, gC, _⟩ := hk _ hx
    cases gC.symm.trans gy
    refine ⟨C, gC, rfl, ?_⟩
    rcases hr with ⟨_, _, z⟩ | ⟨d, vs, z, _⟩
    · exact z
    · exact absurd hn z
  induction h with
  | nil =>
    refine ⟨[], .nil, fun D w x ρ S σ H cy od hx hn s en ex h => ?_⟩
    exact h w H σ cy od Ext.refl s en ex
  | @plain x sub c b₀ su np q hds l hc hg k r hd ih =>
    obtain ⟨cv, nm, hx1⟩ := hc.names hg hd
    obtain ⟨l', ok', go'⟩ := ih
    refine ⟨(cv, none, tsOf X es c) :: l', .plain nm k.su ok', fun D w x ρ S σ H cy od hx hn s en ex h => ?_⟩
    obtain ⟨C, gC, rfl, rfl⟩ := ex0 hx hn ex
    refine ⟨sub x.cls, hx1 _ hx _ gC, fun hs a na => ?_, fun hs => ?_⟩
    · have h2 : EndS X.K X.mg w H (aInd (clRun none (c x.cls) ρ S)) D W := by
        have h' := h
        unfold clsR at h'
        rw [if_pos hs] at h'
        exact h'
      by_cases hno : aInd (clRun none (c x.cls) ρ S) = .no
      · rw [hno] at h2; exact h2.elim
      · rw [← aInd_at a rfl hno] at h2
        exact ⟨x.cls, C, hx, gC, rfl, rfl, w, ρ, S, s, en, h2.nox⟩
    · have h2 : EndS X.K X.mg w H (clsR x ρ S l) D W := by
        have h' := h
        unfold clsR at h'
        rw [if_neg (by rw [hs]; decide)] at h'
        exact h'
      exact go' D w x ρ S σ H _ _ hx hn s en ex h2
  | @named x n i sub c b₀ su np q hds l hc hg hi hln k r hd ih =>
    obtain ⟨cv, nm, hx1⟩ := hc.names hg hd
    obtain ⟨l', ok', go'⟩ := ih
    refine ⟨(cv, some i, tsOf X es c) :: l', .named hi hln nm k.su ok', fun D w x ρ S σ H cy od hx hn s en ex h => ?_⟩
    obtain ⟨C, gC, rfl, rfl⟩ := ex0 hx hn ex
    refine ⟨sub x.cls, hx1 _ hx _ gC, fun hs a na => ?_, fun hs => ?_⟩
    · have h2 : EndS X.K X.mg w H (aInd (clRun (some i) (c x.cls) ρ S)) D W := by
        have h' := h
        unfold clsR at h'
        rw [if_pos hs] at h'
        exact h'
      by_cases hno : aInd (clRun (some i) (c x.cls) ρ S) = .no
      · rw [hno] at h2; exact h2.elim
      · rw [← aInd_at a rfl hno] at h2
        exact ⟨x.cls, C, hx, gC, rfl, rfl, w, ρ.set i (some (.exn a)), S, s, en.set (by unfold Rp; rfl), EndS.clr h2⟩
    · have h2 : EndS X.K X.mg w H (clsR x ρ S l) D W := by
        have h' := h
        unfold clsR at h'
        rw [if_neg (by rw [hs]; decide)] at h'
        exact h'
      exact go' D w x ρ S σ H _ _ hx hn s en ex h2
theorem q_tryC {body : List Stmt} {h₀ : ExceptHandler} {hds : List ExceptHandler} {cs : List ClF} {pos : Pos} {fb : FS} (stk : X.stack = X.env :: X.outer) (frm : X.env.frame = some X.env.locals) (hN : X.N.Nodup) (tk : Takes X W) (hk : ∀ y ∈ es, ExcK X.K X.mg y)
    (hb : ∀ (W' : WX) (pn : List (Addr × Obj)) (xe : Value → Shared → Prop), Takes (X.tr pn xe) W' → PassesOwn (model X.prog X.w) X.A X.env xe → PSs (X.tr pn xe) body (tS (X.tr pn xe) W' fb))
    (hc : ClsF X es (h₀ :: hds) cs) : PS X (.Try body (h₀ :: hds) [] [] pos) (tS X W (sTryC es cs fb)) := by
  obtain ⟨l, okl, go⟩ := hc.go (W := W) hk
  refine PS.wk (try_cls (tb := fun W' => tS X W' fb) stk frm hN tk (fun W' pn xe t o => hb W' pn xe t o) okl) fun D σ H ⟨w, ρ, S, s, en, h⟩ => ?_
  refine ⟨w, ρ, S, s, en, ?_⟩
  unfold sTryC at h
  cases hbb : fb ρ S with
  | ex y ρ' S' =>
    rw [hbb] at h
    simp only at h
    split at h
    · rename_i hm
      intro w' H' σ' cy od e s' en' ex
      exact go D w' y ρ' S' σ' H' cy od hm.1 hm.2 s' en' ex (h.on e)
    · exact h.elim
  | _ => rw [hbb] at h; exact h
end
end Kw
namespace Kw
open PySem PySem.Spec PyProof.Rows L2
end Kw
namespace Kw
open PySem PySem.Spec PyProof.Rows L2
def revS (z : Str) : Str := ⟨((Builtin.Str.strSliceIndices none none (-1) z.length).filterMap (z.cps[·]?)).toArray⟩
def keyP : Key → PyData
  | .inl i => .int i
  | .inr x => .str x
mutual
/-- a value as data that is shown -/
inductive Rs (K : PySem.W.Frag) (H : Hp) (b : Bool) : V → PyData → Prop
  | non : Rs K H b .non .none
  | bl (c : Bool) : Rs K H b (.bl c) (.bool c)
  | int (i : Int) : Rs K H b (.int i) (.int i)
  | str (x : Str) : Rs K H b (.str x) (.str x)
  | lst {a : Addr} {xs : List V} {ds : List PyData} : SqL K H a xs → (b = true → a ≠ sysModules) → RsL K H b xs ds → Rs K H b (.ref a) (.list ds)
  | tup {a : Addr} {xs : List V} {ds : List PyData} : SqT K H a xs → RsL K H b xs ds → Rs K H b (.ref a) (.tuple ds)
  | dic {a : Addr} {kvs : List (Key × V)} {ps : List (PyData × PyData)} : H a = some (.dK kvs) → RsV K H b kvs ps → Rs K H b (.ref a) (.dict ps)
inductive RsL (K : PySem.W.Frag) (H : Hp) (b : Bool) : List V → List PyData → Prop
  | nil : RsL K H b [] []
  | cons {v : V} {vs : List V} {d : PyData} {ds : List PyData} : Rs K H b v d → RsL K H b vs ds → RsL K H b (v :: vs) (d :: ds)
inductive RsV (K : PySem.W.Frag) (H : Hp) (b : Bool) : List (Key × V) → List (PyData × PyData) → Prop
  | nil : RsV K H b [] []
  | cons {k : Key} {v : V} {r : List (Key × V)} {d : PyData} {ps : List (PyData × PyData)} : Rs K H b v d → RsV K H b r ps → RsV K H b ((k, v) :: r) ((keyP k, d) :: ps)
end
mutual
/-- no list in it -/
def noLs : PyData → Bool
  | .list _ => false
  | .tuple ds => noLsL ds
  | .dict kvs => noLsV kvs
  | _ => true
def noLsL : List PyData → Bool
  | [] => true
  | d :: ds => noLs d && noLsL ds
def noLsV : List (PyData × PyData) → Bool
  | [] => true
  | (_, d) :: ps => noLs d && noLsV ps
end
section
variable {X : Cx} {pins : List (Addr × Obj)} {σ : L2.St} {H : Hp} {s : Shared} {b : Bool}
mutual
theorem Rs.reads (I : Inv X pins σ H s) : ∀ (d : PyData) (v : V) (u : Value), Rs X.K H b v d → RelV v u → ∃ as, Reads s.heap u d as ∧ (noLs d = true ∨ b = true → sysModules ∉ as)
  | .none, _, _, .non, r => by cases r; exact ⟨[], .none, fun _ z => nomatch z⟩
  | .bool b, _, _, .bl _, r => by cases r; exact ⟨[], .bool b, fun _ z => nomatch z⟩
  | .int i, _, _, .int _, r => by obtain ⟨t, rfl⟩ := r; exact ⟨[], .int i t, fun _ z => nomatch z⟩
  | .str x, _, _, .str _, r => by obtain ⟨t, rfl⟩ := r; exact ⟨[], .str x t, fun _ z => nomatch z⟩
  | .list ds, _, _, .lst (a := a) hs hne ha, r => by
    cases r
    obtain ⟨its, rv, ⟨o, n, ho, hc, _, hd⟩, _⟩ := I.list hs
    obtain ⟨as, hr, hn⟩ := RsL.reads I ds _ its ha rv
    refine ⟨_, .list ho hc hd hr, fun z => ?_⟩
    have hb : b = true := by
      rcases z with z | z
      · simp [noLs] at z
      · exact z
    intro y
    rcases List.mem_cons.mp y with y | y
    · exact hne hb y.symm
    · exact hn (.inr hb) y
  | .tuple ds, _, _, .tup hs ha, r => by
    cases r
    obtain ⟨its, rv, ⟨o, ho, hc, n, hd⟩, _⟩ := I.tuple hs
    obtain ⟨as, hr, hn⟩ := RsL.reads I ds _ its ha rv
    exact ⟨_, .tuple ho hc hd hr, fun z => hn (by simpa [noLs] using z)⟩
  | .dict ps, _, _, .dic (a := a) (kvs := kvs) hs hv, r => by
    cases r
    obtain ⟨_, sm, vs, kv, o, es, ep, ho, hc, hd, hk, hp, _⟩ := dk_of I.hok hs
    obtain ⟨h1, bs, h2, hn⟩ := RsV.reads I ps kvs vs es.toList hv kv hp
    refine ⟨_, .dict (as := []) (bs := bs) ho hc.1 hd h1 h2, fun z y => ?_⟩
    rcases List.mem_append.mp y with y | y
    · have : sysModules = a := by simpa using y
      rw [this] at sm
      simp at sm
    · exact hn (by simpa [noLs] using z) y
theorem RsL.reads (I : Inv X pins σ H s) : ∀ (ds : List PyData) (vs : List V) (us : List Value), RsL X.K H b vs ds → Vals vs us → ∃ as, ReadsAll s.heap us ds as ∧ (noLsL ds = true ∨ b = true → sysModules ∉ as)
  | [], _, _, .nil, r => by cases r; exact ⟨_, .nil, fun _ z => nomatch z⟩
  | d :: ds, _, _, .cons h1 h2, r => by
    cases r with
    | cons r1 r2 =>
      obtain ⟨as, q1, n1⟩ := Rs.reads I d _ _ h1 r1
      obtain ⟨bs, q2, n2⟩ := RsL.reads I ds _ _ h2 r2
      refine ⟨_, .cons q1 q2, fun z y => ?_⟩
      simp only [noLsL, Bool.and_eq_true] at z
      rcases List.mem_append.mp y with y | y
      · exact n1 (z.imp (·.1) id) y
      · exact n2 (z.imp (·.2) id) y
theorem RsV.reads (I : Inv X pins σ H s) : ∀ (ps : List (PyData × PyData)) (kvs : List (Key × V)) (vs : List (Key × Value)) (es : List DictEntry), RsV X.K H b kvs ps → KV kvs vs → Pairs (mixKind X.prog X.w) es vs → ReadsAll s.heap (es.map (·.key)) (ps.map (·.1)) [] ∧ ∃ bs, ReadsAll s.heap (es.map (·.val)) (ps.map (·.2)) bs ∧ (noLsV ps = true ∨ b = true → sysModules ∉ bs)
  | [], _, _, _, .nil, r, q => by cases r; cases q; exact ⟨.nil, [], .nil, fun _ z => nomatch z⟩
  | (_, d) :: ps, _, _, _, .cons (k := k) h1 h2, r, q => by
    cases r with
    | cons r1 r2 =>
      cases q with
      | cons q1 q2 q3 =>
        obtain ⟨e1, e2⟩ := r1
        obtain ⟨a1, bs, a2, a3⟩ := RsV.reads I ps _ _ _ h2 r2 q3
        obtain ⟨as, b1, b2⟩ := Rs.reads I d _ _ h1 e2
        refine ⟨?_, as ++ bs, ?_, fun z y => ?_⟩
        · rw [← e1] at q1
          have hk : ∀ v, keyIs k v = true → Reads s.heap v (keyP k) [] := fun v hv => by
            rcases keyIs_shape hv with ⟨i, t, rfl, rfl⟩ | ⟨x, t, rfl, rfl⟩
            · exact .int i t
            · exact .str x t
          exact ReadsAll.cons (hk _ q1) a1
        · rw [List.map_cons, List.map_cons, q2]
          exact .cons b1 a2
        · simp only [noLsV, Bool.and_eq_true] at z
          rcases List.mem_append.mp y with y | y
          · exact b2 (z.imp (·.1) id) y
          · exact a3 (z.imp (·.2) id) y
end
end
section
variable {K : PySem.W.Frag} {mg : Str → Option Value} {w : Wd} {H : Hp} {S : Store} {b : Bool}
theorem RsV.zip : ∀ {ks : List Key} {vs : List V} {ps : List PyData}, RsL K H b vs ps → RsV K H b (ks.zip vs) ((ks.map keyP).zip ps)
  | [], _, _, _ => .nil
  | _ :: _, _, _, .nil => .nil
  | _ :: _, _, _, .cons h1 h2 => .cons h1 (RsV.zip h2)
end
end Kw
namespace Kw
open PySem PySem.Spec PyProof.Rows L2
/-- a text, a tuple, a list turned round -/
def gTurn (x : D) (S : Store) : RE D := match x with
  | .str z => if z.length ≤ 16777216 then .ok (.str (revS z)) S else .no
  | .tup ds => .ok (.tup ds.reverse) S
  | x => (match seqL S x with
    | some ds => .ok (.lst ds.reverse) S
    | none => .no)
@[simp] theorem gTurn_tup {ds : List D} {S : Store} : gTurn (.tup ds) S = .ok (.tup ds.reverse) S := rfl
end Kw
namespace Kw
open PySem PySem.Spec PyProof.Rows L2
end Kw
namespace Kw
open PySem PySem.Spec PyProof.Rows L2
end Kw
namespace Kw
open PySem PySem.Spec PySem.Calls PyProof.Rows L2
/-- xs put in the order of their data -/
noncomputable def sortB {α : Type} (xs : List α) (ps : List PyData) : List α := ((xs.zip ps).mergeSort (PySem.W.dataLe false Prod.snd)).map Prod.fst
theorem zip_snd {α : Type} : ∀ {xs : List α} {ps : List PyData}, xs.length = ps.length → (xs.zip ps).map Prod.snd = ps
  | [], [], _ => rfl
  | [], _ :: _, h => by simp at h
  | _ :: _, [], h => by simp at h
  | x :: xs, p :: ps, h => by
    show p :: (xs.zip ps).map Prod.snd = _
    rw [zip_snd (by simpa using h)]
theorem zip_fst {α : Type} : ∀ {xs : List α} {ps : List PyData}, xs.length = ps.length → (xs.zip ps).map Prod.fst = xs
  | [], [], _ => rfl
  | [], _ :: _, h => by simp at h
  | _ :: _, [], h => by simp at h
  | x :: xs, p :: ps, h => by
    show x :: (xs.zip ps).map Prod.fst = _
    rw [zip_fst (by simpa using h)]
theorem sortB_perm {α : Type} {xs : List α} {ps : List PyData} (h : xs.length = ps.length) : (sortB xs ps).Perm xs := by
  have h1 := (List.mergeSort_perm (xs.zip ps) (PySem.W.dataLe false Prod.snd)).map Prod.fst
  rw [zip_fst h] at h1
  exact h1
theorem sortB_length {α : Type} {xs : List α} {ps : List PyData} (h : xs.length = ps.length) : (sortB xs ps).length = xs.length := (sortB_perm h).length_eq
/-- sorted by what stands for each -/
theorem sortB_map {α β : Type} (f : β → α) (p : β → PyData) (L : List β) : sortB (L.map f) (L.map p) = (L.mergeSort (PySem.W.dataLe false p)).map f := by
  have e : (L.map f).zip (L.map p) = L.map fun x => (f x, p x) := by
    induction L with
    | nil => rfl
    | cons x L ih => simp [ih]
  unfold sortB
  rw [e, ← List.map_mergeSort (f := fun x => (f x, p x)) (r := PySem.W.dataLe false p) (fun a _ b _ => rfl), List.map_map]
  rfl
theorem DpAll.length {K : PySem.W.Frag} {H : Hp} : ∀ {vs : List V} {ds : List PyData}, DpAll K H vs ds → vs.length = ds.length
  | _, _, .nil => rfl
  | _, _, .cons _ t => by simp [DpAll.length t]
theorem depth_mem : ∀ {ps : List PyData} {p : PyData}, p ∈ ps → p.depth ≤ PyData.depthAll ps
  | q :: ps, p, h => by
    simp only [PyData.depthAll]
    rcases List.mem_cons.mp h with rfl | h
    · omega
    · have := depth_mem h; omega
section
variable {X : Cx}
theorem each_vals : ∀ {xs : List V} {us : List Value} {ps : List PyData}, Vals xs us → xs.length = ps.length → PySem.W.EachIs (fun u (b : V × PyData) => RelV b.1 u) us (xs.zip ps)
  | _, _, [], .nil, _ => .nil
  | _, _, _ :: _, .nil, h => by simp at h
  | _, _, [], .cons _ _, h => by simp at h
  | _, _, p :: ps, .cons r t, h => .cons r (each_vals t (by simpa using h))
theorem vals_each : ∀ {bs : List (V × PyData)} {us : List Value}, PySem.W.EachIs (fun u (b : V × PyData) => RelV b.1 u) us bs → Vals (bs.map Prod.fst) us
  | _, _, .nil => .nil
  | _, _, .cons r t => .cons r (vals_each t)
theorem pySL_length {S : Store} : ∀ {ds : List D} {ps : List PyData}, pySL S ds = some ps → ds.length = ps.length
  | [], ps, h => by
    have : some [] = some ps := h
    cases this; rfl
  | d :: ds, ps, h => by
    have h' : ((pyS S d).bind fun a => (pySL S ds).map (a :: ·)) = some ps := h
    rw [Option.bind_eq_some_iff] at h'
    obtain ⟨p, _, h2⟩ := h'
    rw [Option.map_eq_some_iff] at h2
    obtain ⟨qs, h3, rfl⟩ := h2
    simp [pySL_length h3]
theorem RpL.of_all {K : PySem.W.Frag} {mg : Str → Option Value} {w : Wd} {H : Hp} : ∀ {L : List (D × V)}, (∀ b ∈ L, Rp K mg w H b.1 b.2) → RpL K mg w H (L.map Prod.fst) (L.map Prod.snd)
  | [], _ => RpL.nil
  | b :: L, h => RpL.cons (h b List.mem_cons_self) (RpL.of_all fun c hc => h c (List.mem_cons_of_mem _ hc))
theorem RpL.zip {K : PySem.W.Frag} {mg : Str → Option Value} {w : Wd} {H : Hp} : ∀ {ds : List D} {vs : List V}, RpL K mg w H ds vs → ∀ b ∈ ds.zip vs, Rp K mg w H b.1 b.2
  | [], vs, h, b, hb => by simp at hb
  | d :: ds, vs, h, b, hb => by
    unfold RpL at h
    obtain ⟨v, r, rfl, h1, h2⟩ := h
    rcases List.mem_cons.mp hb with rfl | hb
    · exact h1
    · exact RpL.zip h2 b hb
theorem RpL.sort {K : PySem.W.Frag} {mg : Str → Option Value} {w : Wd} {H : Hp} {ds : List D} {vs : List V} {ps : List PyData} (h : RpL K mg w H ds vs) (hp : ds.length = ps.length) : RpL K mg w H (sortB ds ps) (sortB vs ps) := by
  have el := h.length
  have z1 : ((ds.zip vs).zip ps).map (fun t => t.1.1) = ds := by
    have e : (fun t : (D × V) × PyData => t.1.1) = Prod.fst ∘ Prod.fst := rfl
    rw [e, ← List.map_map, zip_fst (by rw [List.length_zip]; omega)]
    exact List.map_fst_zip (by omega)
  have z2 : ((ds.zip vs).zip ps).map (fun t => t.1.2) = vs := by
    have e : (fun t : (D × V) × PyData => t.1.2) = Prod.snd ∘ Prod.fst := rfl
    rw [e, ← List.map_map, zip_fst (by rw [List.length_zip]; omega)]
    exact List.map_snd_zip (by omega)
  have z3 : ((ds.zip vs).zip ps).map Prod.snd = ps := zip_snd (by rw [List.length_zip]; omega)
  have s1 := sortB_map (fun t : (D × V) × PyData => t.1.1) Prod.snd ((ds.zip vs).zip ps)
  have s2 := sortB_map (fun t : (D × V) × PyData => t.1.2) Prod.snd ((ds.zip vs).zip ps)
  rw [z1, z3] at s1
  rw [z2, z3] at s2
  rw [s1, s2]
  have key := RpL.of_all (K := K) (mg := mg) (w := w) (H := H) (L := (((ds.zip vs).zip ps).mergeSort (PySem.W.dataLe false Prod.snd)).map Prod.fst) (fun b hb => by
    obtain ⟨t, ht, rfl⟩ := List.mem_map.mp hb
    have hm := (List.mergeSort_perm _ _).mem_iff.mp ht
    exact RpL.zip h _ (List.of_mem_zip (a := t.1) (b := t.2) hm).1)
  rw [List.map_map, List.map_map] at key
  exact key
end
end Kw
namespace Kw
open PySem PySem.Spec PySem.Calls PyProof.Rows L2
/-- a code object, its table, the name that the table's code objects bear -/
abbrev Tb := Addr × Addr × Str
def tbP (cs : List Tb) : List Addr := cs.map fun p => p.2.1
/-- the cells at the start -/
def topS0 (cs : List Tb) : Store := .sys :: cs.map fun p => .tab p.2.2
def topW (cs : List Tb) : Wd := ⟨none :: (tbP cs).map some, [sysModules]⟩
structure TopH (K : PySem.W.Frag) (cs : List Tb) (H : Hp) (a : Addr) (ns : List Int) : Prop where
  sysx : ∃ φ, H sysModules = some (.ext φ) ∧ SysQ φ
  look : K.lookup sysModules = none
  tbl : ∀ p ∈ cs, H p.2.1 = some (.tbl #[])
  tin : ∀ p ∈ cs, PySem.W.tabIn K p.2.2 = some (p.1, p.2.1)
  nodup : (tbP cs).Nodup
  scr : SqL K H a (ns.map V.int)
  frz : ∀ o, H a = some o → ∃ u, o = .frz u (.lst (ns.map V.int))
section
variable {K : PySem.W.Frag} {mg : Str → Option Value} {cs : List Tb} {H : Hp} {a : Addr} {ns : List Int}
theorem TopH.sys_ne (t : TopH K cs H a ns) {p : Tb} (hp : p ∈ cs) : p.2.1 ≠ sysModules := fun e => by
  obtain ⟨φ, h, _⟩ := t.sysx
  have := t.tbl p hp
  rw [e, h] at this; cases this
theorem topW_get {n : Nat} {b : Addr} (h : (topW cs).φ[n]? = some (some b)) : ∃ m, n = m + 1 ∧ (tbP cs)[m]? = some b := by
  cases n with
  | zero => cases h
  | succ m =>
    refine ⟨m, rfl, ?_⟩
    have h' : ((tbP cs).map some)[m]? = some (some b) := h
    rw [List.getElem?_map] at h'
    cases e : (tbP cs)[m]? with
    | none => rw [e] at h'; cases h'
    | some c => rw [e] at h'; simpa using h'
theorem top_sto (t : TopH K cs H a ns) : Sto K mg (topW cs) (topS0 cs) H := by
  have nsys : some sysModules ∉ (topW cs).φ := fun z => by
    rcases List.mem_cons.mp (show some sysModules ∈ none :: (tbP cs).map some from z) with z | z
    · cases z
    · obtain ⟨b, hb, e⟩ := List.mem_map.mp z
      cases e
      obtain ⟨p, hp, e⟩ := List.mem_map.mp hb
      exact t.sys_ne hp e
  refine ⟨by simp [topW, topS0, tbP], fun m n b h1 h2 => ?_, fun b hb => ?_, fun n c hc => ?_⟩
  · obtain ⟨i, rfl, hi⟩ := topW_get h1
    obtain ⟨j, rfl, hj⟩ := topW_get h2
    have hil : i < (tbP cs).length := by
      rcases Nat.lt_or_ge i (tbP cs).length with l | l
      · exact l
      · rw [List.getElem?_eq_none l] at hi; cases hi
    have := (List.getElem?_inj hil t.nodup).mp (hi.trans hj.symm)
    omega
  · have e : b = sysModules := by simpa [topW] using hb
    subst e
    obtain ⟨φ, h, _⟩ := t.sysx
    exact ⟨by rw [h]; exact fun z => (nomatch z), nsys⟩
  · cases n with
    | zero =>
      have e : c = .sys := by simpa [topS0] using hc.symm
      subst e
      exact ⟨rfl, List.mem_cons_self, nsys, t.sysx, t.look⟩
    | succ m =>
      have hc' : (cs.map fun p => Cell.tab p.2.2)[m]? = some c := hc
      rw [List.getElem?_map] at hc'
      cases e : cs[m]? with
      | none => rw [e] at hc'; cases hc'
      | some p =>
        rw [e] at hc'
        have e2 : Cell.tab p.2.2 = c := by simpa using hc'
        subst e2
        have hp := List.mem_of_getElem? e
        refine ⟨_, _, t.tin p hp, ?_, #[], t.tbl p hp, trivial, fun pos cv h => ?_⟩
        · show ((tbP cs).map some)[m]? = _
          rw [List.getElem?_map, tbP, List.getElem?_map, e]; rfl
        · have h' : codeAmong pos [] = some cv := h
          simp [codeAmong] at h'
theorem top_script (t : TopH K cs H a ns) : Rp K mg (topW cs) H (.fls (ns.map .int)) (.ref a) := by
  unfold Rp
  refine ⟨a, _, rfl, ?_, RpL.ints ns⟩
  rcases t.scr with (h | ⟨o, h⟩) | h
  · obtain ⟨u, e⟩ := t.frz _ h; cases e
  · refine .inl ⟨o, h, fun z => ?_, fun z => ?_⟩
    · rcases List.mem_cons.mp (show some a ∈ none :: (tbP cs).map some from z) with z | z
      · cases z
      · obtain ⟨b, hb, e⟩ := List.mem_map.mp z
        cases e
        obtain ⟨p, hp, rfl⟩ := List.mem_map.mp hb
        have := t.tbl p hp
        rw [h] at this; cases this
    · have e : a = sysModules := by simpa [topW] using z
      obtain ⟨φ, q, _⟩ := t.sysx
      rw [e, q] at h; cases h
  · exact .inr h
/-- the law's promise, from a heap of that kind; the modules' table stays -/
def spTop (K : PySem.W.Frag) (cs : List Tb) : Sp := fun vs H Q _ => ∃ (a : Addr) (ns : List Int), vs = [.ref a] ∧ ns.length ≤ 63 ∧ (∀ z ∈ ns, Builtin.Int.intBits z ≤ 1048576) ∧ TopH K cs H a ns ∧ ∀ H', (∀ φ, H sysModules = some (.ext φ) → H' sysModules = some (.ext φ)) → Q (.bl true) H'
theorem top_imp {F : FF} (hF : ∀ ns : List Int, ns.length ≤ 63 → (∀ z ∈ ns, Builtin.Int.intBits z ≤ 1048576) → ∃ S', F [.fls (ns.map .int)] (topS0 cs) = .ok (.bl true) S') : ∀ vs H Q E, spTop K cs vs H Q E → spF K mg 1 F vs H Q E := by
  rintro vs H Q E ⟨a, ns, rfl, hl, hb, t, q⟩
  obtain ⟨S', e⟩ := hF ns hl hb
  have st := top_sto (mg := mg) t
  refine ⟨topW cs, topS0 cs, [.fls (ns.map .int)], st, RpL.one (top_script t), rfl, ?_⟩
  rw [e]
  intro w' H' v ex s r
  rw [rp_bl r]
  exact q H' fun φ h => ex.fr _ _ h (st.ap sysModules List.mem_cons_self).2
def topH (K : PySem.W.Frag) (ps : List Addr) (om : Obj) (a : Addr) (vs : List Value) (ns : List Int) : Hp := fun b =>
  if b = sysModules then some (.ext fun h => h.get? sysModules = some om) else if b ∈ ps then some (.tbl #[]) else if b = a ∧ (K.lookup a).isNone = true then some (.frz (scrO vs) (.lst (ns.map V.int))) else none
theorem head_t {P : Program} {w : World} {mb : Str → Option Value} {k : Nat} {fa : Addr} {fd : FuncData} {x : Str} {s : Shared} {vs : List Value} (KX : K.In s.heap) (gm : s.heap.Ns mainGlobals mg) (gb : s.heap.Ns builtinsNs mb)
    (boot : ∀ y : Str, y ≠ "__name__" → mb y = bootBuiltins y) (lim : s.heap.NoLimit) (sy : ∃ mm, s.heap.Ns sysModules mm) (bmn : ∃ bm ob, mg "__builtins__" = some (.ref bm) ∧ bm ≠ builtinsNs ∧ s.heap.get? bm = some ob ∧ ob.cls = .type "module" ∧ ob.dict = some builtinsNs ∧ ob.data = .plain) (ng : s.gens = #[])
    (ha : s.heap.get? a = some (scrO vs)) (hi : IntsAre vs ns) (hl : ns.length ≤ 63) (hz : ∀ z ∈ ns, Builtin.Int.intBits z ≤ 1048576) (hr : RoomG k callerA)
    (kS : K.lookup sysModules = none) (hT : ∀ p ∈ cs, s.heap.get? p.2.1 = some { cls := .none, data := .fields #[] }) (kT : ∀ p ∈ cs, K.lookup p.2.1 = none) (hC : ∀ p ∈ cs, PySem.W.CodeHd s.heap p.1 p.2.1) (nd : (tbP cs).Nodup) (hI : ∀ p ∈ cs, PySem.W.tabIn K p.2.2 = some (p.1, p.2.1))
    (F : ∀ base : Heap, K.In base → base.Ns mainGlobals mg → (∀ p ∈ cs, LamX.TabB base mg p.1 p.2.1) → FnG P w K mg base k fa fd [x] (spTop K cs)) (hbd : ∀ (s : Shared) (u : Value), BindsTo s fd ⟨[u], []⟩ [(x, u)]) (no : ∀ H e s', L2.CX P w [] H s (fun _ _ _ => False) e s' → False) :
    codeAny (model P w) callerA (.call (.ref fa) ⟨[.ref a], []⟩) (fun r s' => r = .ok (.ret (.bool true)) ∧ OldK s.heap s'.heap ∧ s'.os = s.os ∧ AllBare s'.gens) s := by
  obtain ⟨mm, om, es, ep, hom, hod, _⟩ := sy
  have rv := vals_ints hi
  have hsz : ns.length ≤ sizeLine := Nat.le_trans hl (by rw [sizeLine_eq]; decide)
  have hsz' : (ns.map V.int).length ≤ sizeLine := by rw [List.length_map]; exact hsz
  have aS : a ≠ sysModules := fun e => by
    rw [e, hom] at ha
    have := congrArg Obj.data (Option.some.inj ha)
    rw [hod] at this; cases this
  have tS : ∀ p ∈ cs, p.2.1 ≠ sysModules := fun p hp e => by
    have := hT p hp
    rw [e, hom] at this
    have := congrArg Obj.data (Option.some.inj this)
    rw [hod] at this; cases this
  have tA : a ∉ tbP cs := fun z => by
    obtain ⟨p, hp, e⟩ := List.mem_map.mp z
    have := hT p hp
    rw [e, ha] at this
    have := congrArg Obj.data (Option.some.inj this)
    cases this
  have sT : sysModules ∉ tbP cs := fun z => by
    obtain ⟨p, hp, e⟩ := List.mem_map.mp z
    exact tS p hp e
  generalize hH : topH K (tbP cs) om a vs ns = H
  have Hs : H sysModules = some (.ext fun h => h.get? sysModules = some om) := by rw [← hH]; exact if_pos rfl
  have Ht : ∀ b, b ∈ tbP cs → H b = some (.tbl #[]) := fun b hb => by
    rw [← hH]; unfold topH
    have n1 : ¬ b = sysModules := fun z => sT (by rw [← z]; exact hb)
    rw [if_neg n1, if_pos hb]
  have Ho : ∀ b, b ≠ sysModules → b ∉ tbP cs → H b = if b = a ∧ (K.lookup a).isNone = true then some (.frz (scrO vs) (.lst (ns.map V.int))) else none := fun b h1 h2 => by
    rw [← hH]; unfold topH
    rw [if_neg h1, if_neg h2]
  have Hc : ∀ b u, H b = some u → (b = sysModules ∧ u = .ext fun h => h.get? sysModules = some om) ∨ (b ∈ tbP cs ∧ u = .tbl #[]) ∨ (b = a ∧ K.lookup a = none ∧ u = .frz (scrO vs) (.lst (ns.map V.int))) := fun b u e => by
    by_cases h1 : b = sysModules
    · subst h1; rw [Hs] at e; cases e; exact .inl ⟨rfl, rfl⟩
    · by_cases h2 : b ∈ tbP cs
      · rw [Ht b h2] at e; cases e; exact .inr (.inl ⟨h2, rfl⟩)
      · rw [Ho b h1 h2] at e
        split at e
        · rename_i q; cases e; exact .inr (.inr ⟨q.1, by simpa using q.2, rfl⟩)
        · cases e
  have top : TopH K cs H a ns := by
    refine ⟨⟨_, Hs, fun h z => ⟨om, es, ep, z, hod⟩⟩, kS, fun p hp => Ht _ (List.mem_map.mpr ⟨p, hp, rfl⟩), hI, nd, ?_, fun o e => ?_⟩
    · cases hk : K.lookup a with
      | some o =>
        have e := (KX a o hk).symm.trans ha
        cases e
        exact .inr ⟨_, vs.toArray, _, hk, rfl, rfl, rfl, by rw [List.size_toArray, hi.length]; exact hsz, by simpa using rv⟩
      | none => exact .inl (.inr ⟨scrO vs, by rw [Ho a aS tA, if_pos ⟨rfl, by rw [hk]; rfl⟩]⟩)
    · rcases Hc _ _ e with ⟨z, _⟩ | ⟨z, _⟩ | ⟨_, _, z⟩
      · exact absurd z aS
      · exact absurd z tA
      · exact ⟨_, z⟩
  have hok : HOk P w H s.heap := fun b u e => by
    rcases Hc _ _ e with ⟨rfl, rfl⟩ | ⟨z, rfl⟩ | ⟨rfl, _, rfl⟩
    · exact ⟨hom, ⟨om, hom⟩, fun h1 h2 q st => st _ q⟩
    · obtain ⟨p, hp, rfl⟩ := List.mem_map.mp z
      exact hT p hp
    · exact ⟨ha, hsz', vs, _, rv, ha⟩
  have un : ∀ {b : Addr} {o : Obj}, s.heap.get? b = some o → b ≠ sysModules → o.data ≠ .fields #[] → (o ≠ scrO vs ∨ K.lookup b ≠ none) → H b = none := fun {b o} g n1 n2 n3 => by
    cases e : H b with
    | none => rfl
    | some u =>
      rcases Hc _ _ e with ⟨z, _⟩ | ⟨z, _⟩ | ⟨rfl, k0, _⟩
      · exact absurd z n1
      · obtain ⟨p, hp, rfl⟩ := List.mem_map.mp z
        rw [hT p hp] at g; cases g
        exact absurd rfl n2
      · rcases n3 with n | n
        · exact absurd (Option.some.inj (g.symm.trans ha)) n
        · exact absurd k0 n
  have nsT : ∀ {b : Addr} {m : Str → Option Value}, b ≠ sysModules → s.heap.Ns b m → (hidT s.heap H).Ns b m := fun {b m} n ⟨o, es, ep, g, d, r⟩ =>
    ⟨o, es, ep, hidT_get g (un g n (fun z => by rw [z] at d; cases d) (.inl fun z => by rw [z] at d; exact nomatch d)), d, r⟩
  have kH : K.In (hidT s.heap H) := fun b o g => by
    refine hidT_get (KX b o g) ?_
    cases e : H b with
    | none => rfl
    | some u =>
      rcases Hc _ _ e with ⟨rfl, _⟩ | ⟨z, _⟩ | ⟨rfl, k0, _⟩
      · rw [kS] at g; cases g
      · obtain ⟨p, hp, rfl⟩ := List.mem_map.mp z
        rw [kT p hp] at g; cases g
      · rw [k0] at g; cases g
  obtain ⟨mc, lim1, lim2⟩ := lim
  have dS : mainGlobals ≠ sysModules := by decide
  have dB : builtinsNs ≠ sysModules := by decide
  have dC : cStatics ≠ sysModules := by decide
  have md : L2.Mod K mg (hidT s.heap H) := ⟨kH, nsT dS gm, ⟨mb, nsT dB gb, boot⟩, ⟨mc, nsT dC lim1, lim2⟩⟩
  have tb : ∀ p ∈ cs, LamX.TabB (hidT s.heap H) mg p.1 p.2.1 := fun p hp => by
    have tp := hT p hp
    refine ⟨?_, ?_, fun z => ?_⟩
    · obtain ⟨oc, us, f1, f2, f3, f4, f5, f6, f7, g1, g2, g3, g4, rest⟩ := hC p hp
      refine ⟨oc, us, f1, f2, f3, f4, f5, f6, f7, hidT_get g1 (un g1 (fun z => ?_) (fun z => ?_) (.inl fun z => ?_)), g2, g3, g4, rest⟩
      · rw [z, hom] at g1; cases g1
        rw [hod] at g3; cases g3
      · rw [z] at g3; cases g3; simp at g4
      · rw [z] at g3; cases g3
    · obtain ⟨bm, ob, b1, b2, b3, b4, b5, b6⟩ := bmn
      refine ⟨bm, ob, b1, b2, fun z => ?_, fun z => ?_, hidT_get b3 (un b3 (fun z => ?_) (fun z => ?_) (.inl fun z => ?_)), b4, b5, b6⟩
      · obtain ⟨og, _, _, g1, g2, _⟩ := gm
        rw [z, g1] at b3; cases b3
        rw [g2] at b6; cases b6
      · rw [z, tp] at b3; cases b3; cases b6
      · rw [z, hom] at b3; cases b3
        rw [hod] at b6; cases b6
      · rw [z] at b6; cases b6
      · rw [z] at b6; cases b6
    · obtain ⟨og, _, _, g1, g2, _⟩ := gm
      rw [z, tp] at g1; cases g1; cases g2
  have e0 : Env0 P w K mg (hidT s.heap H) callerA [] s H := { frames := rfl, mod := md, bs := fun b o g => of_hidT g, bsz := Nat.le_of_eq (hidT_size _ _), funs := trivial, frf := fun b hb => (nomatch hb), hok := hok, bare := .of_eq ng }
  refine codeAny_mono ((F _ kH (nsT dS gm) tb).runs callerA [] s H ⟨[.ref a], []⟩ [.ref a] [.ref a] (fun v H' => v = .bl true ∧ ∀ φ, H sysModules = some (.ext φ) → H' sysModules = some (.ext φ)) (fun _ _ _ => False) hr e0 (hbd s (.ref a)) (.cons rfl .nil) ⟨a, ns, rfl, hl, hz, top, fun H' q => ⟨rfl, q⟩⟩) fun r s' h => ?_
  match r, h with
  | .error e, h => exact (no H e s' h).elim
  | .ok .next, h => exact h.elim
  | .ok .brk, h => exact h.elim
  | .ok .cont, h => exact h.elim
  | .ok (.ret u), ⟨v, H', os, bare, ch, hok', rv', q1, q2⟩ =>
    subst q1
    obtain rfl : u = Value.bool true := rv'
    have kept : ∀ b o, b ∉ tbP cs → s.heap.get? b = some o → s'.heap.get? b = some o := fun b o nb g => by
      cases e : H b with
      | none => exact ch.keep b o g e (fun y => nomatch y) (fun y => nomatch y)
      | some z =>
        rcases Hc _ _ e with ⟨rfl, rfl⟩ | ⟨y, _⟩ | ⟨rfl, _, rfl⟩
        · obtain ⟨y, _⟩ := hok' _ _ (q2 _ e)
          rw [hom] at g; cases g; exact y
        · exact absurd y nb
        · rw [ha] at g; cases g
          exact (hok' _ _ (ch.frzs _ _ _ e)).1
    have grew : ∀ b ∈ tbP cs, ∃ more : Array Value, s'.heap.get? b = some { cls := .none, data := .fields more } := fun b hb => by
      obtain ⟨more, z⟩ := ch.tbls b #[] (Ht b hb)
      exact ⟨_, hok' b _ z⟩
    refine ⟨rfl, ⟨fun b o g => ?_, fun b o g => ?_⟩, os, bare⟩
    · by_cases hb : b ∈ tbP cs
      · obtain ⟨more, hm⟩ := grew b hb
        obtain ⟨p, hp, rfl⟩ := List.mem_map.mp hb
        have tp := hT p hp
        rw [tp] at g; cases g
        exact .inr (.inl ⟨((hC p hp).tab tp).isCodeTable, rfl, #[], more, rfl, by rw [Array.empty_append]; exact hm⟩)
      · exact .inl (kept b o hb g)
    · by_cases hb : b ∈ tbP cs
      · obtain ⟨more, hm⟩ := grew b hb
        exact ⟨_, hm⟩
      · exact ⟨o, kept b o hb g⟩
/-- what is known of the law at the top's heap -/
structure TopOk (K : PySem.W.Frag) (mg : Str → Option Value) (cs : List Tb) (h : Heap) : Prop where
  sysk : K.lookup sysModules = none
  at_ : ∀ p ∈ cs, h.get? p.2.1 = some { cls := .none, data := .fields #[] }
  look : ∀ p ∈ cs, K.lookup p.2.1 = none
  code : ∀ p ∈ cs, PySem.W.CodeHd h p.1 p.2.1
  nodup : (tbP cs).Nodup
  tin : ∀ p ∈ cs, PySem.W.tabIn K p.2.2 = some (p.1, p.2.1)
theorem TopOk.none {h : Heap} (hk : K.lookup sysModules = none) : TopOk K mg [] h := ⟨hk, fun _ z => (nomatch z), fun _ z => (nomatch z), fun _ z => (nomatch z), List.nodup_nil, fun _ z => (nomatch z)⟩
end
theorem walk_t {l : PySem.W.OpenLaw} {k : Nat} {q : Program} {loose : List Str} {XP : (Str → Option Value) → Heap → Prop} {YP : World → Heap → Prop} {d : DefRec} {K : Params → PySem.W.Frag} {x : Str} (hn : l.most = some 63) (hdf : d.params.defaults = []) (hr : RoomG k callerA) (hnone : importsNone q = true)
    (hY : ∀ (w : World) (h : Heap), YP w h → (K w.params).In h)
    (F : ∀ (w : World) (mg mb : Str → Option Value) (mean : ExcName → Option Value) (fa : Addr) (h : Heap), Top q (PySem.W.looseW q loose) mean mg mb h → (K w.params).In h → h.Ns mainGlobals mg → mg d.name = some (.ref fa) →
      ∃ (cs : List Tb) (fd : FuncData), TopOk (K w.params) mg cs h ∧ (∀ (s : Shared) (u : Value), BindsTo s fd ⟨[u], []⟩ [(x, u)]) ∧ ∀ base : Heap, (K w.params).In base → base.Ns mainGlobals mg → (∀ p ∈ cs, LamX.TabB base mg p.1 p.2.1) → FnG l.prog w (K w.params) mg base k fa fd [x] (spTop (K w.params) cs))
    (no : ∀ (w : World) (H : Hp) (s : Shared) (e : Value) (s' : Shared), L2.CX l.prog w [] H s (fun _ _ _ => False) e s' → False) : PySem.W.WalkO q loose XP YP l.row.toRowW d [] (fun f vs => PySem.call f vs) := by
  refine Att.attach_callB hn hdf fun w s0 s1 mg mb fa o pm cd doc a vs ns G Y ho hd hcd hmg hobj hints hlen hbits hg => ?_
  obtain ⟨cs, fd, tk, hbd, hF⟩ := F w mg mb _ fa _ G.T (hY w _ Y) G.T.g hmg
  obtain ⟨mm, hm, _⟩ := (G.T.seer hnone).mods
  exact head_t (hY w _ Y) G.T.g G.T.b G.T.builtins G.T.nolimit ⟨mm, hm⟩ G.T.bmain hg hobj hints hlen hbits hr tk.sysk tk.at_ tk.look tk.code tk.nodup tk.tin hF hbd (fun H e s' => no w H s1 e s')
end Kw
namespace Kw
open PySem PySem.Spec PySem.Calls PyProof.Rows L2
theorem readsAll_get {h : Heap} : ∀ {vs : List Value} {ds : List PyData} {as : List Addr}, ReadsAll h vs ds as → ∀ {i : Nat} {d : PyData}, ds[i]? = some d → ∃ v bs, vs[i]? = some v ∧ Reads h v d bs
  | _, _, _, .nil, i, d, e => by simp at e
  | _, _, _, .cons r t, 0, d, e => by
    simp at e; subst e
    exact ⟨_, _, rfl, r⟩
  | _, _, _, .cons r t, i + 1, d, e => by
    obtain ⟨v, bs, h1, h2⟩ := readsAll_get t (i := i) (by simpa using e)
    exact ⟨v, bs, by simpa using h1, h2⟩
section
variable {prog : Program} {w : World} {A : Around} {E : Value → Shared → Prop} {s : Shared} {kz : List PyData}
/-- the key k is told, off lists that stood in h0 already and are not a -/
def KeyOld (h0 : Heap) (a : Addr) (k : PyData) (t : Shared) (v : Value) (t' : Shared) : Prop := ∃ g n as, t' = { t with heap := g, toks := n } ∧ (∀ c o, t.heap.get? c = some o → g.get? c = some o) ∧ Reads g v k as ∧ ∀ c ∈ as, c ≠ a ∧ h0.get? c ≠ none
theorem reads_old {h : Heap} : ∀ {v : Value} {d : PyData} {as : List Addr}, Reads h v d as → ∀ c ∈ as, h.get? c ≠ none := by
  intro v d as r
  refine Reads.rec (motive_1 := fun v d as _ => ∀ c ∈ as, h.get? c ≠ none) (motive_2 := fun vs ds as _ => ∀ c ∈ as, h.get? c ≠ none) ?_ ?_ ?_ ?_ ?_ ?_ ?_ ?_ ?_ r
  · exact fun c hc => nomatch hc
  · exact fun b c hc => nomatch hc
  · exact fun i t c hc => nomatch hc
  · exact fun x t c hc => nomatch hc
  · intro a o vs n xs as h1 h2 h3 h4 ih c hc
    rcases List.mem_cons.mp hc with rfl | hc
    · rw [h1]; exact fun z => nomatch z
    · exact ih c hc
  · intro a o vs n xs as h1 h2 h3 h4 ih c hc
    exact ih c hc
  · intro a o es n kvs as bs h1 h2 h3 h4 h5 i1 i2 c hc
    rcases List.mem_append.mp hc with hc | hc
    · rcases List.mem_cons.mp hc with rfl | hc
      · rw [h1]; exact fun z => nomatch z
      · exact i1 c hc
    · exact i2 c hc
  · exact fun c hc => nomatch hc
  · intro v vs d ds as bs h1 h2 i1 i2 c hc
    rcases List.mem_append.mp hc with hc | hc
    · exact i1 c hc
    · exact i2 c hc
theorem keyOld_rest {a kS : Addr} {b : Bool} {vs : List Value} {e0 : Nat} {P : PySem.Fin → Shared → Prop} {f : Value} {h0 : Heap} (kp : PySem.W.KeepsBut a h0 s.heap) (fr : h0.get? kS = none) (gS : s.heap.get? kS = some (seqObj "list" #[] 0)) (ga : s.heap.get? a = some (seqObj "list" #[] e0)) (ne : kS ≠ a)
    (ln : kz.length = vs.length) (sm : vs.length ≤ sizeLine) (al : PySem.W.AllAlike kz) (so : PySem.W.Sortable kz) (dp : ∀ d, d ∈ kz → A.units + d.depth < cLine)
    (ask : ∀ (i : Nat) (v : Value) (k : PyData), vs[i]? = some v → kz[i]? = some k → ∀ (g : Heap) (n : Nat), PySem.W.KeepsBut a h0 g → wpAny (model prog w) A (call f [v]) (KeyOld h0 a k { s with heap := g, toks := n }) (fun _ _ => False) { s with heap := g, toks := n })
    (fin : ∀ g n out c, PySem.W.KeepsBut a h0 g → g.get? a = some (seqObj "list" (List.toArray out) c) → PySem.W.KeyedOut b kz vs out → P (.done (.ret .none)) { s with heap := g, toks := n }) : wpAny (model prog w) A (PyProof.Rows.ksk_rest a f b vs.toArray e0 (.ref kS)) P E s := by
  unfold PyProof.Rows.ksk_rest
  refine wpAny_bind (wpAny_rule ?_)
  rw [List.forIn_toArray]
  refine wpAny_bind (PyProof.Rows.ksk_fold (fun i t => ∃ g n ks c, t = { s with heap := g, toks := n } ∧ PySem.W.KeepsBut a h0 g ∧ g.get? kS = some (seqObj "list" ks c) ∧ g.get? a = some (seqObj "list" #[] e0) ∧
    PySem.W.EachIs (fun v k => PySem.W.alike k k = true ∧ ∃ as, Reads g v k as ∧ ∀ c ∈ as, c ≠ a ∧ h0.get? c ≠ none) ks.toList (kz.take i)) vs 0 s ⟨s.heap, s.toks, #[], 0, rfl, kp, gS, ga, by rw [List.take_zero]; exact PySem.W.EachIs.nil⟩ ?each ?last)
  case each =>
    rintro j x t hx ⟨g, n, ks, c, rfl, kp1, gS1, ga1, hk⟩
    rw [Nat.zero_add] at hk ⊢
    have jl : j < vs.length := (List.getElem?_eq_some_iff.mp hx).1
    have hkj : kz[j]? = some (kz[j]'(by omega)) := List.getElem?_eq_getElem _
    generalize (kz[j]'(by omega)) = k at hkj
    have km := List.mem_of_getElem? hkj
    have kk := al k km k km
    have kl : ks.size ≤ vs.length := by
      have z := hk.length
      rw [Array.length_toList, List.length_take] at z
      omega
    refine wpAny_bind (wpAny_attempt (wpAny_mono (ask j x k hx hkj g n kp1) (fun v t hv => ?_) fun _ _ z => z.elim))
    obtain ⟨g2, n2, as, rfl, up, rd, old⟩ := hv
    dsimp only
    have gS2 := up _ _ gS1
    have ga2 := up _ _ ga1
    have same := Heap.SameBut.update g2 kS (Obj.mapSeq (·.push v))
    have gS3 := get?_update_seq gS2 (·.push v)
    refine wpAny_bind (listUpdate_at gS2 rfl ?_ (Nat.le_trans kl sm) (Nat.le_trans (Nat.le_of_eq (Array.size_push ..)) (Nat.succ_le_succ (Nat.le_trans kl sm))))
    have moved : ∀ (u : Value) (d : PyData), (PySem.W.alike d d = true ∧ ∃ as, Reads g2 u d as ∧ ∀ c ∈ as, c ≠ a ∧ h0.get? c ≠ none) → PySem.W.alike d d = true ∧ ∃ as, Reads (g2.update kS (Obj.mapSeq (·.push v))) u d as ∧ ∀ c ∈ as, c ≠ a ∧ h0.get? c ≠ none := by
      rintro u d ⟨q1, bs, q2, q3⟩
      exact ⟨q1, bs, PySem.W.Reads.keepBut (a := kS) (fun c o hc e => (same.2 c hc).trans e) (fun o e => by rw [gS2] at e; rw [← Option.some.inj e]) d u bs q1 q2 (fun z => (q3 _ z).2 fr), q3⟩
    have e1 : kz.take (j + 1) = kz.take j ++ [k] := by rw [List.take_add_one, hkj]; rfl
    have e2 : (ks.push v).toList = ks.toList ++ [v] := by simp
    refine wpAny_pure ⟨rfl, _, _, ks.push v, _, rfl, (kp1.trans_all up).same same (.inr fr), gS3, (same.2 a ne.symm).trans ga2, ?_⟩
    rw [e1, e2]
    exact PySem.W.each_snoc (R := fun (u : Value) (d : PyData) => PySem.W.alike d d = true ∧ ∃ as, Reads (g2.update kS (Obj.mapSeq (·.push v))) u d as ∧ ∀ c ∈ as, c ≠ a ∧ h0.get? c ≠ none) (moved v k ⟨kk, as, rd, old⟩) (hk.mono fun u d q => moved u d ⟨q.1, q.2.imp fun bs z => ⟨PyProof.Rows.Reads.keeps up z.1, z.2⟩⟩)
  case last =>
    rintro t ⟨g, n, ks, c, rfl, kp1, gS1, ga1, hk⟩
    have hk2 : PySem.W.EachIs (fun v k => ∃ as, Reads g v k as) ks.toList kz := by
      have z : kz.take (0 + vs.length) = kz := List.take_of_length_le (by omega)
      rw [z] at hk
      exact hk.mono fun v k q => q.2.imp fun as z => z.1
    have sz : ks.size = vs.length := by
      have z := hk2.length
      rw [Array.length_toList] at z
      omega
    refine wpAny_bind (listItems_at gS1 rfl ?_)
    exact PySem.W.keyH_end (κ := PySem.W.dataKind g kz) (h₁ := h0) kp1 fr gS1 ga1 ne (PySem.W.SortsAt.data (s := { s with heap := g, toks := n }) hk2 al so dp) sz sm fun g3 n3 c3 k3 z3 => fin g3 n3 _ c3 k3 z3 ⟨g, ks.toList, al, rfl, hk2⟩
theorem keyOld_tree {a : Addr} {b : Bool} {vs : List Value} {P : PySem.Fin → Shared → Prop} {f : Value} {n : Nat} (at_ : s.heap.get? a = some (seqObj "list" vs.toArray n)) (ln : kz.length = vs.length) (sm : vs.length ≤ sizeLine) (al : PySem.W.AllAlike kz) (so : PySem.W.Sortable kz) (dp : ∀ d, d ∈ kz → A.units + d.depth < cLine)
    (ask : ∀ (i : Nat) (v : Value) (k : PyData), vs[i]? = some v → kz[i]? = some k → ∀ (g : Heap) (n : Nat), PySem.W.KeepsBut a s.heap g → wpAny (model prog w) A (call f [v]) (KeyOld s.heap a k { s with heap := g, toks := n }) (fun _ _ => False) { s with heap := g, toks := n })
    (fin : ∀ g n out c, PySem.W.KeepsBut a s.heap g → g.get? a = some (seqObj "list" (List.toArray out) c) → PySem.W.KeyedOut b kz vs out → P (.done (.ret .none)) { s with heap := g, toks := n }) : wpAny (model prog w) A (PyProof.Rows.ksk_tree a f b) P E s := by
  have al1 : a < s.heap.objs.size := Heap.lt_size at_
  have em := get?_update_seq at_ fun _ => (#[] : Array Value)
  have sz : ((s.heap.update a (Obj.mapSeq fun _ => (#[] : Array Value))).push (seqObj "tuple" vs.toArray 0)).objs.size = s.heap.objs.size + 1 := by rw [size_push', Heap.size_update]
  unfold PyProof.Rows.ksk_tree
  refine wpAny_bind (listItems_at at_ rfl (wpAny_bind (listUpdate_at at_ rfl ?_ (by rw [List.size_toArray]; exact sm) (Nat.zero_le _))))
  refine wpAny_bind (seqEpoch_at em rfl (wpAny_bind (wpAny_newTuple (wpAny_bind (wpAny_newList (wpAny_holding ?_) (Nat.zero_le _))) (show vs.length ≤ _ from sm))))
  exact keyOld_rest (h0 := s.heap) (s := { s with heap := _ }) (kS := _) (fun c o hc q => PySem.W.sortingHeap_old hc q) (Heap.get?_none_of_le (by rw [sz]; exact Nat.le_succ _)) (Heap.get?_push_size _ rfl) (Heap.get?_push_of_some _ (Heap.get?_push_of_some _ em)) (by rw [sz]; exact Nat.ne_of_gt (Nat.lt_succ_of_lt al1)) ln sm al so dp ask fin
end
section
variable {prog : Program} {w : World} {A : Around} {E : Value → Shared → Prop} {s : Shared} {b : Bool} {kz : List PyData}
/-- a key, off lists that stood already -/
def KeyIn (h0 : Heap) (k : PyData) (t : Shared) (v : Value) (t' : Shared) : Prop := ∃ g n as, t' = { t with heap := g, toks := n } ∧ (∀ c o, t.heap.get? c = some o → g.get? c = some o) ∧ Reads g v k as ∧ ∀ c ∈ as, h0.get? c ≠ none
theorem sorted_rangeK {r : Addr} {n : Int} {t u v : Tok} {f : Value} {kw : List (Str × Value)} {Q : Value → Shared → Prop} (hh : A.handled = none) (hr : IsRange s.heap r 0 n 1 t u v) (hn0 : 0 ≤ n) (hn : n ≤ 16777216) (hlen : (kz.length : Int) = n) (hal : PySem.W.AllAlike kz) (hk : PySem.W.Sortable kz)
    (hu : ∀ d, d ∈ kz → A.units + 2 + d.depth < cLine) (ha1 : argsOk "sorted" ⟨[.ref r], kw⟩) (ha2 : ∀ x, argsOk "list.sort" ⟨[.ref x], kw⟩) (ht : ∀ x, Builtin.«list.sort» ⟨[.ref x], kw⟩ = ksk_tree x f b)
    (turn : ∀ (i : Nat) (tk0 : Tok) (k : PyData), kz[i]? = some k → ∀ (h : Heap) (tk : Nat), (∀ b o, s.heap.get? b = some o → h.get? b = some o) →
      wpAny (model prog w) A.in1.in1 (call f [.int (i : Int) tk0]) (KeyIn s.heap k { s with heap := h, toks := tk }) (fun _ _ => False) { s with heap := h, toks := tk })
    (h : ∀ (out : List Value) (c : Nat) (h' : Heap) (tk : Nat) (D : Addr), (∀ b o, s.heap.get? b = some o → h'.get? b = some o) → s.heap.get? D = none → h'.get? D = some (seqObj "list" (List.toArray out) c) → out.length = kz.length →
      Vals (((((List.range kz.length).map fun (i : Nat) => V.int (i : Int)).zip kz).mergeSort (PySem.W.dataLe b Prod.snd)).map Prod.fst) out → Q (.ref D) { s with heap := h', toks := tk }) :
    wpAny (model prog w) A (call (.builtin "sorted") [.ref r] kw) Q E s := by
  refine call_function_entry_kw kind_sorted plain_sorted entry_sorted ha1 ?_
  unfold Builtin.«sorted»
  refine wpAny_bind (m := checkCount "sorted" 1 1 _) (wpAny_pure ?_)
  refine wpAny_bind (L2.collect_range (n := n.toNat) hh hr (small_one (by omega) (by omega) (by omega) (by omega)) (by have := rangeSize_nat 0 n; simpa using this) (by omega) fun h1 tk1 acc hk1 hi => ?_)
  have hsz : acc.size = n.toNat := hi.1
  have hal1 : acc.toList.length = kz.length := by rw [Array.length_toList, hsz]; omega
  have hz : acc.toList.length ≤ sizeLine := by rw [hal1, sizeLine_eq]; omega
  refine wpAny_bind (wpAny_newList ?_ (by show acc.toList.length ≤ _; exact hz))
  have hD : (h1.push (seqObj "list" acc.toList.toArray 0)).get? h1.objs.size = some (seqObj "list" acc.toList.toArray 0) := Heap.get?_push_size _ rfl
  have fresh : s.heap.get? h1.objs.size = none := by
    cases e : s.heap.get? h1.objs.size with
    | none => rfl
    | some o => exact absurd (Heap.lt_size (hk1 _ _ e)) (Nat.lt_irrefl _)
  have up : ∀ {g : Heap}, PySem.W.KeepsBut h1.objs.size (h1.push (seqObj "list" acc.toList.toArray 0)) g → ∀ b o, s.heap.get? b = some o → g.get? b = some o := fun {g} kp b o q =>
    kp b o (Nat.ne_of_lt (Heap.lt_size (hk1 _ _ q))) (Heap.get?_push_of_some _ (hk1 _ _ q))
  have ez := zip_snd (xs := (List.range kz.length).map fun (i : Nat) => V.int (i : Int)) (ps := kz) (by simp)
  have rel : PySem.W.EachIs (fun u (b : V × PyData) => RelV b.1 u) acc.toList (((List.range kz.length).map fun (i : Nat) => V.int (i : Int)).zip kz) := by
    refine each_vals (vals_of_at (by simp [hal1]) fun j x u h1 h2 => ?_) (by simp)
    rw [List.getElem?_map] at h1
    cases e : (List.range kz.length)[j]? with
    | none => rw [e] at h1; cases h1
    | some y =>
      rw [e] at h1
      have hy : j = y := by
        have := List.getElem?_eq_some_iff.mp e
        obtain ⟨h3, h4⟩ := this
        simp at h4; exact h4
      subst hy
      have h1' : V.int (j : Int) = x := by simpa using h1
      subst h1'
      obtain ⟨t, ht⟩ := hi.2 j u (by rw [← Array.getElem?_toList]; exact h2)
      exact ⟨t, by rw [ht]; simp⟩
  refine wpAny_bind (wpAny_holding (wpAny_call_entry_kw slot_list_sort ⟨_, hD, rfl⟩ entry_list_sort ?body (ha2 _)))
  case body =>
    show wpAny (model prog w) A.in1.in1 (Builtin.«list.sort» ⟨[.ref h1.objs.size], kw⟩) _ _ _
    rw [ht]
    refine keyOld_tree (kz := kz) (vs := acc.toList) (n := 0) (s := { s with heap := h1.push (seqObj "list" acc.toList.toArray 0), toks := tk1 }) hD hal1.symm hz hal hk hu (fun i v k hv hkz hp tk kp => ?_) fun h' tk out c kp hD' ko => ?_
    · obtain ⟨t, rfl⟩ := hi.2 i v (by rw [← Array.getElem?_toList]; exact hv)
      have := turn i t k hkz hp tk (up kp)
      rw [Int.zero_add, Int.mul_one]
      refine wpAny_mono this (fun v t' z => ?_) (fun _ _ z => z)
      obtain ⟨g, n, as, z1, z2, z3, z4⟩ := z
      refine ⟨g, n, as, z1, z2, z3, fun c hc => ⟨fun e => z4 c hc (by rw [e]; exact fresh), fun e => ?_⟩⟩
      cases q : s.heap.get? c with
      | none => exact z4 c hc q
      | some o => rw [Heap.get?_push_of_some _ (hk1 _ _ q)] at e; cases e
    · refine ⟨_, rfl, wpAny_pure ⟨_, rfl, ?_⟩⟩
      refine h out c h' tk _ (up kp) fresh hD' (ko.length (by rw [hal1])  |>.trans hal1) ?_
      refine vals_each (PySem.W.keyedOut_each Prod.snd ?_ rel)
      rw [ez]; exact ko
end
abbrev oPar (ap : Pos) : Arguments := { posonlyargs := [], args := [{ arg := "place", annotation := none, pos := ap }], vararg := none, kwonlyargs := [], kw_defaults := [], kwarg := none, defaults := [] }
abbrev oBody (b1 b2 b3 : Pos) : Expr := .Subscript (.Name "things" b1) (.Name "place" b2) b3
abbrev oSc : Scope := { kind := .function, names := [("place", .local), ("things", .free)], isGenerator := false, isCoroutine := false, more := [] }
section
variable {prog : Program} {w : World} {A : Around} {s : Shared}
theorem order_turn {f c c' a : Addr} {q : Str} {pm ctv u : Value} {ap b1 b2 b3 : Pos} {its : Array Value} {i : Nat} {tk : Tok} {k : PyData} (hroom : A.depth < recursionLimit)
    (hf : s.heap.get? f = some (PySem.W.kla_obj "<lambda>" q (oPar ap) (oBody b1 b2 b3) oSc [("things", c)] pm c' ctv)) (hcd : s.heap.CodeRec (.ref c') q) (hcell : s.heap.IsCell c (some (.ref a))) (hl : s.heap.IsList a its ∨ IsTup s.heap a its) (hi : its[i]? = some u)
    (hfit : (i : Int) < 2 ^ 63) (hlim : s.heap.NoLimit) {as : List Addr} {h0 : Heap} (hr : Reads s.heap u k as) (hold : ∀ c ∈ as, h0.get? c ≠ none) : wpAny (model prog w) A (call (.ref f) [.int (i : Int) tk]) (KeyIn h0 k s) (fun _ _ => False) s := by
  refine wpAny_call (PySem.W.kla_callFunE hroom hf rfl rfl rfl rfl hcd ?_)
  have hb : bindArgs (PySem.W.kla_fn "<lambda>" q (oPar ap) (oBody b1 b2 b3) oSc [("things", c)] pm (.ref c') ctv) ⟨[.int (i : Int) tk], []⟩ = (pure [("place", Value.int (i : Int) tk)] : Sem (List (Str × Value))) := rfl
  rw [hb]
  refine wpAny_pure (wpAny_newFunctionEnv (fun y hy => ?_) (fun y hy => ?_) (fun h₁ hns hsb => ⟨hlim.fresh _ hsb, ?_⟩) rfl)
  · simp only [oSc, List.mem_cons, List.not_mem_nil, or_false] at hy
    rcases hy with rfl | rfl <;> simp
  · rw [List.mem_singleton.mp hy]
    rfl
  · have kp : ∀ b o, s.heap.get? b = some o → h₁.get? b = some o := fun b o e => hsb.extBut b o (Nat.ne_of_lt (Heap.lt_size e)) (Heap.get?_push_of_some _ e)
    show codeAny _ _ (.expr (oBody b1 b2 b3) _) _ _
    refine PySem.W.kla_codeExpr ?_
    obtain ⟨oc, hoc1, hoc2⟩ := hcell
    refine Subscript_ (wpAny_Name (wpAny_loadName_free (c := c) rfl rfl rfl ⟨oc, kp _ _ hoc1, hoc2⟩ (wpAny_Name (wpAny_loadName_local rfl rfl hns rfl ?_))))
    have fin : KeyIn h0 k s u { s with heap := h₁, toks := s.toks + 1 } := ⟨h₁, _, as, rfl, kp, PyProof.Rows.Reads.keeps kp hr, hold⟩
    rcases hl with ⟨ol, hol⟩ | ⟨ol, hol⟩
    · exact item_listR (l := a) (items := its) ⟨ol, kp _ _ hol.1, hol.2⟩ (by omega) hfit (by simpa using hi) fin
    · exact subscriptTail_builtinR (x := u) (IsTup.typeIs ⟨ol, kp _ _ hol.1, hol.2⟩) slot_tuple_getitem.lookup
        (getItem_tuple (j := i) (Q := fun r s' => r = u ∧ KeyIn h0 k s r s') ⟨ol, kp _ _ hol.1, hol.2⟩ (by omega) hfit (seqIndex_of (by omega) (by have := (Array.getElem?_eq_some_iff.mp hi).1; omega)) hi ⟨rfl, fin⟩) rfl
end
section
variable {X : Cx} {pins : List (Addr × Obj)} {σ : L2.St} {H : Hp} {s : Shared}
/-- what making a lambda does to what is known: its code object is found in the table, or is new there -/
def LamH (q : Str) (P : Addr) (ps : Array Value) (H H1 : Hp) (c' : Addr) : Prop :=
  (H1 = H ∧ H c' = some (LamX.CodeO c' q)) ∨
  ∃ more : Array Value, H c' = none ∧ c' ≠ P ∧ H1 = upd (upd H P (.tbl (ps ++ more))) c' (LamX.CodeO c' q) ∧ TriplesOk (ps ++ more).toList ∧ ∀ (pos : Pos) (cv : Value), codeAmong pos (ps ++ more).toList = some cv → codeAmong pos ps.toList = some cv ∨ cv = .ref c'
theorem lam_mk {c P : Addr} {q : Str} {ps : Array Value} {params : Arguments} {body : Expr} {scope : Scope} {pos : Pos} {E Q : Value → Shared → Prop} (I : Inv X pins σ H s) (TB : LamX.TabB X.base X.mg c P) (hcode : X.env.code = .ref c) (hq : X.env.qual ++ "<lambda>" = q)
    (hP : H P = some (.tbl ps)) (tri : TriplesOk ps.toList) (among : ∀ (p : Pos) (cv : Value), codeAmong p ps.toList = some cv → ∃ c, cv = .ref c ∧ H c = some (LamX.CodeO c q)) (hdef : defaultsOf params X.env = ([], [])) (hfree : ∀ y ∈ scope.names, y.2 = .free → ∃ c, X.env.cells.lookup y.1 = some c)
    (k : ∀ (f c' : Addr) (pm ctv : Value) (H1 : Hp) (s' : Shared), Inv X pins σ H1 s' → LamH q P ps H H1 c' → H1 f = none → f ∉ frs X.stack → s'.heap.get? f = some (PySem.W.kla_obj "<lambda>" q params body scope (cloFrom X.env.cells scope.names []) pm c' ctv) → (∃ ps1 : Array Value, H1 P = some (.tbl ps1) ∧ TriplesOk ps1.toList ∧ codeAmong pos ps1.toList = some (.ref c')) → Q (.ref f) s') :
    wpAny (model X.prog X.w) X.A (eval (.Lambda params body scope pos) X.env) Q E s := by
  subst hq
  have kb := TB.bm.keeps I.bk
  have kc := TB.code.keeps I.bk
  have kg := I.mod.glob.keeps I.bk
  have gP : s.heap.get? P = some { cls := .none, data := .fields ps } := I.hok P _ hP
  have out : ∀ f, s.heap.objs.size ≤ f → f ∉ frs X.stack := by
    intro f hf z
    rcases List.mem_cons.mp (I.stkSub _ z) with e | e
    · have := I.lt
      rw [← e] at this
      exact absurd (Nat.lt_of_lt_of_le this hf) (Nat.lt_irrefl _)
    · exact I.nofs hf e
  refine PySem.W.kla_eval hdef ?_
  rcases hc : codeAmong pos ps.toList with _ | cv
  · refine PySem.W.kla_makeFunction (c := c) (P := P) (ps := ps) (mg := X.mg) (closure_ok hfree) I.ok.glob kg hcode kc gP tri hc TB.gP kb ?_
    intro c' ctv h' tk hx hge hlt hrec htb
    obtain ⟨c2, oc, vs, t, e2, hoc, hd, hv⟩ := hrec
    cases e2
    have fr : H c' = none := I.hok.fresh hge
    have sz : s.heap.objs.size ≤ h'.objs.size := Nat.le_trans hge (Nat.le_of_lt hlt)
    have np : P ≠ c' := L2.ne_of_none hP fr
    have J := LamX.inv_table (t' := tk) (more := #[rawInt pos.line, rawInt pos.col, .ref c']) (h' := h'.push (PySem.W.kla_obj "<lambda>" (X.env.qual ++ "<lambda>") params body scope (cloFrom X.env.cells scope.names []) ((X.mg "__name__").getD .none) c' ctv)) I hP (fun b o hb e => Heap.get?_push_of_some _ (hx b o hb e)) (Heap.get?_push_of_some _ htb) hge ⟨oc, vs, t, Heap.get?_push_of_some _ hoc, hd, hv⟩
    have eT : (ps ++ #[rawInt pos.line, rawInt pos.col, .ref c']).toList = ps.toList ++ [rawInt pos.line, rawInt pos.col, .ref c'] := by simp
    refine k h'.objs.size c' _ ctv _ _ J (.inr ⟨_, fr, fun z => np z.symm, rfl, ?_, ?_⟩) ?_ (out _ sz) (Heap.get?_push_size _ rfl) ⟨_, by rw [upd_ne np, upd_same], by rw [eT]; exact PySem.TriplesOk_snoc _ _ _ _ tri, by rw [eT]; exact PySem.codeAmong_snoc _ tri hc⟩
    · have e : (ps ++ #[rawInt pos.line, rawInt pos.col, .ref c']).toList = ps.toList ++ [rawInt pos.line, rawInt pos.col, .ref c'] := by simp
      rw [e]; exact PySem.TriplesOk_snoc _ _ _ _ tri
    · intro p' cv hcv
      have e : (ps ++ #[rawInt pos.line, rawInt pos.col, .ref c']).toList = ps.toList ++ [rawInt pos.line, rawInt pos.col, .ref c'] := by simp
      rw [e] at hcv
      exact LamX.among_app _ tri hcv
    · have h1 : h'.objs.size ≠ c' := fun z => Nat.ne_of_gt hlt z
      have h2 : h'.objs.size ≠ P := fun z => Nat.ne_of_gt (Nat.lt_of_lt_of_le (Heap.lt_size gP) sz) z
      rw [upd_ne h1, upd_ne h2]
      exact I.hok.fresh sz
  · obtain ⟨c', e, hco⟩ := among pos cv hc
    subst e
    refine PySem.W.kla_makeFunctionHit (c := c) (P := P) (ps := ps) (mg := X.mg) (closure_ok hfree) I.ok.glob kg hcode kc gP tri hc kb ?_
    intro ctv h' tk hx hsz
    have J : Inv X pins σ H { s with heap := h'.push (PySem.W.kla_obj "<lambda>" (X.env.qual ++ "<lambda>") params body scope (cloFrom X.env.cells scope.names []) ((X.mg "__name__").getD .none) c' ctv), toks := tk } := I.kept fun b o e => Heap.get?_push_of_some _ (hx b o e)
    exact k _ c' _ ctv H _ J (.inl ⟨rfl, hco⟩) (I.hok.fresh hsz) (out _ hsz) (Heap.get?_push_size _ rfl) ⟨ps, hP, tri, hc⟩
end
section
variable {K : PySem.W.Frag} {mg : Str → Option Value} {w : Wd} {S : Store} {H H1 : Hp} {j : Nat} {x : Str} {P c c' : Addr} {ps : Array Value}
/-- the store is as it was -/
theorem lam_sto (s : Sto K mg w S H) (hj : S[j]? = some (.tab x)) (hP : w.φ[j]? = some (some P)) (e : H P = some (.tbl ps)) (k : LamH (tabQ x) P ps H H1 c') : Ext w H w H1 ∧ Sto K mg w S H1 := by
  rcases k with ⟨rfl, _⟩ | ⟨more, nc, np, rfl, tri, am⟩
  · exact ⟨Ext.refl, s⟩
  · have hPm : some P ∈ w.φ := List.mem_of_getElem? hP
    have ext : Ext w H w (upd (upd H P (.tbl (ps ++ more))) c' (LamX.CodeO c' (tabQ x))) := ⟨fun a o h n => by
      rw [upd_ne (L2.ne_of_none h nc), upd_ne (fun z : a = P => n (by rw [z]; exact hPm))]; exact h, Nat.le_refl _, fun _ _ h _ => h, fun _ h => .inl h, rfl⟩
    have ofc : w.Off c' := s.new nc
    have atc : upd (upd H P (.tbl (ps ++ more))) c' (LamX.CodeO c' (tabQ x)) c' = some (LamX.CodeO c' (tabQ x)) := upd_same
    refine ⟨ext, s.len, s.nd, fun a ha => ⟨upd_some (upd_some (s.ap a ha).1), (s.ap a ha).2⟩, fun n cc hc => ?_⟩
    by_cases hn : n = j
    · subst hn
      rw [hj] at hc; cases hc
      obtain ⟨c0, P0, t0, t1, t2⟩ := s.cell n _ hj
      rw [hP] at t1; cases t1
      refine ⟨c0, P, t0, hP, ps ++ more, by rw [upd_ne (fun z => np z.symm), upd_same], tri, fun pos cv hcv => ?_⟩
      rcases am pos cv hcv with z | z
      · obtain ⟨ps', e1, e2, e3⟩ := t2
        rw [e] at e1; cases e1
        obtain ⟨d, d1, d2, d3⟩ := e3 pos cv z
        exact ⟨d, d1, ext.fr _ _ d2 d3.1, d3⟩
      · exact ⟨c', z, atc, ofc⟩
    · refine CellR.ext ext (fun a ha => ⟨ha, ?_⟩) id (s.cell n cc hc)
      have h1 : a ≠ c' := fun z => ofc.1 (z ▸ List.mem_of_getElem? ha)
      have h2 : a ≠ P := fun z => hn (s.nd n j a ha (z ▸ hP))
      rw [upd_ne h1, upd_ne h2]
end
open Classical in
noncomputable def gOrder (j : Nat) (x : Str) (n d : D) (S : Store) : RE D := match n with
  | .int m => (match seqA S d with
    | some ys => (match pySL S ys with
      | some ps => if m = (ys.length : Int) ∧ m ≤ 16777216 ∧ S[j]? = some (.tab x) ∧ PySem.W.AllAlike ps ∧ PySem.W.Sortable ps ∧ PyData.depthAll ps ≤ 190 ∧ True then .ok (.lst (sortB ((List.range ps.length).map fun (i : Nat) => D.int (i : Int)) ps)) S else .no
      | none => .no)
    | none => .no)
  | _ => .no
noncomputable def fOrder (j : Nat) (x : Str) (fe : FE) (i : Nat) : FE := fun ρ S => (fe ρ S).bnd fun n S1 => match ρ[i]? with
  | some (some d) => gOrder j x n d S1
  | _ => .no
/-- the def x's table and code -/
def TbF (K : PySem.W.Frag) (mg : Str → Option Value) (base : Heap) (x : Str) (cd : Value) : Prop := ∃ c P, PySem.W.tabIn K x = some (c, P) ∧ LamX.TabB base mg c P ∧ cd = .ref c
theorem q_order {X : Cx} {W : WX} {e : Expr} {fe : FE} {i j : Nat} {x : Str} {p p' pos pos' lp kp ap b1 b2 b3 : Pos} (hc : X.calm = true) (hu : X.A.units + 200 < cLine) (hdep : X.A.depth < recursionLimit) (hg : Gl X "sorted") (hm : X.mg "sorted" = none) (hg' : Gl X "range") (hm' : X.mg "range" = none) (he : PE X e (tF X W fe))
    (hN : X.N[i]? = some (Str.ofString "things")) (hcl : X.env.scope.names.lookup (Str.ofString "things") = some NameKind.cell) (hT : TbF X.K X.mg X.base x X.env.code) (hq : X.env.qual ++ "<lambda>" = tabQ x) (na' : starEach [e] X.env = (false, eval e X.env) :: starEach [] X.env := by rfl) 
    (na : starEach [.Call (.Name "range" p') [e] [] pos'] X.env = (false, eval (.Call (.Name "range" p') [e] [] pos') X.env) :: starEach [] X.env := by rfl) (hdef : defaultsOf (oPar ap) X.env = ([], []) := by rfl) :
    PE X (.Call (.Name "sorted" p) [.Call (.Name "range" p') [e] [] pos'] [⟨some "key", .Lambda (oPar ap) (oBody b1 b2 b3) oSc lp, kp⟩] pos) (tF X W (fOrder j x fe i)) := by
  refine ⟨fun pins s σ H Q I h => ?_⟩
  obtain ⟨w, ρ, S, s0, en, h⟩ := h
  obtain ⟨c, P, hti, TB, hcode⟩ := hT
  have hs : bootBuiltins (Str.ofString "sorted") = some (.builtin "sorted") := by decide +kernel
  refine wpAny_Call_Name_kw (ld_blt I hg hm hs ?_)
  have h1 : tF X W fe σ H (fun v H1 => ∃ w1 S1 n, Ext w H w1 H1 ∧ Sto X.K X.mg w1 S1 H1 ∧ Rp X.K X.mg w1 H1 n v ∧ End X.K X.mg (fun w H => Rp X.K X.mg w H) w1 H1 (match ρ[i]? with
      | some (some d) => gOrder j x n d S1
      | _ => .no) Q (fun c od H' => W c od σ H')) := ⟨w, ρ, S, s0, en, (End.bind (R := fun w H => Rp X.K X.mg w H) h).imp (fun v H1 ⟨w1, S1, n, e1, s1, r1, h1⟩ => ⟨w1, S1, n, e1, s1, r1, h1⟩) (fun _ _ _ z => z)⟩
  refine callWith_kw (args_cons (Call_ (ld_blt I hg' hm' boot_range (PyProof.Rows.callWith_type1 (one_arg he I h1 (fun v s2 y H2 I2 r q => ?_) na') na'))) na) (by rw [na]; rfl) (by rw [na]; rfl) (by rfl) (by rfl)
  obtain ⟨w1, S1, n, e1, s1, r1, h2⟩ := q
  split at h2
  case h_2 => exact h2.elim
  rename_i d hd
  unfold gOrder at h2
  split at h2
  case h_2 => exact h2.elim
  rename_i m
  split at h2
  case h_2 => exact h2.elim
  rename_i ys hys
  split at h2
  case h_2 => exact h2.elim
  rename_i ps hps
  split at h2
  case isFalse => exact h2.elim
  rename_i hk
  obtain ⟨hk1, hk2, hk3, hk4, hk5, hk6, hk7⟩ := hk
  have ey := rp_int r1
  subst ey
  obtain ⟨t, rfl⟩ := r
  refine call_range_1 ?_
  have nR : H2 s2.heap.objs.size = none := I2.hok.fresh (Nat.le_refl _)
  have I3 := I2.laid (t' := s2.toks + 1 + 1) (h' := s2.heap.push { cls := .type "range", data := .fields #[.int 0 s2.toks, .int m t, .int 1 (s2.toks + 1)] }) (a := s2.heap.objs.size) (o := .rng 0 m) (fun b u z => Heap.get?_push_of_some _ z) (Nat.le_refl _) ⟨_, _, _, Heap.get?_push_size _ rfl⟩
  have x3 : Ext w1 H2 w1 (upd H2 s2.heap.objs.size (.rng 0 m)) := Ext.new nR
  have s3 := s1.beside (o := .rng 0 m) nR
  obtain ⟨c0, P0, t0, hφ, tw⟩ := s3.cell j _ hk3
  rw [hti] at t0; cases t0
  obtain ⟨tps, tp1, tp2, tp3⟩ := tw
  refine args_nil ?_
  refine kws_cons ?_
  refine lam_mk (c := c) (P := P) I3 TB hcode hq tp1 tp2 (fun pos cv z => by
    obtain ⟨c1, z1, z2, _⟩ := tp3 pos cv z
    exact ⟨c1, z1, z2⟩) hdef (fun y hy hfr => ?_) ?_
  · have ey : y = (Str.ofString "things", NameKind.free) := by
      simp only [oSc, List.mem_cons, List.not_mem_nil, or_false] at hy
      rcases hy with rfl | rfl
      · cases hfr
      · rfl
    rw [ey]
    exact I3.ok.has _ (.inl hcl)
  intro f c' pm ctv H4 s4 I4 lm f0 ffr hf _
  obtain ⟨x4, s4'⟩ := lam_sto s3 hk3 hφ tp1 lm
  refine kws_nil ?_
  show wpAny _ _ (call (.builtin "sorted") [.ref _] [(Str.ofString "key", .ref f)]) _ _ _
  have nRoff : ¬ some s2.heap.objs.size ∈ w1.φ := (s1.new nR).1
  have hR4 : H4 s2.heap.objs.size = some (.rng 0 m) := x4.fr _ _ upd_same nRoff
  obtain ⟨rt, ru, rv, hrng⟩ := I4.hok _ _ hR4
  have hlen : ps.length = ys.length := (pySL_length hps).symm
  obtain ⟨v, hσ, rd⟩ := en.at_ i d hd
  have x04 : Ext w H w1 H4 := (e1.trans x3).trans x4
  have rd4 := Rp.ext x04 _ _ rd
  obtain ⟨a, xs, rfl, hsq, rl⟩ := seqA_at s4' rd4 hys
  have dp := pySL_at s4' ys xs ps rl hps
  have hrd : ∃ its : List Value, Vals xs its ∧ (s4.heap.IsList a its.toArray ∨ IsTup s4.heap a its.toArray) := by
    rcases hsq with z | z
    · obtain ⟨its, rvs, hl, hz⟩ := I4.list z
      exact ⟨its, rvs, .inl hl.isList⟩
    · obtain ⟨its, rvs, hl, hz⟩ := I4.tuple z
      exact ⟨its, rvs, .inr hl⟩
  obtain ⟨its, rvs, hl⟩ := hrd
  obtain ⟨as, ra⟩ := Dp.readsAll I4 ps xs its dp rvs
  obtain ⟨mm, hns, hlo⟩ := I4.loc
  obtain ⟨u, ru', hlk⟩ := hlo i _ _ hN hσ (.inr (.inl hcl))
  cases ru'
  have hcell : ∃ cc, X.env.cells.lookup (Str.ofString "things") = some cc ∧ s4.heap.IsCell cc (some (.ref a)) := by
    rcases hlk with ⟨k', _⟩ | ⟨_, cc, h1, h2⟩
    · have k2 : X.env.scope.names.lookup (Str.ofString "things") = some .local := k'
      rw [hcl] at k2; cases k2
    · exact ⟨cc, h1, h2⟩
  obtain ⟨cc, hcc, hic⟩ := hcell
  have hclo : cloFrom X.env.cells oSc.names [] = [(Str.ofString "things", cc)] := by
    show cloFrom X.env.cells [(Str.ofString "place", NameKind.local), (Str.ofString "things", NameKind.free)] [] = _
    unfold cloFrom
    rw [if_neg (by decide)]
    unfold cloFrom
    rw [if_pos (by decide)]
    unfold cloFrom
    rw [hcc]; rfl
  rw [hclo] at hf
  have hco : H4 c' = some (LamX.CodeO c' (tabQ x)) := by
    rcases lm with ⟨rfl, z⟩ | ⟨_, _, _, rfl, _, _⟩
    · exact z
    · exact upd_same
  obtain ⟨⟨oc, cvs, ct, k1, k2, k3⟩, _, _⟩ := I4.hok _ _ hco
  refine sorted_rangeK (kz := ps) (n := m) (f := .ref f) (b := false) (I4.ok.hd hc) hrng (by omega) hk2 (by omega) hk4 hk5 (fun q hq => ?_) (ksk_s1 _ _) (fun _ => ksk_l1 _ _) (fun _ => ksk_t1 _ _) (fun k tk0 q hkq g tk kp => ?_) fun out n' g tk Da kp nD gD hol hv => ?_
  · have := depth_mem hq
    omega
  · obtain ⟨uv, bs, hu1, hu2⟩ := readsAll_get ra hkq
    have hkl : k < ps.length := by
      rcases Nat.lt_or_ge k ps.length with l | l
      · exact l
      · rw [List.getElem?_eq_none l] at hkq; cases hkq
    obtain ⟨oc2, hc1, hc2⟩ := hic
    have hl' : g.IsList a its.toArray ∨ IsTup g a its.toArray := by
      rcases hl with ⟨ol, hl1, hl2⟩ | ⟨ol, hl1, hl2⟩
      · exact .inl ⟨ol, kp _ _ hl1, hl2⟩
      · exact .inr ⟨ol, kp _ _ hl1, hl2⟩
    exact order_turn (A := X.A.in1.in1) (s := { s4 with heap := g, toks := tk }) (c := cc) (c' := c') (a := a) (its := its.toArray) (u := uv) hdep (kp _ _ hf) ⟨c', oc, cvs, ct, rfl, kp _ _ k1, k2, k3⟩ ⟨oc2, kp _ _ hc1, hc2⟩ hl' (by simpa using hu1) (by omega) (I4.nolimit.keeps kp) (PyProof.Rows.Reads.keeps kp hu2) (reads_old hu2)
  · have nD4 : H4 Da = none := I4.hok.gone nD
    have hsz : (sortB ((List.range ps.length).map fun (i : Nat) => V.int (i : Int)) ps).length ≤ sizeLine := by
      rw [sortB_length (by simp), sizeLine_eq]; simp; omega
    refine ⟨.ref Da, upd H4 Da (.lst (sortB ((List.range ps.length).map fun (i : Nat) => V.int (i : Int)) ps)), I4.laidN (t' := tk) kp nD nD4 ⟨hsz, out, n', hv, gD⟩, rfl, ?_⟩
    have ri : RpL X.K X.mg w1 H4 ((List.range ps.length).map fun (i : Nat) => Kw.D.int (i : Int)) ((List.range ps.length).map fun (i : Nat) => V.int (i : Int)) := by
      have := RpL.ints (K := X.K) (mg := X.mg) (w := w1) (H := H4) ((List.range ps.length).map fun (i : Nat) => (i : Int))
      rw [List.map_map, List.map_map] at this
      exact this
    exact newLst s4' (ri.sort (by simp)) nD4 (End.on (x3.trans x4) h2)
section
variable {P : Program} {w : World} {K : PySem.W.Frag} {mg : Str → Option Value} {base : Heap}
/-- what the top knows of the def x's table -/
def TbK (K : PySem.W.Frag) (mg : Str → Option Value) (base : Heap) (x : Str) : Prop := ∃ c P, PySem.W.tabIn K x = some (c, P) ∧ LamX.TabB base mg c P
theorem fn_okL {x : Str} {st : Stmt} {f : Addr} {fd : FuncData} {N ps : List Str} {k : Nat} {b : FS} (F : Fun K x x st f fd) (S : FnScope N ps (defScope st)) (hm : mg x = some (.ref f)) (Kb : K.In base) (Gb : base.Ns mainGlobals mg) (B : TbK K mg base x)
    (hb : ∀ (cdv : Value) (A : Around) (outer : List Env) (s : Shared) (H : Hp) (E : XK), TbF K mg base x cdv → RoomG k (A.deeper (envOfC x (defScope st) s.heap.objs.size f cdv)) →
      PSs (cxOf (L2.CX P w) P w K mg base N x (defScope st) f cdv A outer s H E) (defBody st) (tS (cxOf (L2.CX P w) P w K mg base N x (defScope st) f cdv A outer s H E) (fun c d _ H => E c d H) b)) :
    FnG P w K mg base (k + 1) f fd ps (spF K mg ps.length (fnB ps.length N.length b)) := by
  obtain ⟨oc, od, kV, doc, pm, an, cdv, ct, osl, rfl, lk, hcd⟩ := F.ex
  obtain ⟨c, Pt, ht, tb⟩ := B
  have ec : cdv = .ref c := PySem.W.law_code Kb Gb ht hm (Kb _ _ lk) rfl
  have TB : TbF K mg base x cdv := ⟨c, Pt, ht, tb, ec⟩
  refine ⟨fun vs H Q E ⟨w, st, ds, s, r, l, h⟩ => by rw [← r.length]; exact l, fun A stk s H ar us vs Q E hr e0 hbd hv hsp => ?_⟩
  obtain ⟨w1, S1, ds, s1, r1, l, hE⟩ := hsp
  have size : vs.length = ps.length := by rw [← r1.length]; exact l
  have up : ∀ b o, base.get? b = some o → s.heap.get? b = some o := fun b o z => (e0.bs b o z).1
  have KX : K.In s.heap := e0.mod.kin.keeps up
  refine codeAny_call_function hr.rm.depth (KX _ _ lk) rfl S.co S.gen rfl (PySem.W.codeRec_of KX hcd) (hbd _ _ _ _ (wpAny_newFunctionEnv_cells S.kind (fun ⟨n, v⟩ hn => ?par) fun env he s2 xc => ?run))
  case par =>
    rcases S.par n (List.of_mem_zip hn).1 with q | q
    · exact .inl q
    · exact .inr ⟨q, PySem.W.cellsFrom_some _ _ _ (.inl q)⟩
  case run =>
    subst he
    have hp := hb cdv A stk s H E TB (hr.down _)
    have I0 := inv_start (CX := L2.CX P w) (E := E) S hr.rm.hd e0 size hv xc
    have hq : tS (cxOf (L2.CX P w) P w K mg base N x (defScope st) f cdv A stk s H E) (fun c d _ H => E c d H) b { nx := fun _ H' => Q .non H', rt := Q } (L2.start N vs) H := by
      refine ⟨w1, _, S1, s1, envStart (N := N) r1, ?_⟩
      unfold fnB at hE
      rw [if_pos l] at hE
      rw [l]
      revert hE
      cases hbb : b (ds.map some ++ List.replicate (N.length - ps.length) none) S1 with
      | nx ρ S2 => exact fun h w' H' σ' e s' en => h w' H' _ e s' rp_n
      | rt d S2 => exact fun h w' H' v e s' r' => h w' H' v e s' r'
      | ex x ρ S2 => exact fun h w' H' σ' c od e s' en ex => h w' H' c od e s' ex
      | bk ρ S2 => exact fun h => h.elim
      | ct ρ S2 => exact fun h => h.elim
      | no => exact fun h => h.elim
    refine ⟨(e0.mod.nolimit.keeps up).keeps xc.toInCall.keep, codeAny_func (wpAny_mono (hp.run [] s2 (L2.start N vs) H _ I0 hq) (fun fl s' hs => ?_) fun e s' hs => hs)⟩
    match fl, hs with
    | .ret u, ⟨v, σ', H', J, rv, q⟩ => exact ⟨v, H', J.os, J.bare, J.base, J.hok, rv, q⟩
    | .next, ⟨σ', H', J, q⟩ => exact ⟨.non, H', J.os, J.bare, J.base, J.hok, rfl, q⟩
    | .brk, ⟨_, _, _, q⟩ => exact q.elim
    | .cont, ⟨_, _, _, q⟩ => exact q.elim
theorem calLB {x : Str} {st : Stmt} {N ps : List Str} {k : Nat} {b : FS} (T : TF K mg x st ps) (S : FnScope N ps (defScope st)) (Kb : K.In base) (Gb : base.Ns mainGlobals mg) (B : TbK K mg base x)
    (hb : ∀ (f : Addr) (cdv : Value) (A : Around) (outer : List Env) (s : Shared) (H : Hp) (E : XK), TbF K mg base x cdv → RoomG k (A.deeper (envOfC x (defScope st) s.heap.objs.size f cdv)) →
      PSs (cxOf (L2.CX P w) P w K mg base N x (defScope st) f cdv A outer s H E) (defBody st) (tS (cxOf (L2.CX P w) P w K mg base N x (defScope st) f cdv A outer s H E) (fun c d _ H => E c d H) b)) (hps : ps = (defArgs st).args.map (·.arg) := by rfl) :
    Cal P w K mg base (k + 1) x (fnB ps.length N.length b) := by
  obtain ⟨f, fd, F, m, bd⟩ := T
  exact ⟨f, fd, ps, fn_okL F S m Kb Gb B (hb f), m, F.kp, bd, fnB_ar, hps.trans (fun_names F).symm, fun_look F⟩
/-- from the top's tables -/
theorem tbK_of {cs : List Tb} {c Pt : Addr} {x : Str} (h : ∀ p ∈ cs, LamX.TabB base mg p.1 p.2.1) (ht : PySem.W.tabIn K x = some (c, Pt)) (hm : (c, Pt, x) ∈ cs) : TbK K mg base x := ⟨c, Pt, ht, h _ hm⟩
/-- the law's def, which makes lambdas, as the end wants it -/
theorem law_mkL {h : Heap} {k : Nat} {fa f : Addr} {x nm : Str} {st : Stmt} {N : List Str} {b : FS} {cs : List Tb} {oc : Value} {od an : Option Addr} {osl : Array (Option Value)} {kV doc pm cdv ct : Value} (X : K.In h) (G : h.Ns mainGlobals mg) (hfa : mg nm = some (.ref fa))
    (tk : TopOk K mg cs h) (tn : ∃ c Pt, PySem.W.tabIn K nm = some (c, Pt) ∧ (c, Pt, nm) ∈ cs) (a : PySem.W.nsIn K mainGlobals nm = some (some (.ref f))) (l : K.lookup f = some ⟨oc, od, .func (PySem.W.fnOf nm nm (defArgs st) (defBody st) (defScope st) .none kV doc pm an cdv ct), osl⟩) (c : PySem.W.codeIn K cdv nm = true) (kk : PySem.W.keepIn K (.ref f) = true)
    (hb : ∀ (kV doc pm : Value) (an : Option Addr) (cdv ct : Value) (us : List Value), us.length = 1 → bindArgs (PySem.W.fnOf nm nm (defArgs st) (defBody st) (defScope st) .none kV doc pm an cdv ct) ⟨us, []⟩ = pure ([x].zip us)) (S : FnScope N [x] (defScope st))
    (body : ∀ base : Heap, K.In base → base.Ns mainGlobals mg → (∀ p ∈ cs, LamX.TabB base mg p.1 p.2.1) → ∀ (f : Addr) (cdv : Value) (A : Around) (outer : List Env) (s : Shared) (H : Hp) (E : XK), TbF K mg base nm cdv → RoomG k (A.deeper (envOfC nm (defScope st) s.heap.objs.size f cdv)) →
      PSs (cxOf (L2.CX P w) P w K mg base N nm (defScope st) f cdv A outer s H E) (defBody st) (tS (cxOf (L2.CX P w) P w K mg base N nm (defScope st) f cdv A outer s H E) (fun c d _ H => E c d H) b))
    (hF : ∀ ns : List Int, ns.length ≤ 63 → (∀ z ∈ ns, Builtin.Int.intBits z ≤ 1048576) → ∃ S', fnB 1 N.length b [.fls (ns.map .int)] (topS0 cs) = .ok (.bl true) S') :
    ∃ (cs : List Tb) (fd : FuncData), TopOk K mg cs h ∧ (∀ (s : Shared) (u : Value), BindsTo s fd ⟨[u], []⟩ [(x, u)]) ∧ ∀ base : Heap, K.In base → base.Ns mainGlobals mg → (∀ p ∈ cs, LamX.TabB base mg p.1 p.2.1) → FnG P w K mg base (k + 1) fa fd [x] (spTop K cs) := by
  have e := hfa.symm.trans (PySem.W.mg_of X G a)
  cases e
  have F := fun_mk (st := st) l c kk
  refine ⟨cs, _, tk, fun s u => .of_eq (hb kV doc pm an cdv ct [u] rfl), fun base Kb Gb Tb => ?_⟩
  obtain ⟨c1, P1, t1, t2⟩ := tn
  exact (fn_okL F S hfa Kb Gb (tbK_of Tb t1 t2) (body base Kb Gb Tb fa)).weak (top_imp hF)
end
/-- the def x makes lambdas, and its table is not written in the program's heap -/
def tabOk (K : PySem.W.Frag) (x : Str) : Bool := match PySem.W.tabIn K x with
  | some (_, P) => (match K.lookup P with
    | none => true
    | some _ => false)
  | none => false
theorem tabOk_at {K : PySem.W.Frag} {x : Str} (h : tabOk K x = true) : ∃ c P, PySem.W.tabIn K x = some (c, P) ∧ K.lookup P = none := by
  unfold tabOk at h
  split at h
  · rename_i c P e
    refine ⟨c, P, e, ?_⟩
    split at h
    · assumption
    · cases h
  · cases h
def tabsDis (K : PySem.W.Frag) (xs : List Str) : Bool := decide ((xs.filterMap fun x => (PySem.W.tabIn K x).map fun p => p.2).Nodup)
theorem tabsDis_at {K : PySem.W.Frag} {xs : List Str} {ps : List Addr} (h : tabsDis K xs = true) (e : (xs.filterMap fun x => (PySem.W.tabIn K x).map fun p => p.2) = ps) : ps.Nodup := by
  subst e
  unfold tabsDis at h
  simpa using h
end Kw
namespace Kw
open PySem PySem.Spec PySem.Calls PyProof.Rows L2
/-- a, b = a list -/
def gUl (n : Nat) (gs : FGs) : FG := fun d ρ S => match d with
  | .lst ds => if ds.length = n then gs ds ρ S else none
  | _ => none
@[simp] theorem gUl_ap {n : Nat} {gs : FGs} {ds : List D} {ρ : FEnv} {S : Store} : gUl n gs (.lst ds) ρ S = if ds.length = n then gs ds ρ S else none := rfl
end Kw
namespace Kw
open PySem PySem.Spec PySem.Calls PyProof.Rows L2
open Classical in
/-- a result that neither the address nor the slots matter to -/
noncomputable def aInd2 (R : Addr → L2.St → RE D) : RE D := if ∀ f σ, R f σ = R 0 [] then R 0 [] else .no
theorem aInd2_eq {R : Addr → L2.St → RE D} {r : RE D} (h : ∀ f σ, R f σ = r) : aInd2 R = r := by
  unfold aInd2
  rw [if_pos (fun f σ => by rw [h f σ, h 0 []]), h 0 []]
section
variable {K : PySem.W.Frag} {mg : Str → Option Value} {w : Wd} {S : Store} {H : Hp}
theorem ghost_ext : Ext w H ⟨w.φ ++ [none], w.hd⟩ H where
  fr := fun _ _ h _ => h
  ln := by show _ ≤ (w.φ ++ [none]).length; simp
  ph := fun n a h l => by
    have h' : (w.φ ++ [none])[n]? = some (some a) := h
    rw [List.getElem?_append_left l] at h'
    exact h'
  nw := fun a h => by
    rcases List.mem_append.mp (show some a ∈ w.φ ++ [none] from h) with z | z
    · exact .inl z
    · simp at z
  hd := rfl
theorem ghost_sto {ρ : FEnv} {σ : L2.St} (s : Sto K mg w S H) (en : EnvR K mg w H ρ σ) : Sto K mg ⟨w.φ ++ [none], w.hd⟩ (S ++ [.gst ρ σ]) H := by
  have at_ : ∀ (n : Nat) a, (w.φ ++ [none])[n]? = some (some a) → w.φ[n]? = some (some a) := fun n a h => by
    rcases Nat.lt_or_ge n w.φ.length with l | l
    · rwa [List.getElem?_append_left l] at h
    · rw [List.getElem?_append_right l] at h
      cases e : n - w.φ.length with
      | zero => rw [e] at h; simp at h
      | succ m => rw [e] at h; simp at h
  refine ⟨by show (w.φ ++ [none]).length = _; simp [s.len], fun m n a h1 h2 => s.nd m n a (at_ m a h1) (at_ n a h2), fun a ha => ⟨(s.ap a ha).1, fun z => ?_⟩, fun n c hc => ?_⟩
  · rcases List.mem_append.mp (show some a ∈ w.φ ++ [none] from z) with z | z
    · exact (s.ap a ha).2 z
    · simp at z
  · rcases Nat.lt_or_ge n S.length with l | l
    · rw [List.getElem?_append_left l] at hc
      have l' : n < w.φ.length := by rw [s.len]; exact l
      exact CellR.ext ghost_ext (fun a ha => ⟨by show (w.φ ++ [none])[n]? = _; rw [List.getElem?_append_left l']; exact ha, rfl⟩) (fun h => by show (w.φ ++ [none])[n]? = _; rw [List.getElem?_append_left l']; exact h) (s.cell n c hc)
    · rw [List.getElem?_append_right l] at hc
      cases e : n - S.length with
      | zero =>
        rw [e] at hc
        have hc' : Cell.gst ρ σ = c := by simpa using hc
        subst hc'
        have en' : n = w.φ.length := by rw [s.len]; omega
        refine ⟨?_, EnvR.ext ghost_ext en⟩
        show (w.φ ++ [none])[n]? = some none
        rw [List.getElem?_append_right (by omega), en', Nat.sub_self]; rfl
      | succ m => rw [e] at hc; simp at hc
end
section
variable {P : Program} {w : World} {K : PySem.W.Frag} {mg : Str → Option Value} {base : Heap}
/-- a def run from one state -/
theorem run_def {x : Str} {st : Stmt} {g : Addr} {fd : FuncData} {N ps : List Str} {k : Nat} {b : FS} (F : Fun K x x st g fd) (S : FnScope N ps (defScope st)) {A : Around} {stk : List Env} {s : Shared} {H : Hp} {ar : Args} {us : List Value} {vs : List V} {Q : VK} {E : XK} (hr : RoomG (k + 1) A) (e0 : Env0 P w K mg base A stk s H) (hbd : BindsTo s fd ar (ps.zip us)) (hv : Vals vs us)
    (hb : ∀ cdv : Value, RoomG k (A.deeper (envOfC x (defScope st) s.heap.objs.size g cdv)) → PSs (cxOf (L2.CX P w) P w K mg base N x (defScope st) g cdv A stk s H E) (defBody st) (tS (cxOf (L2.CX P w) P w K mg base N x (defScope st) g cdv A stk s H E) (fun c d _ H => E c d H) b))
    (hsp : spF K mg ps.length (fnB ps.length N.length b) vs H Q E) : codeAny (model P w) A (.call (.ref g) ar) (CR (L2.CX P w) stk P w H s Q E) s := by
  obtain ⟨oc, od, kV, doc, pm, an, cdv, ct, osl, rfl, lk, hcd⟩ := F.ex
  obtain ⟨w1, S1, ds, s1, r1, l, hE⟩ := hsp
  have size : vs.length = ps.length := by rw [← r1.length]; exact l
  have up : ∀ b o, base.get? b = some o → s.heap.get? b = some o := fun b o z => (e0.bs b o z).1
  have KX : K.In s.heap := e0.mod.kin.keeps up
  refine codeAny_call_function hr.rm.depth (KX _ _ lk) rfl S.co S.gen rfl (PySem.W.codeRec_of KX hcd) (hbd _ _ _ _ (wpAny_newFunctionEnv_cells S.kind (fun ⟨n, v⟩ hn => ?par) fun env he s2 xc => ?run))
  case par =>
    rcases S.par n (List.of_mem_zip hn).1 with q | q
    · exact .inl q
    · exact .inr ⟨q, PySem.W.cellsFrom_some _ _ _ (.inl q)⟩
  case run =>
    subst he
    have hp := hb cdv (hr.down _)
    have I0 := inv_start (CX := L2.CX P w) (E := E) S hr.rm.hd e0 size hv xc
    have hq : tS (cxOf (L2.CX P w) P w K mg base N x (defScope st) g cdv A stk s H E) (fun c d _ H => E c d H) b { nx := fun _ H' => Q .non H', rt := Q } (L2.start N vs) H := by
      refine ⟨w1, _, S1, s1, envStart (N := N) r1, ?_⟩
      unfold fnB at hE
      rw [if_pos l] at hE
      rw [l]
      revert hE
      cases hbb : b (ds.map some ++ List.replicate (N.length - ps.length) none) S1 with
      | nx ρ S2 => exact fun h w' H' σ' e s' en => h w' H' _ e s' rp_n
      | rt d S2 => exact fun h w' H' v e s' r' => h w' H' v e s' r'
      | ex x ρ S2 => exact fun h w' H' σ' c od e s' en ex => h w' H' c od e s' ex
      | bk ρ S2 => exact fun h => h.elim
      | ct ρ S2 => exact fun h => h.elim
      | no => exact fun h => h.elim
    refine ⟨(e0.mod.nolimit.keeps up).keeps xc.toInCall.keep, codeAny_func (wpAny_mono (hp.run [] s2 (L2.start N vs) H _ I0 hq) (fun fl s' hs => ?_) fun e s' hs => hs)⟩
    match fl, hs with
    | .ret u, ⟨v, σ', H', J, rv, q⟩ => exact ⟨v, H', J.os, J.bare, J.base, J.hok, rv, q⟩
    | .next, ⟨σ', H', J, q⟩ => exact ⟨.non, H', J.os, J.bare, J.base, J.hok, rfl, q⟩
    | .brk, ⟨_, _, _, q⟩ => exact q.elim
    | .cont, ⟨_, _, _, q⟩ => exact q.elim
end
section
variable {P : Program} {w : World} {K : PySem.W.Frag} {mg : Str → Option Value} {base : Heap}
theorem cal_no {x : Str} {st : Stmt} {ps : List Str} {k : Nat} (T : TF K mg x st ps) (hps : ps = (defArgs st).args.map (·.arg) := by rfl) : Cal P w K mg base k x (fun _ _ => .no) := by
  obtain ⟨f, fd, F, m, b⟩ := T
  exact ⟨f, fd, ps, ⟨fun vs H Q E ⟨w, S, ds, s, r, l, h⟩ => by rw [← r.length]; exact l, fun A outer s H args us vs Q E _ _ _ _ ⟨w, S, ds, st, r, l, h⟩ => h.elim⟩, m, F.kp, b, fun _ _ _ => rfl, hps.trans (fun_names F).symm, fun_look F⟩
end
abbrev noPar : Arguments := { posonlyargs := [], args := [], vararg := none, kwonlyargs := [], kw_defaults := [], kwarg := none, defaults := [] }
theorem lam_bind0 {q : Str} {body : Expr} {scope : Scope} {cl : List (Str × Addr)} {pm cv ctv : Value} : bindArgs (PySem.W.kla_fn "<lambda>" q noPar body scope cl pm cv ctv) ⟨[], []⟩ = pure [] := rfl
theorem lam_def0 {env : Env} : defaultsOf noPar env = ([], []) := rfl
end Kw
namespace Kw
open PySem PySem.Spec PySem.Calls PyProof.Rows L2
/-- the fields of an object of the class c may be read and stored -/
def FldC (K : PySem.W.Frag) (mg : Str → Option Value) (c f : Str) : Prop := ∃ C, mg c = some (.ref C) ∧ Cls K C ∧ NoAttr K C f
def obOf (S : Store) : D → Option (Str × List Str × List D)
  | .ins c fs ds => some (c, fs, ds)
  | .loc n => (match S[n]? with
    | some (.ob c fs ds) => some (c, fs, ds)
    | _ => none)
  | _ => none
def lookF (f : Str) : List Str → List D → Option D
  | g :: fs, d :: ds => if f = g then some d else lookF f fs ds
  | _, _ => none
def gFld (cs : List Str) (f : Str) (x : D) (S : Store) : RE D := match obOf S x with
  | some (c, fs, ds) => if c ∈ cs then (match lookF f fs ds with
    | some d => .ok d S
    | none => .no) else .no
  | none => .no
section
variable {K : PySem.W.Frag} {mg : Str → Option Value} {w : Wd} {H : Hp} {S : Store}
theorem obOf_at (s : Sto K mg w S H) {d : D} {v : V} {c : Str} {fs : List Str} {ds : List D} (r : Rp K mg w H d v) (h : obOf S d = some (c, fs, ds)) : ∃ a C dx vs, v = .ref a ∧ mg c = some (.ref C) ∧ H a = some (.ins C dx (fs.zip vs)) ∧ fs.length = vs.length ∧ RpL K mg w H ds vs := by
  cases d <;> simp only [obOf] at h <;> try (cases h; done)
  · cases h
    unfold Rp at r
    obtain ⟨a, C, dx, vs, e, m, t, _, l, q⟩ := r
    exact ⟨a, C, dx, vs, e, m, t, l, q⟩
  · rename_i n
    split at h
    · rename_i c' fs' ds' hz
      cases h
      obtain ⟨a, C, dx, vs, h1, h2, h3, h4, h5⟩ := s.cell n _ hz
      unfold Rp at r
      exact ⟨a, C, dx, vs, r.2 a h1, h2, h3, h4, h5⟩
    · cases h
theorem lookF_at {f : Str} : ∀ {fs : List Str} {ds : List D} {vs : List V} {d : D}, fs.length = vs.length → RpL K mg w H ds vs → lookF f fs ds = some d → ∃ v, (fs.zip vs).lookup f = some v ∧ Rp K mg w H d v
  | [], _, _, _, _, _, h => by simp [lookF] at h
  | g :: fs, [], _, _, _, _, h => by simp [lookF] at h
  | g :: fs, d :: ds, vs, e, l, r, h => by
    unfold RpL at r
    obtain ⟨v, us, e1, r1, r2⟩ := r
    subst e1
    simp only [lookF] at h
    rw [List.zip_cons_cons]
    by_cases hf : f = g
    · rw [if_pos hf] at h
      cases h
      have hb : (f == g) = true := beq_iff_eq.mpr hf
      exact ⟨v, by simp only [List.lookup, hb], r1⟩
    · rw [if_neg hf] at h
      have hb : (f == g) = false := beq_eq_false_iff_ne.mpr hf
      obtain ⟨u, h1, h2⟩ := lookF_at (by simpa using l) r2 h
      exact ⟨u, by simp only [List.lookup, hb]; exact h1, h2⟩
theorem lookup_none {f : Str} : ∀ {fs : List Str} {vs : List V}, f ∉ fs → (fs.zip vs).lookup f = none
  | [], _, _ => rfl
  | g :: fs, [], _ => rfl
  | g :: fs, v :: vs, h => by
    rw [List.zip_cons_cons]
    have hf : f ≠ g := fun z => h (by rw [z]; exact List.mem_cons_self)
    have hb : (f == g) = false := beq_eq_false_iff_ne.mpr hf
    simp only [List.lookup, hb]
    exact lookup_none fun z => h (List.mem_cons_of_mem _ z)
theorem putF_new {f : Str} {y : V} : ∀ {fs : List Str} {vs : List V}, fs.length = vs.length → f ∉ fs → putF f y (fs.zip vs) = (fs ++ [f]).zip (vs ++ [y])
  | [], [], _, _ => rfl
  | g :: fs, v :: vs, l, h => by
    have hf : ¬ g = f := fun z => h (by rw [z]; exact List.mem_cons_self)
    rw [List.zip_cons_cons, List.cons_append, List.cons_append, List.zip_cons_cons, putF, if_neg hf, putF_new (by simpa using l) fun z => h (List.mem_cons_of_mem _ z)]
/-- an object under way is written -/
theorem Sto.obSet {n : Nat} {l C dx : Addr} {c : Str} {fs : List Str} {ds : List D} {vs : List V} {o : HO} (s : Sto K mg w S H) (hw : w.φ[n]? = some (some l)) (hn : n < S.length) (hm : mg c = some (.ref C)) (ho : o = .ins C dx (fs.zip vs)) (hl : fs.length = vs.length) (r : RpL K mg w H ds vs) : Sto K mg w (S.set n (.ob c fs ds)) (upd H l o) := by
  have ex : Ext w H w (upd H l o) := Ext.write hw
  refine ⟨by rw [List.length_set]; exact s.len, s.nd, fun a ha => ⟨upd_some (s.ap a ha).1, (s.ap a ha).2⟩, fun m c' hc => ?_⟩
  by_cases e : m = n
  · subst e
    rw [List.getElem?_set_self hn] at hc
    cases hc
    exact ⟨l, C, dx, vs, hw, hm, by rw [upd_same, ho], hl, RpL.ext ex _ _ r⟩
  · rw [List.getElem?_set_ne (Ne.symm e)] at hc
    refine CellR.ext ex (fun a ha => ⟨ha, ?_⟩) id (s.cell m c' hc)
    exact upd_ne fun z => e (s.nd m n a ha (z ▸ hw))
/-- a new object -/
theorem Sto.obNew {p C dx : Addr} {c : Str} (s : Sto K mg w S H) (np : H p = none) (hm : mg c = some (.ref C)) : Sto K mg ⟨w.φ ++ [some p], w.hd⟩ (S ++ [.ob c [] []]) (upd H p (.ins C dx [])) := by
  have ex : Ext w H ⟨w.φ ++ [some p], w.hd⟩ (upd H p (.ins C dx [])) := Ext.cell np
  refine ⟨by show (w.φ ++ [some p]).length = _; rw [List.length_append, List.length_append, s.len]; rfl, fun m n a h1 h2 => ?_, fun a ha => ⟨upd_some (s.ap a ha).1, fun z => ?_⟩, fun n c hc => ?_⟩
  · have key : ∀ k, (w.φ ++ [some p])[k]? = some (some a) → (w.φ[k]? = some (some a) ∧ k < w.φ.length) ∨ (k = w.φ.length ∧ a = p) := fun k hk => by
      by_cases hl : k < w.φ.length
      · rw [List.getElem?_append_left hl] at hk; exact .inl ⟨hk, hl⟩
      · have hl' : w.φ.length ≤ k := Nat.le_of_not_lt hl
        rw [List.getElem?_append_right hl'] at hk
        have : k - w.φ.length = 0 := by
          cases e : k - w.φ.length with
          | zero => rfl
          | succ j => rw [e] at hk; simp at hk
        rw [this] at hk; simp at hk
        exact .inr ⟨by omega, hk.symm⟩
    rcases key m h1 with ⟨a1, b1⟩ | ⟨a1, b1⟩ <;> rcases key n h2 with ⟨a2, b2⟩ | ⟨a2, b2⟩
    · exact s.nd m n a a1 a2
    · subst b2; exact absurd (List.mem_of_getElem? a1) (s.new np).1
    · subst b1; exact absurd (List.mem_of_getElem? a2) (s.new np).1
    · omega
  · rcases List.mem_append.mp (show some a ∈ w.φ ++ [some p] from z) with h | h
    · exact (s.ap a ha).2 h
    · simp at h; subst h; exact (s.ap a ha).1 np
  · by_cases hl : n < S.length
    · rw [List.getElem?_append_left hl] at hc
      refine CellR.ext ex (fun a ha => ⟨by show (w.φ ++ [some p])[n]? = _; rw [List.getElem?_append_left (s.len ▸ hl)]; exact ha, ?_⟩) (fun hd => by show (w.φ ++ [some p])[n]? = _; rw [List.getElem?_append_left (s.len ▸ hl)]; exact hd) (s.cell n c hc)
      have : a ≠ p := fun z => by subst z; exact (s.new np).1 (List.mem_of_getElem? ha)
      rw [upd_ne this]
    · have hl' : S.length ≤ n := Nat.le_of_not_lt hl
      rw [List.getElem?_append_right hl'] at hc
      have e0 : n - S.length = 0 := by
        cases e : n - S.length with
        | zero => rfl
        | succ j => rw [e] at hc; simp at hc
      rw [e0] at hc; simp at hc; subst hc
      have en : n = w.φ.length := by rw [s.len]; omega
      subst en
      exact ⟨p, C, dx, [], by show (w.φ ++ [some p])[w.φ.length]? = _; rw [List.getElem?_append_right (Nat.le_refl _), Nat.sub_self]; rfl, hm, upd_same, rfl, RpL.nil⟩
/-- an object that is done is a value -/
theorem oz_at {n : Nat} {a : Addr} {c : Str} {fs : List Str} {ds : List D} {Q : VK} {E : Value → Option Addr → Hp → Prop} (s : Sto K mg w S H) (hz : S[n]? = some (.ob c fs ds)) (ha : w.φ[n]? = some (some a)) (h : End K mg (fun w H => Rp K mg w H) w H (.ok (.ins c fs ds) (S.set n .dead)) Q E) : Q (.ref a) H := by
  obtain ⟨a', C, dx, vs, h1, hm, h2, hl, h3⟩ := s.cell n _ hz
  rw [ha] at h1; cases h1
  have hn : n < w.φ.length := by
    rcases Nat.lt_or_ge n w.φ.length with z | z
    · exact z
    · rw [List.getElem?_eq_none z] at ha; cases ha
  have gs : (w.φ.set n none)[n]? = some none := by rw [List.getElem?_set_self hn]
  have gn : ∀ m : Nat, m ≠ n → (w.φ.set n none)[m]? = w.φ[m]? := fun m hm => List.getElem?_set_ne (Ne.symm hm)
  have sub : ∀ (m : Nat) b, (w.φ.set n none)[m]? = some (some b) → w.φ[m]? = some (some b) ∧ m ≠ n := fun m b q => by
    by_cases e : m = n
    · subst e; rw [gs] at q; cases q
    · rw [gn m e] at q; exact ⟨q, e⟩
  have mem : ∀ b, some b ∈ w.φ.set n none → some b ∈ w.φ := fun b q => by
    obtain ⟨m, hm⟩ := List.mem_iff_getElem?.mp q
    exact List.mem_of_getElem? (sub m b hm).1
  have out : some a ∉ w.φ.set n none := fun q => by
    obtain ⟨m, hm⟩ := List.mem_iff_getElem?.mp q
    obtain ⟨q1, q2⟩ := sub m a hm
    exact q2 (s.nd m n a q1 ha)
  have ex : Ext w H ⟨w.φ.set n none, w.hd⟩ H := ⟨fun _ _ h _ => h, by show _ ≤ (w.φ.set n none).length; rw [List.length_set]; exact Nat.le_refl _, fun m b q _ => (sub m b q).1, fun b q => .inl (mem b q), rfl⟩
  have s' : Sto K mg ⟨w.φ.set n none, w.hd⟩ (S.set n .dead) H := by
    refine ⟨by show (w.φ.set n none).length = _; rw [List.length_set, List.length_set]; exact s.len, fun m k b q1 q2 => s.nd m k b (sub m b q1).1 (sub k b q2).1, fun b hb => ⟨(s.ap b hb).1, fun z => (s.ap b hb).2 (mem b z)⟩, fun m c hc => ?_⟩
    by_cases e : m = n
    · subst e
      rw [List.getElem?_set_self (s.len ▸ hn)] at hc
      cases hc
      exact gs
    · rw [List.getElem?_set_ne (Ne.symm e)] at hc
      exact CellR.ext ex (fun b hb => ⟨by show (w.φ.set n none)[m]? = _; rw [gn m e]; exact hb, rfl⟩) (fun hb => by show (w.φ.set n none)[m]? = _; rw [gn m e]; exact hb) (s.cell m c hc)
  refine h ⟨w.φ.set n none, w.hd⟩ H (.ref a) ex s' ?_
  show Rp _ _ _ _ _ _
  unfold Rp
  exact ⟨a, C, dx, vs, rfl, hm, h2, ⟨out, fun z => (s.ap a z).2 (List.mem_of_getElem? ha)⟩, hl, RpL.ext ex _ _ h3⟩
end
/-- self.f = e -/
def sFl (cs : List Str) (f : Str) (fo fv : FE) : FS := fun ρ S => (fv ρ S).toS ρ fun y S1 => (fo ρ S1).toS ρ fun x S2 => match x with
  | .loc n => (match S2[n]? with
    | some (.ob c fs ds) => if c ∈ cs ∧ f ∉ fs ∧ fs.length < 999 then .nx ρ (S2.set n (.ob c (fs ++ [f]) (ds ++ [y]))) else .no
    | _ => .no)
  | _ => .no
/-- the class c's method m computes f -/
def CalM (P : Program) (w : World) (K : PySem.W.Frag) (mg : Str → Option Value) (base : Heap) (k : Nat) (c m : Str) (f : FF) : Prop :=
  ∃ C a fd ps, mg c = some (.ref C) ∧ Cls K C ∧ Meth K C m a ∧ FnG P w K mg base k a fd ps (spF K mg ps.length f) ∧ Binds K fd ps [] ∧ ∀ ds S, ds.length ≠ ps.length → f ds S = .no
/-- the class c can be made -/
def MkC (K : PySem.W.Frag) (mg : Str → Option Value) (c : Str) : Prop := ∃ C a, mg c = some (.ref C) ∧ Mk K C a
def DispOk (P : Program) (w : World) (K : PySem.W.Frag) (mg : Str → Option Value) (base : Heap) (k : Nat) (m : Str) (L : List (Str × FF)) : Prop := ∀ c F, L.lookup c = some F → CalM P w K mg base k c m F
theorem dm_nil {P : Program} {w : World} {K : PySem.W.Frag} {mg : Str → Option Value} {base : Heap} {k : Nat} {m : Str} : DispOk P w K mg base k m [] := fun c F h => by simp at h
theorem dm_cons {P : Program} {w : World} {K : PySem.W.Frag} {mg : Str → Option Value} {base : Heap} {k : Nat} {c m : Str} {F : FF} {L : List (Str × FF)} (h : CalM P w K mg base k c m F) (t : DispOk P w K mg base k m L) : DispOk P w K mg base k m ((c, F) :: L) := fun c' F' e => by
  rw [List.lookup_cons] at e
  by_cases q : c' = c
  · subst q
    simp at e
    subst e; exact h
  · have hb : (c' == c) = false := beq_eq_false_iff_ne.mpr q
    rw [hb] at e
    exact t c' F' e
/-- o.m(..) -/
def disR (L : List (Str × FF)) (m : Str) (x : D) : Option FF := match x with
  | .ins c fs _ => if m ∈ fs then none else L.lookup c
  | _ => none
def fMe (L : List (Str × FF)) (m : Str) (fo : FE) (fa : FA) : FE := fun ρ S => (fo ρ S).bnd fun x S1 => match disR L m x with
  | some F => (fa ρ S1).bnd fun as S2 => F (x :: as) S2
  | none => .no
/-- C(..) -/
noncomputable def mkR (c : Str) (F : FF) (ds : List D) (S1 : Store) : RE D := cutR S1 ((F (.loc S1.length :: ds) (S1 ++ [.ob c [] []])).bnd fun r S2 => match r with
  | .non => (match S2[S1.length]? with
    | some (.ob c' fs' ds') => .ok (.ins c' fs' ds') (S2.set S1.length .dead)
    | _ => .no)
  | _ => .no)
noncomputable def fMk (c : Str) (F : FF) (fs : FA) : FE := fun ρ S => (fs ρ S).bnd (mkR c F)
section
variable {X : Cx} {W : WX} {e o value : Expr} {es : List Expr} {f m x : Str} {fe fo fv : FE} {fs : FA} {cs : List Str} {pos pos' p apos : Pos} {k : Nat}
theorem q_fld (he : PE X e (tF X W fe)) (hc : ∀ c ∈ cs, FldC X.K X.mg c f) (hb : attributeBase e f X.env (eval e X.env) = eval e X.env := by rfl) : PE X (.Attribute e f pos) (tF X W (f1 (gFld cs f) fe)) :=
  PE.wk (pe_fld he hb) fun σ H Q ⟨w, ρ, S, s, en, h⟩ => by
    refine ⟨w, ρ, S, s, en, (End.bind (R := fun w H => Rp X.K X.mg w H) h).imp ?_ (fun _ _ _ z => z)⟩
    rintro v H1 ⟨w1, S1, d, e1, s1, r1, h1⟩
    unfold gFld at h1
    split at h1
    case h_2 => exact h1.elim
    rename_i c fs' ds' ho
    split at h1
    case isFalse => exact h1.elim
    rename_i hcc
    split at h1
    case h_2 => exact h1.elim
    rename_i d' hl
    obtain ⟨a, C, dx, vs, ev, hm, ha, l, q⟩ := obOf_at s1 r1 ho
    obtain ⟨C', hm', cl, na⟩ := hc c hcc
    rw [hm] at hm'; cases hm'
    obtain ⟨u, hu, ru⟩ := lookF_at l q hl
    exact ⟨a, C, dx, _, u, ev, ha, cl, na, hu, h1.ret s1 ru⟩
theorem q_sfl (ho : PE X o (tF X W fo)) (hv : PE X value (tF X W fv)) (hc : ∀ c ∈ cs, FldC X.K X.mg c f) (hs : swapsWith value (some (.Attribute o f pos')) pos.line X.env = pure false := by rfl) : PS X (.Assign [.Attribute o f pos'] value pos) (tS X W (sFl cs f fo fv)) :=
  PS.wk (ps_fld ho hv hs) fun D σ H ⟨w, ρ, S, s, en, h⟩ => by
    refine ⟨w, ρ, S, s, en, (h.of (R := fun w H => Rp X.K X.mg w H) en).imp ?_ (fun _ _ _ z => z)⟩
    rintro y H1 ⟨w1, S1, d1, e1, s1, r1, h1⟩
    refine ⟨w1, ρ, S1, s1, en.ext e1, (h1.of (R := fun w H => Rp X.K X.mg w H) (en.ext e1)).imp ?_ (fun _ _ _ z => z)⟩
    rintro v H2 ⟨w2, S2, d2, e2, s2, r2, h2⟩
    cases d2 <;> try exact h2.elim
    rename_i n
    simp only at h2
    split at h2
    case h_2 => exact h2.elim
    rename_i c fs' ds' hz
    split at h2
    case isFalse => exact h2.elim
    rename_i hk
    obtain ⟨a, C, dx, vs, w1', hm, ha, l, q⟩ := s2.cell n _ hz
    unfold Rp at r2
    have ev := r2.2 a w1'
    obtain ⟨C', hm', cl, na⟩ := hc c hk.1
    rw [hm] at hm'; cases hm'
    have hn : n < S2.length := by
      rcases Nat.lt_or_ge n S2.length with z | z
      · exact z
      · rw [List.getElem?_eq_none z] at hz; cases hz
    have rl : RpL X.K X.mg w2 H2 (ds' ++ [d1]) (vs ++ [y]) := RpL.append q (RpL.one (Rp.ext e2 _ _ r1))
    have st := Sto.obSet (n := n) (l := a) (C := C) (dx := dx) (c := c) (fs := fs' ++ [f]) (ds := ds' ++ [d1]) (vs := vs ++ [y]) (o := .ins C dx (putF f y (fs'.zip vs))) s2 w1' hn hm (by rw [putF_new l hk.2.1]) (by simp [l]) rl
    have lz : (fs'.zip vs).length < 1000 := by rw [List.length_zip]; have := hk.2.2; omega
    exact ⟨a, C, dx, fs'.zip vs, ev, ha, cl, na, lz, h2 w2 _ σ (Ext.write w1') st (((en.ext e1).ext e2).ext (Ext.write w1'))⟩
theorem q_me {L : List (Str × FF)} {pl : Sem Bool} (ho : PE X o (tF X W fo)) (hM : DispOk X.prog X.w X.K X.mg X.base k m L) (hr : RoomG k X.A) (tk : Takes X W) (ha : PA X (e :: es) (tA X W fs))
    (hst : starEach (e :: es) X.env = (false, eval e X.env) :: starEach es X.env := by rfl) (hpl : (backTo pos (starEach es X.env)).any (·.1) = false := by rfl)
    (ht : eval (.Call (.Attribute o m apos) (e :: es) [] pos) X.env = (do
      let ov ← eval o X.env
      standAt apos.atName
      let (f, first) ← holding [ov] (getMethod ov m pl)
      callWith pos f first (backTo pos (starEach (e :: es) X.env)) (backToKw pos (keywordEach [] X.env))) := by rfl) :
    PE X (.Call (.Attribute o m apos) (e :: es) [] pos) (tF X W (fMe L m fo fs)) := by
  refine ⟨fun pins s σ H Q I ⟨w, ρ, S, s0, en, h⟩ => ?_⟩
  refine PySem.W.methodCall_KW (pl := pl) (thn (ho.run pins s σ H _ I ⟨w, ρ, S, s0, en, (End.bind (R := fun w H => Rp X.K X.mg w H) h).imp (fun _ _ z => z) (fun _ _ _ z => z)⟩) fun u s1 ⟨v, H1, I1, rv, w1, S1, d, e1, s1', r1, h1⟩ => ?_) ht
  split at h1
  case h_2 => exact h1.elim
  rename_i F hF
  cases d <;> simp only [disR] at hF <;> try (cases hF; done)
  rename_i c fs' ds'
  split at hF
  · cases hF
  rename_i hmf
  obtain ⟨C, a, fd, ps, hm, cl, me, Fn, bd, ar⟩ := hM c F hF
  have r1c := r1
  unfold Rp at r1
  obtain ⟨b, C', dx, vs, ev, hm', hb, off, l, q⟩ := r1
  rw [hm] at hm'; cases hm'
  subst ev
  obtain rfl : u = Value.ref b := rv
  refine getmeth_ok I1 hb cl me (lookup_none hmf) ?_
  refine PySem.W.callWith_K (first := [.ref b]) (h₀ := X.base) I.ok.mod.kin me.kp (thn (ha.run pos pins s1 σ H1 (fun vs H2 => spF X.K X.mg ps.length F (.ref b :: vs) H2 Q (WE W σ)) I1
    ⟨w1, ρ, S1, s1', en.ext e1, (End.bind (R := fun w H => RpL X.K X.mg w H) h1).imp ?_ (fun _ _ _ z => z)⟩) fun us s2 ⟨vs2, H2, I2, r, q2⟩ => ⟨I2.kIn, run_g (us := .ref b :: us) (vs := .ref b :: vs2) Fn hr tk I2 (.cons rfl r) (binds0 (us := .ref b :: us) bd I2.kIn ?_) q2⟩) hst hpl
  · rintro vs2 H2 ⟨w2, S2, ds2, e2, s2, r2, h2⟩
    refine ⟨w2, S2, .ins c fs' ds' :: ds2, s2, RpL.cons (Rp.ext e2 _ _ r1c) r2, ?_, h2⟩
    apply Classical.byContradiction
    intro hn
    rw [ar _ S2 hn] at h2
    exact h2
  · have z : (V.ref b :: vs2).length = (Value.ref b :: us).length := by simp [r.length]
    rw [← z]; exact Fn.size _ _ _ _ q2
theorem q_make {c : Str} {F : FF} (C : CalM X.prog X.w X.K X.mg X.base k c "__init__" F) (M : MkC X.K X.mg c) (hr : RoomG (k + 1) X.A) (tk : Takes X W) (hg : Gl X c) (ha : PA X (e :: es) (tA X W fs)) (hdb : (c == ("__debug__" : Str)) = false := by decide)
    (he : starEach (e :: es) X.env = (false, eval e X.env) :: starEach es X.env := by rfl) (hpl : (backTo pos (starEach es X.env)).any (·.1) = false := by rfl) : PE X (.Call (.Name c p) (e :: es) [] pos) (tF X W (fMk c F fs)) := by
  obtain ⟨A1, a, fd, ps, hm, cl, me, Fn, bd, ar⟩ := C
  obtain ⟨A2, a2, hm2, mk⟩ := M
  rw [hm] at hm2; cases hm2
  have ea : a2 = a := by
    have z := mk.init.symm.trans me.at_
    simpa using z
  subst ea
  refine ⟨fun pins s σ H Q I ⟨w, ρ, S, s0, en, h⟩ => ?_⟩
  refine wpAny_Call_Name_kw (ld_glob I hg hm ?_ hdb)
  refine PySem.W.callWith_K (h₀ := X.base) I.ok.mod.kin mk.kp (thn (ha.run pos pins s σ H (fun vs H1 => ∃ w1 S1 ds, Sto X.K X.mg w1 S1 H1 ∧ RpL X.K X.mg w1 H1 ds vs ∧ End X.K X.mg (fun w H => Rp X.K X.mg w H) w1 H1 (mkR c F ds S1) Q (WE W σ)) I
    ⟨w, ρ, S, s0, en, (End.bind (R := fun w H => RpL X.K X.mg w H) h).imp (fun vs H1 ⟨w1, S1, ds, e1, s1, r1, h1⟩ => ⟨w1, S1, ds, s1, r1, h1⟩) (fun _ _ _ z => z)⟩) fun us s1 ⟨vs, H1, I1, r, w1, S1, ds, st1, r1, h1⟩ => ⟨I1.kIn, ?_⟩) he hpl
  -- the object
  have nx : H1 (s1.heap.objs.size + 1) = none := I1.hok.fresh (Nat.le_succ _)
  have nd : H1 s1.heap.objs.size = none := I1.hok.fresh (Nat.le_refl _)
  have I2 := Inv.made (C := A1) I1
  have stB := st1.beside (o := .own (s1.heap.objs.size + 1)) nd
  have nx2 : upd H1 s1.heap.objs.size (.own (s1.heap.objs.size + 1)) (s1.heap.objs.size + 1) = none := by
    rw [upd_ne (Nat.succ_ne_self _)]; exact nx
  have st2 := stB.obNew (C := A1) (dx := s1.heap.objs.size) (c := c) nx2 hm
  have ex1 : Ext w1 H1 w1 (upd H1 s1.heap.objs.size (.own (s1.heap.objs.size + 1))) := Ext.new nd
  have ex2 : Ext w1 (upd H1 s1.heap.objs.size (.own (s1.heap.objs.size + 1))) ⟨w1.φ ++ [some (s1.heap.objs.size + 1)], w1.hd⟩ (upd (upd H1 s1.heap.objs.size (.own (s1.heap.objs.size + 1))) (s1.heap.objs.size + 1) (.ins A1 s1.heap.objs.size [])) := Ext.cell nx2
  have h2 := End.on (ex1.trans ex2) (End.cutE st1 h1)
  have hsp : spF X.K X.mg ps.length F (.ref (s1.heap.objs.size + 1) :: vs) (upd (upd H1 s1.heap.objs.size (.own (s1.heap.objs.size + 1))) (s1.heap.objs.size + 1) (.ins A1 s1.heap.objs.size [])) (fun v H' => v = .non ∧ Q (.ref (s1.heap.objs.size + 1)) H') (WE W σ) := by
    refine ⟨_, _, .loc S1.length :: ds, st2, RpL.cons ?_ (RpL.ext (ex1.trans ex2) _ _ r1), ?_, ?_⟩
    · unfold Rp
      refine ⟨by show S1.length < (w1.φ ++ [some (s1.heap.objs.size + 1)]).length; rw [List.length_append, st1.len]; exact Nat.lt_succ_self _, fun a ha => ?_⟩
      have ha' : (w1.φ ++ [some (s1.heap.objs.size + 1)])[S1.length]? = some (some a) := ha
      rw [← st1.len, List.getElem?_append_right (Nat.le_refl _), Nat.sub_self] at ha'
      simp at ha'; rw [ha']
    · apply Classical.byContradiction
      intro hn
      have : mkR c F ds S1 = .no := by
        unfold mkR
        rw [ar _ _ hn]; rfl
      rw [this] at h1
      exact h1
    · refine (End.bind (R := fun w H => Rp X.K X.mg w H) h2).imp ?_ (fun _ _ _ z => z)
      rintro v H' ⟨w3, S3, d3, e3, s3, r3, h3⟩
      cases d3 <;> try exact h3.elim
      unfold Rp at r3
      refine ⟨r3, ?_⟩
      simp only at h3
      split at h3
      case h_2 => exact h3.elim
      rename_i c' fs' ds' hz
      obtain ⟨b, C', dx, vs', hb1, hb2, hb3, hb4, hb5⟩ := s3.cell _ _ hz
      have hlt : S1.length < (w1.φ ++ [some (s1.heap.objs.size + 1)]).length := by rw [List.length_append, st1.len]; exact Nat.lt_succ_self _
      have hb6 := e3.ph _ _ hb1 hlt
      have hb7 : (w1.φ ++ [some (s1.heap.objs.size + 1)])[S1.length]? = some (some b) := hb6
      rw [← st1.len, List.getElem?_append_right (Nat.le_refl _), Nat.sub_self] at hb7
      simp at hb7
      rw [hb7]
      exact oz_at s3 hz hb1 h3
  have r2 : Vals (V.ref (s1.heap.objs.size + 1) :: vs) (Value.ref (s1.heap.objs.size + 1) :: us) := .cons rfl r
  have hl : (Value.ref (s1.heap.objs.size + 1) :: us).length = ps.length := by
    rw [← r2.length]; exact Fn.size _ _ _ _ hsp
  have hrm : RoomG k (X.A.under (.builtin "type.__call__" ⟨.ref A1 :: us, []⟩)) := ⟨hr.rm.make A1 us [], hr.gd⟩
  refine wpAny_call (make_map (f := a2) I1.kIn mk.makes mk.init (beq_iff_eq.mp mk.fn) (codeAny_mono (Fn.runs _ X.stack _ _ ⟨Value.ref (s1.heap.objs.size + 1) :: us, []⟩ (Value.ref (s1.heap.objs.size + 1) :: us) _ _ (WE W σ) hrm
    (I2.env0.make A1 us []) (binds0 (us := Value.ref (s1.heap.objs.size + 1) :: us) bd I2.kIn hl) r2 hsp) fun r s' hq' => ?_))
  cases r with
  | error e => exact passAt tk σ pins _ _ e s' I2 hq'
  | ok fl =>
    cases fl with
    | ret u =>
      obtain ⟨v, H', I3, rv, ev, q3⟩ := I2.after hq'
      subst ev
      exact ⟨rv, ⟨V.ref (s1.heap.objs.size + 1), H', I3, rfl, q3⟩⟩
    | next => exact False.elim hq'
    | brk => exact False.elim hq'
    | cont => exact False.elim hq'
end
end Kw
namespace Kw
open PySem PySem.Spec PySem.Calls PyProof.Rows L2
def getGR (kvs : List (Str × D)) (y : D) (S : Store) : RE D := match y with
  | .str z => (match kvs.lookup z with
    | some d => .ok d S
    | none => .ok .non S)
  | _ => .no
def fGetG (n : Str) (kvs : List (Str × D)) (fa fb : FE) : FE := fun ρ S => (fa ρ S).bnd fun x S1 => match x with
  | .glo m => if m = n then (fb ρ S1).bnd (getGR kvs) else .no
  | _ => .no
def getO (o : Option D) (S : Store) : RE D := match o with
  | some d => .ok d S
  | none => .ok .non S
@[simp] theorem getO_some {d : D} {S : Store} : getO (some d) S = .ok d S := rfl
@[simp] theorem getO_none {S : Store} : getO none S = .ok .non S := rfl
@[simp] theorem getGR_str {z : Str} {kvs : List (Str × D)} {S : Store} : getGR kvs (.str z) S = getO (kvs.lookup z) S := rfl
section
variable {X : Cx} {W : WX} {a b : Expr} {fa fb : FE} {apos cpos : Pos} {x : Str} {kvs : List (Str × D)}
theorem q_getG (h : GD X.K X.w.params X.mg x kvs) (ha : PE X a (tF X W fa)) (hb : PE X b (tF X W fb)) (m : M1 X a "get" apos b cpos := by exact ⟨rfl, rfl, rfl, rfl⟩) : PE X (.Call (.Attribute a "get" apos) [b] [] cpos) (tF X W (fGetG x kvs fa fb)) := by
  obtain ⟨p, es, n, mm, l, k, hs, f⟩ := h
  refine ⟨fun pins s σ H Q I ⟨w, ρ, S, s0, en, h⟩ => ?_⟩
  refine wpAny_Call_method m.base m.few m.line PySem.F.plainAttrs_dict PySem.F.slot_dict_get PySem.F.type_dict_get (thn (ha.run pins s σ H (fun v H1 => v = .ref p ∧ ∃ w1 S1, Sto X.K X.mg w1 S1 H1 ∧ EnvR X.K X.mg w1 H1 ρ σ ∧ End X.K X.mg (fun w H => Rp X.K X.mg w H) w1 H1 ((fb ρ S1).bnd (getGR kvs)) Q (fun c od H' => W c od σ H')) I
    ⟨w, ρ, S, s0, en, (End.bind (R := fun w H => Rp X.K X.mg w H) h).imp ?_ (fun _ _ _ z => z)⟩) fun u s1 ⟨v, H1, I1, rv, ev, w1, S1, st1, en1, h1⟩ => ?_)
  · rintro v H1 ⟨w1, S1, d, e1, s1, r1, h1⟩
    cases d <;> try exact h1.elim
    simp only at h1
    split at h1
    · rename_i em
      subst em
      unfold Rp at r1
      obtain ⟨q, e2, e3⟩ := r1
      rw [mm] at e3; cases e3
      exact ⟨e2, w1, S1, s1, en.ext e1, h1⟩
    · exact h1.elim
  · subst ev
    obtain rfl : u = Value.ref p := rv
    have hm := PySem.W.mapOf_K (prog := X.prog) (w := X.w) I1.kIn l k
    refine ⟨hm.typeIs, fun b q => ?_, ?_⟩
    · cases q
      exact ⟨_, I1.kIn _ _ l, rfl⟩
    · rw [m.trees]
      refine Calls.callWith_builtin rfl (Calls.evalArgs_plain (Calls.spliced_cons (thn (hb.run pins s1 σ H1 (fun y H2 => ∃ z d, y = .str z ∧ (∃ v0, (match kvs.lookup z with | some d => CV d v0 | none => v0 = .non) ∧ Q v0 H2) ∧ d = kvs.lookup z) I1
        ⟨w1, ρ, S1, st1, en1, (End.bind (R := fun w H => Rp X.K X.mg w H) h1).imp ?_ (fun _ _ _ z => z)⟩) fun iv s2 ⟨y, H2, I2, ry, z, d, ey, ⟨v0, hv0, q2⟩, ed⟩ => Calls.spliced_nil ?_)))
      · rintro y H2 ⟨w2, S2, d2, e2, s2, r2, h2⟩
        cases d2 <;> try exact h2.elim
        rename_i z
        refine ⟨z, _, rp_str r2, ?_, rfl⟩
        simp only [getGR] at h2
        have fz := f z
        split at h2
        · rename_i d hd
          rw [hd] at fz
          obtain ⟨u, v, f1, f2, f3⟩ := fz
          exact ⟨v, f3, h2.ret s2 f3.rp⟩
        · rename_i hd
          exact ⟨.non, rfl, h2.ret s2 rp_n⟩
      · subst ey
        obtain ⟨t, rfl⟩ := ry
        have hm2 := PySem.W.mapOf_K (prog := X.prog) (w := X.w) I2.kIn l k
        refine call_meetsIn PySem.F.slot_dict_get hm2.typeIs PySem.F.entry_dict_get (PySem.F.args_dict_get_2 _ _) (meets_dict_get (strKind X.prog X.w) p (strKind_is X.prog X.w z t) hs) ⟨_, hm2, ?_⟩
        have fz := f z
        cases hd : kvs.lookup z with
        | some d =>
          rw [hd] at fz hv0
          obtain ⟨u, v, f1, f2, f3⟩ := fz
          have hv1 : CV d v0 := hv0
          have e : v0 = v := by
            cases d <;> simp only [CV] at hv1 f3 <;> first | exact hv1.trans f3.symm | exact hv1.elim
          subst e
          refine ⟨v0, H2, I2.tok _, ?_, q2⟩
          rw [PySem.W.find_K l f1]
          exact f2
        | none =>
          rw [hd] at fz hv0
          have hv1 : v0 = .non := hv0
          subst hv1
          refine ⟨.non, H2, I2.tok _, ?_, q2⟩
          rw [PySem.W.find_K l fz]
          rfl
end
/-- what is not read -/
def sNo : FS := fun _ _ => .no
theorem q_sno {X : Cx} {W : WX} {st : Stmt} : PS X st (tS X W sNo) := ⟨fun pins s σ H D I ⟨w, ρ, S, s0, en, h⟩ => h.elim⟩
/-- the class's method stands in the class's body -/
def TM (K : PySem.W.Frag) (mg : Str → Option Value) (c m qual : Str) (st : Stmt) (ps : List Str) : Prop := ∃ C f fd, mg c = some (.ref C) ∧ Cls K C ∧ Meth K C m f ∧ Fun K m qual st f fd ∧ Binds K fd ps []
section
variable {P : Program} {w : World} {K : PySem.W.Frag} {mg : Str → Option Value} {base : Heap}
theorem calM_zero {c m qual : Str} {st : Stmt} {ps : List Str} {k : Nat} (T : TM K mg c m qual st ps) : CalM P w K mg base k c m (fun _ _ => .no) := by
  obtain ⟨C, f, fd, hm, cl, me, F, b⟩ := T
  exact ⟨C, f, fd, ps, hm, cl, me, ⟨fun vs H Q E ⟨w, S, ds, s, r, l, h⟩ => by rw [← r.length]; exact l, fun A outer s H args us vs Q E _ _ _ _ ⟨w, S, ds, st, r, l, h⟩ => h.elim⟩, b, fun _ _ _ => rfl⟩
theorem calMB {c m qual : Str} {st : Stmt} {N ps : List Str} {k : Nat} {b : FS} (T : TM K mg c m qual st ps) (S : FnScope N ps (defScope st))
    (hb : ∀ (f : Addr) (cdv : Value) (A : Around) (outer : List Env) (s : Shared) (H : Hp) (E : XK), RoomG k (A.deeper (envOfC qual (defScope st) s.heap.objs.size f cdv)) →
      PSs (cxOf (L2.CX P w) P w K mg base N qual (defScope st) f cdv A outer s H E) (defBody st) (tS (cxOf (L2.CX P w) P w K mg base N qual (defScope st) f cdv A outer s H E) (fun c d _ H => E c d H) b)) :
    CalM P w K mg base (k + 1) c m (fnB ps.length N.length b) := by
  obtain ⟨C, f, fd, hm, cl, me, F, bd⟩ := T
  exact ⟨C, f, fd, ps, hm, cl, me, fn_ok F S (hb f), bd, fnB_ar⟩
end
section
variable {K : PySem.W.Frag} {mg : Str → Option Value} {h : Heap}
theorem tm_mk {c m qual : Str} {st : Stmt} {ps : List Str} {C f : Addr} {oc : Value} {od an : Option Addr} {osl : Array (Option Value)} {kV doc pm cdv ct : Value} (X : K.In h) (G : h.Ns mainGlobals mg) (a : PySem.W.nsIn K mainGlobals c = some (some (.ref C)))
    (m1 : PySem.W.findIn K (.ref C) m = some (some (.ref f))) (l : K.lookup f = some ⟨oc, od, .func (PySem.W.fnOf m qual (defArgs st) (defBody st) (defScope st) .none kV doc pm an cdv ct), osl⟩) (cc : PySem.W.codeIn K cdv qual = true) (k : PySem.W.keepIn K (.ref f) = true)
    (m2 : PySem.W.isFn K (.ref f) = true) (c1 : PySem.W.plainGet K C Str.empty = true) (c2 : PySem.W.hasDictIn K C = true) (c3 : PySem.W.plainOver K C = true) (c4 : PySem.W.findIn K (.ref C) "__setattr__" = some (some (.builtin "object.__setattr__")))
    (hb : ∀ (kV doc pm : Value) (an : Option Addr) (cdv ct : Value) (us : List Value), us.length = ps.length → bindArgs (PySem.W.fnOf m qual (defArgs st) (defBody st) (defScope st) .none kV doc pm an cdv ct) ⟨us, []⟩ = pure (ps.zip us)) : TM K mg c m qual st ps :=
  ⟨C, f, _, PySem.W.mg_of X G a, ⟨c1, c2, c3, c4⟩, ⟨m1, m2, k⟩, fun_mk l cc k, (fun_mk l cc k).binds hb⟩
theorem fld_mk {c f : Str} {C : Addr} (X : K.In h) (G : h.Ns mainGlobals mg) (a : PySem.W.nsIn K mainGlobals c = some (some (.ref C))) (n : PySem.W.findIn K (.ref C) f = some none)
    (c1 : PySem.W.plainGet K C Str.empty = true) (c2 : PySem.W.hasDictIn K C = true) (c3 : PySem.W.plainOver K C = true) (c4 : PySem.W.findIn K (.ref C) "__setattr__" = some (some (.builtin "object.__setattr__"))) : FldC K mg c f :=
  ⟨C, PySem.W.mg_of X G a, ⟨c1, c2, c3, c4⟩, n⟩
theorem mkc_mk {c : Str} {C f : Addr} (X : K.In h) (G : h.Ns mainGlobals mg) (a : PySem.W.nsIn K mainGlobals c = some (some (.ref C))) (i : PySem.W.findIn K (.ref C) "__init__" = some (some (.ref f))) (mk : PySem.W.makesIn K C = true) (fn : PySem.W.isFn K (.ref f) = true) (kp : PySem.W.keepIn K (.ref C) = true) : MkC K mg c :=
  ⟨C, f, PySem.W.mg_of X G a, ⟨mk, i, fn, kp⟩⟩
end
end Kw
namespace Kw
open PySem PySem.Spec PyProof.Rows L2
def metS (acc : List Str) (x : Str) : List Str := if x ∈ acc then acc else acc ++ [x]
/-- the texts, each once -/
def onceS (xs : List Str) : List Str := xs.foldl metS []
theorem onceS_snoc (xs : List Str) (x : Str) : onceS (xs ++ [x]) = metS (onceS xs) x := by
  unfold onceS; rw [List.foldl_append]; rfl
theorem metS_len (acc : List Str) (x : Str) : (metS acc x).length ≤ acc.length + 1 := by
  unfold metS; split <;> simp
theorem onceS_acc : ∀ (xs acc : List Str), (xs.foldl metS acc).length ≤ acc.length + xs.length
  | [], acc => Nat.le_refl _
  | x :: xs, acc => by
    have h1 := onceS_acc xs (metS acc x)
    have h2 := metS_len acc x
    show (xs.foldl metS (metS acc x)).length ≤ acc.length + (xs.length + 1)
    omega
theorem onceS_le (xs : List Str) : (onceS xs).length ≤ xs.length := by
  have := onceS_acc xs []
  rwa [List.length_nil, Nat.zero_add] at this
abbrev memS (acc : List Str) : Str → Bool := fun k => decide (k ∈ acc)
theorem memS_met (acc : List Str) (x k : Str) : memS (metS acc x) k = (memS acc k || decide (k = x)) := by
  unfold memS metS
  by_cases h : x ∈ acc
  · rw [if_pos h]
    by_cases e : k = x
    · subst e; simp [h]
    · simp [e]
  · rw [if_neg h, Bool.eq_iff_iff]; simp
theorem lenS_met (acc : List Str) (x : Str) : (metS acc x).length = if memS acc x = true then acc.length else acc.length + 1 := by
  unfold memS metS
  by_cases h : x ∈ acc
  · rw [if_pos h, if_pos (decide_eq_true h)]
  · rw [if_neg h, if_neg (by simpa using h), List.length_append]; rfl
section
variable {P : Program} {w : World} {A : Around} {R : Result → Shared → Prop} {it : Addr} {fp wr : List Addr} {G : Array GenState → Array GenState → Prop} {n : Nat} {Pv : Nat → Value → Prop} {St : Nat → Shared → Prop}
/-- the set is filled, text by text -/
theorem fillS (W : WalksS P w A.in1 it fp wr G n Pv St) (B : Addr) (hB : B ∉ fp) (xs : List Str) (hn : xs.length = n) (hc : n + 1 < scanBound) (hv : ∀ i v, Pv i v → ∃ tk, v = Value.str (xs.getD i Str.empty) tk) :
    ∀ (m i : Nat) (s : Shared), i + m = n → St i s → s.heap.SetOf (strKind P w) B (memS (onceS (xs.take i))) (onceS (xs.take i)).length →
      (∀ t, Moved (B :: wr) G s t → t.heap.SetOf (strKind P w) B (memS (onceS xs)) (onceS xs).length → R (.ok (.ret .none)) t) → codeAny (model P w) A (.builtin "set.update.loop" ⟨[.ref B, .ref it], []⟩) R s := by
  have hBw : B ∉ wr := fun z => hB (W.sub _ z)
  have up : ∀ b ∈ wr, b ∈ B :: wr := fun b z => List.mem_cons_of_mem _ z
  have carry : ∀ {s t : Shared} {S : Str → Bool} {c : Nat}, Moved wr G s t → s.heap.SetOf (strKind P w) B S c → t.heap.SetOf (strKind P w) B S c := by
    rintro s t S c mv ⟨o, es, ep, tb, e, r⟩
    exact ⟨o, es, ep, tb, mv.heap B _ hBw e, r⟩
  intro m
  induction m with
  | zero =>
    intro i s him hst hset fin
    have hi : i = n := by omega
    refine codeAny_builtin F.entry_set_update_loop ?_
    rw [Around.under_plainId F.plain_set_update_loop _]
    show wpAny _ A.in1 (pyNext (.ref it) >>= _) _ _ s
    refine wpAny_bind (W.done s _ _ (hi ▸ hst) fun t mv => ?_)
    refine (show wpAny _ A.in1 (ret Value.none) _ _ t from wpAny_pure (fin t (mv.mono up) ?_))
    have := carry mv hset
    rw [hi, ← hn, List.take_length] at this
    exact this
  | succ m ih =>
    intro i s him hst hset fin
    have hlt : i < n := by omega
    have hx : xs[i]? = some (xs.getD i Str.empty) := by
      rw [List.getD_eq_getElem?_getD, List.getElem?_eq_getElem (by omega)]; rfl
    generalize xs.getD i Str.empty = x at hx hv
    refine codeAny_builtin F.entry_set_update_loop ?_
    rw [Around.under_plainId F.plain_set_update_loop _]
    show wpAny _ A.in1 (pyNext (.ref it) >>= _) _ _ s
    refine wpAny_bind (W.item i s _ _ hlt hst fun v t hp hst1 mv => ?_)
    obtain ⟨tk, ev⟩ := hv i v hp
    have ev : v = Value.str x tk := by
      rw [ev, List.getD_eq_getElem?_getD, hx]; rfl
    subst ev
    have key : (strKind P w).is x (Value.str x tk) = true := strKind_is _ _ _ _
    have le : (onceS (xs.take i)).length ≤ i := by
      have := onceS_le (xs.take i)
      rw [List.length_take] at this
      omega
    show wpAny _ A.in1 (holding [Value.str x tk] (setAdd B (.str x tk)) >>= _) _ _ t
    unfold setAdd
    refine wpAny_bind (wpAny_holding (wpAny_holding (wpAny_bind ((strKind P w).pyHash key ?_))))
    refine wpAny_setAddHashed_of (s := { t with toks := t.toks + 1 }) key rfl (show Heap.SetOf (strKind P w) t.heap B _ _ from carry mv hset) (by omega) fun h' same hset1 => ?_
    have hset2 : h'.SetOf (strKind P w) B (memS (onceS (xs.take (i + 1)))) (onceS (xs.take (i + 1))).length := by
      have e : xs.take (i + 1) = xs.take i ++ [x] := by rw [List.take_succ, hx]; rfl
      rw [e, onceS_snoc, lenS_met]
      have e2 : memS (metS (onceS (xs.take i)) x) = fun k => memS (onceS (xs.take i)) k || decide (k = x) := funext fun k => memS_met _ _ k
      rw [e2]; exact hset1
    refine wpAny_pure ⟨plainId_quiet F.plain_set_update_loop _, ih (i + 1) _ (by omega) (W.frame _ t _ _ hst1 (Nat.le_succ _) fun b hb o e => ?_) hset2 fun u mv1 hset3 => fin u ?_ hset3⟩
    · rw [same.2 b fun z => hB (z ▸ hb)]; exact e
    · refine Moved.trans W.gtrans ((mv.mono up).then_heap (Nat.le_succ _) fun b o hb e => ?_) mv1
      rw [same.2 b fun z => hb (z ▸ List.mem_cons_self)]; exact e
end
section
variable {P : Program} {w : World} {A : Around} {E : Value → Shared → Prop} {s : Shared}
theorem strs_nth : ∀ {us : List Value} {xs : List Str}, StrsAre us xs → ∀ (i : Nat) v, us[i]? = some v → ∃ tk, v = Value.str (xs.getD i Str.empty) tk
  | _, _, .nil, i, v, e => by simp at e
  | _, _, .cons x tk r, 0, v, e => ⟨tk, by simpa using e.symm⟩
  | _, _, .cons x tk r, i + 1, v, e => by
    obtain ⟨tk', e'⟩ := strs_nth r i v (by simpa using e)
    exact ⟨tk', by rw [e']; rfl⟩
abbrev newSet (b : Bool) : Obj := { cls := .type "set", dict := none, data := .set #[] 0 (.fresh 0 0 b) }
set_option maxHeartbeats 6400000 in
/-- set(xs) of a list of texts -/
theorem set_texts {a : Addr} {us : Array Value} {xs : List Str} {Q : Value → Shared → Prop} (calm : A.handled = none) (la : s.heap.IsList a us) (tx : StrsAre us.toList xs) (few : xs.length + 1 < scanBound)
    (k : ∀ (h' : Heap) (tk : Nat), h'.SetOf (strKind P w) s.heap.objs.size (memS (onceS xs)) (onceS xs).length → (∀ b o, b < s.heap.objs.size → s.heap.get? b = some o → h'.get? b = some o) → Q (.ref s.heap.objs.size) { s with heap := h', toks := tk }) :
    wpAny (model P w) A (call (.type "set") [.ref a]) Q E s := by
  have fm := PySem.F.called_set.made
  have fs := PySem.F.called_set.sub
  have f1 := PySem.F.called_set.notType
  have f2 := PySem.F.called_set.canCreate
  have f3 := PySem.F.typeCall_set_1 (.ref a)
  have f4 := PySem.F.called_set.init.lookup
  obtain ⟨mc, mt, fmro⟩ := PySem.F.called_set.mro
  refine wpAny_call (codeAny_of_tree ?_)
  refine (show wpAny _ _ (callAny (.type "set") _) _ _ _ from wpAny_pure ⟨Code.quiet_builtin _ (by decide +kernel), codeAny_builtin PySem.F.entry_type_call ?_⟩)
  rw [Around.under_plain (weight_type_call_type "set" [.ref a] []) rfl]
  repeat (any_goals (first | assumption | wp_step))
  refine codeAny_mono (code_set_new_1 (.ref a) (E := E) (Q₁ := fun v t => ∃ b : Bool, v = .ref s.heap.objs.size ∧ t = { s with heap := s.heap.push (newSet b) }) fun b => ⟨b, rfl, rfl⟩) fun r t hr => ?_
  match r, hr with
  | .error e, hr => exact hr
  | .ok .next, hr => exact hr.elim
  | .ok .brk, hr => exact hr.elim
  | .ok .cont, hr => exact hr.elim
  | .ok (.ret v), hr =>
    obtain ⟨b, rfl, rfl⟩ := hr
    have at0 : (s.heap.push (newSet b)).get? s.heap.objs.size = some (newSet b) := Heap.get?_push_size _ rfl
    have ty0 : Shared.TypeIs { s with heap := s.heap.push (newSet b) } (.ref s.heap.objs.size) "set" := ⟨_, at0, rfl⟩
    have f5 := PySem.F.called_set.init.bind (.ref s.heap.objs.size)
    repeat (any_goals (first | assumption | wp_step))
    refine codeAny_mono (codeAny_call_builtin (R := wants (fun v t => v = .none ∧ ∃ h' tk, t = { s with heap := h', toks := tk } ∧ h'.SetOf (strKind P w) s.heap.objs.size (memS (onceS xs)) (onceS xs).length ∧
      (∀ b o, b < s.heap.objs.size → s.heap.get? b = some o → h'.get? b = some o)) E) PySem.F.called_set.init.plain PySem.F.entry_set_init (check_set_init_1 ty0 ?_)) fun r t hr => ?_
    · obtain ⟨⟨oc, od, ox, os⟩, oat, ocl, on, oda⟩ := la
      simp only at ocl oda
      subst ocl; subst oda
      have oat1 : (s.heap.push (newSet b)).get? a = some { cls := .type "list", dict := od, data := .seq us on, slots := os } := Heap.get?_push_of_some _ oat
      have la1 : (s.heap.push (newSet b)).IsList a us := ⟨_, oat1, rfl, on, rfl⟩
      have g1 := PySem.F.sub_list_set
      have g2 := PySem.F.sub_list_frozenset
      have g3 : (Value.type "list" == Value.type "dict") = false := by decide
      unfold Builtin.«set.__init__» noKeywords Builtin.Frozenset.updateFrom
      generalize hp : pyIter = walkOf
      wp_walk
      subst hp
      refine wpAny_pyIter_list la1 ?_
      refine wpAny_bind (wpAny_runValue ?_)
      have a_lt : a < s.heap.objs.size := Heap.lt_size oat
      have sz1 : (s.heap.push (newSet b)).objs.size = s.heap.objs.size + 1 := Heap.size_push _ _
      have calm3 : A.in1.in1.in1.handled = none := by simp [calm]
      have ne1 : a ≠ (s.heap.push (newSet b)).objs.size := by rw [sz1]; exact Nat.ne_of_lt (Nat.lt_succ_of_lt a_lt)
      have off : s.heap.objs.size ∉ [(s.heap.push (newSet b)).objs.size, a] := by
        rw [sz1]; simp only [List.mem_cons, List.not_mem_nil, or_false, not_or]; exact ⟨Nat.ne_of_lt (Nat.lt_succ_self _), Nat.ne_of_gt a_lt⟩
      have nx : xs.length = us.size := by rw [← Array.length_toList]; exact (StrsAre.len_eq tx).symm
      refine fillS ((Walks.list calm3 _ a ne1 us).toS) s.heap.objs.size off xs nx (by omega) (fun i v e => strs_nth tx i v (by rw [Array.getElem?_toList]; exact e)) us.size 0 _ (by omega) ⟨⟨_, Heap.get?_push_size _ rfl, rfl, rfl⟩, la1.push _⟩ ?start ?finish
      case start =>
        have at1 : ((s.heap.push (newSet b)).push { cls := .type "list_iterator", data := .fields #[.ref a, .int 0 0] }).get? s.heap.objs.size = some (newSet b) := Heap.get?_push_of_some _ at0
        exact SetOf_congr ((setObjOf_fresh (knd := strKind P w) b).setOf at1 (by unfold scanBound; omega)) (fun _ => rfl) rfl
      case finish =>
        intro t mv hset
        obtain ⟨h', g', d', tk', os'⟩ := t
        have q1 : g' = s.gens := mv.gens
        have q2 : d' = s.drawn := mv.drawn
        have q3 : os' = s.os := mv.os
        subst q1 q2 q3
        refine (show wpAny _ _ _ _ _ _ from wpAny_pure (show wpAny _ _ (ret Value.none) _ _ _ from wpAny_pure ⟨rfl, h', tk', rfl, hset, fun c o hc e => ?_⟩))
        refine mv.heap c o ?_ (Heap.get?_push_of_some _ (Heap.get?_push_of_some _ e))
        rw [sz1]; simp only [List.mem_cons, List.not_mem_nil, or_false, not_or]; exact ⟨Nat.ne_of_lt hc, Nat.ne_of_lt (Nat.lt_succ_of_lt hc)⟩
    · match r, hr with
      | .error e, hr => exact hr
      | .ok .next, hr => exact hr.elim
      | .ok .brk, hr => exact hr.elim
      | .ok .cont, hr => exact hr.elim
      | .ok (.ret v), hr =>
        obtain ⟨rfl, h', tk, rfl, hset, keep⟩ := hr
        repeat (any_goals (first | assumption | wp_step))
        exact k h' tk hset keep
end
def textsOf : List D → Option (List Str)
  | [] => some []
  | .str x :: r => (textsOf r).map (x :: ·)
  | _ => none
def gLenSet (d : D) (S : Store) : RE D := match seqL S d with
  | some ds => (match textsOf ds with
    | some xs => if xs.length ≤ 1000 then .ok (.int ((onceS xs).length : Int)) S else .no
    | none => .no)
  | none => .no
theorem texts_at {K : PySem.W.Frag} {mg : Str → Option Value} {w : Wd} {H : Hp} : ∀ {ds : List D} {vs : List V} {xs : List Str}, RpL K mg w H ds vs → textsOf ds = some xs → vs = xs.map V.str
  | [], vs, xs, r, h => by
    unfold RpL at r
    simp only [textsOf] at h
    cases h; rw [r]; rfl
  | d :: ds, vs, xs, r, h => by
    cases d <;> simp only [textsOf] at h <;> try (cases h; done)
    obtain ⟨ys, h1, h2⟩ := Option.map_eq_some_iff.mp h
    unfold RpL at r
    obtain ⟨v, r', e, r1, r2⟩ := r
    rw [e, ← h2, rp_str r1, texts_at r2 h1]; rfl
theorem vals_texts : ∀ {xs : List Str} {us : List Value}, Vals (xs.map V.str) us → StrsAre us xs
  | [], us, r => by
    rw [List.map_nil] at r
    cases r; exact .nil
  | x :: xs, us, r => by
    rw [List.map_cons] at r
    cases r with
    | cons h t =>
      obtain ⟨tk, rfl⟩ := h
      exact .cons x tk (vals_texts t)
section
variable {X : Cx} {W : WX} {a : Expr} {fa : FE} {p p2 q pos : Pos}
theorem q_lenSet (hc : X.calm = true) (hg : Gl X "len") (hm : X.mg "len" = none) (hg2 : Gl X "set") (hm2 : X.mg "set" = none) (ha : PE X a (tF X W fa)) (na : starEach [a] X.env = (false, eval a X.env) :: starEach [] X.env := by rfl) :
    PE X (.Call (.Name "len" p) [.Call (.Name "set" p2) [a] [] q] [] pos) (tF X W (f1 gLenSet fa)) := by
  refine ⟨fun pins s σ H Q I ⟨w, ρ, S, s0, en, h⟩ => ?_⟩
  have h1 : tF X W fa σ H (fun v H1 => ∃ (l : Addr) (xs : List Str), v = V.ref l ∧ SqL X.K H1 l (xs.map V.str) ∧ xs.length ≤ 1000 ∧ Q (.int ((onceS xs).length : Int)) H1) := by
    refine ⟨w, ρ, S, s0, en, (End.bind (R := fun w H => Rp X.K X.mg w H) h).imp ?_ (fun _ _ _ z => z)⟩
    rintro v H1 ⟨w1, S1, d, e1, s1, r1, h1⟩
    unfold gLenSet at h1
    split at h1
    · rename_i ds hd
      split at h1
      · rename_i xs hx
        split at h1
        · rename_i hl
          obtain ⟨l, vs, ev, sq, rl⟩ := seqL_at s1 r1 hd
          rw [texts_at rl hx] at sq
          exact ⟨l, xs, ev, sq, hl, h1.ret s1 rp_i⟩
        · exact h1.elim
      · exact h1.elim
    · exact h1.elim
  refine Call_ (ld_blt I hg hm PySem.boot_len (callWith_builtin1 (args_cons (Call_ (ld_blt I hg2 hm2 boot_set ?_)) rfl) rfl rfl))
  refine callWith_type1 (args_cons (thn (ha.run pins s σ H _ I h1) fun v s1 ⟨x, H1, I1, r1, l, xs, ex, sq, hl, q1⟩ => args_nil ?_) na) na rfl
  subst ex
  cases r1
  obtain ⟨its, r, pl, hz⟩ := I1.list sq
  refine set_texts (I1.ok.hd hc) pl.isList (by simpa using vals_texts r) (by unfold scanBound; omega) fun h' tk hset keep => args_nil ?_
  obtain ⟨o, es, ep, t, ho, hex, hd, _, _, _, hf, hn⟩ := hset
  have I2 : Inv X pins σ H1 { s1 with heap := h', toks := tk } := I1.kept fun b o e => keep b o (Heap.lt_size e) e
  have le := onceS_le xs
  exact call_len_set ho hex hd hf (by rw [hn]; omega) ⟨.int ((onceS xs).length : Int), H1, I2.tok _, ⟨_, by rw [hn]⟩, q1⟩
end
def gRem (x : D) (ds : List D) (S : Store) : RE D := match x, ds with
  | .loc n, [y] => (match cellM S n with
    | some zs => (match pySL S zs, pyS S y with
      | some ps, some d => if PyData.canLayAll0 ps && d.canLay0 && decide (min (PyData.depthAll ps) d.depth ≤ 190) && decide (zs.length ≤ sizeLine) then (match ps.findIdx? (fun z => PyData.eqv z d) with
        | some j => .ok .non (S.set n (.lst (zs.eraseIdx j)))
        | none => .no) else .no
      | _, _ => .no)
    | none => .no)
  | _, _ => .no
def rRemD (K : PySem.W.Frag) : V → List V → Hp → VK → Prop := fun x xs H Q => ∃ (a : Addr) (y : V) (d : PyData) (vs : List V) (ps : List PyData) (j : Nat), x = .ref a ∧ xs = [y] ∧ H a = some (.lst vs) ∧ DpAll K H vs ps ∧ Dp K H y d ∧ PyData.canLayAll0 ps = true ∧ d.canLay0 = true ∧ min (PyData.depthAll ps) d.depth ≤ 190 ∧
  ps.findIdx? (fun z => PyData.eqv z d) = some j ∧ Q .non (upd H a (.lst (vs.eraseIdx j)))
section
variable {X : Cx}
theorem mt_remD (hu : X.A.units + 200 < cLine) : MtR X "list.remove" (rRemD X.K) := by
  intro pins s σ H x xs v us Q I rx rxs h
  obtain ⟨a, y, d, vs, ps, j, rfl, rfl, hH, hl, hy, c1, c2, c3, hj, q⟩ := h
  cases rx
  obtain ⟨uy, rfl, ry⟩ := rxs.one
  obtain ⟨bs, r1⟩ := Dp.reads I d y uy hy ry
  obtain ⟨z, its, n, r, hl1, e0⟩ := I.lstM hH
  obtain ⟨as, h4⟩ := Dp.readsAll I ps _ its hl r
  have hmap : its.map (SeqAt.readOf s.heap) = ps := SeqAt.readsAll_map ps its as c1 h4
  have eqs := SeqAt.items_eqAt (A := X.A) (vs := its.toArray) (show ReadsAll s.heap its.toArray.toList ps as from h4) r1 c1 c2 (by omega)
  obtain ⟨jl, jp, jn⟩ := List.findIdx?_eq_some_iff_getElem.mp hj
  have il : its.length = ps.length := by rw [← hmap, List.length_map]
  have at_ : ∀ (i : Nat) (hi : i < its.length), SeqAt.readOf s.heap its[i] = ps[i]'(by omega) := fun i hi => by
    have : (its.map (SeqAt.readOf s.heap))[i]'(by simpa using hi) = ps[i]'(by omega) := by
      have e : (its.map (SeqAt.readOf s.heap))[i]? = ps[i]? := by rw [hmap]
      rw [List.getElem?_eq_getElem (by simpa using hi), List.getElem?_eq_getElem (by omega)] at e
      exact Option.some.inj e
    rwa [List.getElem_map] at this
  have hz : its.toArray.size ≤ sizeLine := by rw [List.size_toArray, ← hl1]; exact z
  have hjl : j < its.length := by omega
  have rm := SeqAt.list_removeAt a its.toArray n none #[] uy (fun u => PyData.eqv (SeqAt.readOf s.heap u) d) j (by simpa using hjl) (by
    show PyData.eqv (SeqAt.readOf s.heap its[j]) d = true
    rw [at_ j hjl]; exact jp) (fun i hi hlt => by
    have hi' : i < its.length := by simpa using hi
    show PyData.eqv (SeqAt.readOf s.heap its[i]) d = false
    rw [at_ i hi']
    have := jn i hlt
    simpa using this) hz
  refine call_meets PySem.F.slot_list_remove ⟨_, e0, rfl⟩ PySem.F.entry_list_remove (PySem.F.args_list_remove_2 _ _) rm ⟨e0, eqs, ?_⟩
  refine ⟨.non, _, I.lset (its' := its.eraseIdx j) hH e0 (by show its.toArray.eraseIdxIfInBounds j = _; rw [List.eraseIdxIfInBounds_toArray]) (r.eraseIdx j) ?_, rfl, q⟩
  have := List.length_eraseIdx_le vs j
  omega
variable {K : PySem.W.Frag} {mg : Str → Option Value}
theorem rem_v : MtV K mg (rRemD K) gRem := by
  intro w S H x xs d ds Q E s r1 r2 h
  unfold gRem at h
  split at h
  · rename_i n y
    split at h
    · rename_i zs hz
      split at h
      · rename_i ps p h1 h2
        split at h
        · rename_i hk
          simp only [Bool.and_eq_true, decide_eq_true_eq] at hk
          split at h
          · rename_i j hj
            obtain ⟨v, rfl, r3⟩ := r2.one_inv
            obtain ⟨l, vs, e1, t1, q1⟩ := seqM_at (S := S) (d := .loc n) s r1 hz
            exact ⟨l, v, p, vs, ps, j, e1, rfl, t1, pySL_at s zs vs ps q1 h1, pyS_at s y v p r3 h2, hk.1.1.1, hk.1.1.2, hk.1.2, hj, wrote s r1 hz (q1.erase j) rp_n h l e1⟩
          · exact h.elim
        · exact h.elim
      · exact h.elim
    · exact h.elim
  · exact h.elim
end
end Kw
namespace Kw
open PySem PySem.Spec PyProof.Rows L2
end Kw
namespace Kw
open PySem PySem.Spec PyProof.Rows L2
abbrev Cl2 := List Value × Option Nat × (Addr → Value → Option Addr → TS)
def wCls2 (K : PySem.W.Frag) (Wout : WX) (D : Ends) : List Cl2 → WX
  | [] => Wout
  | (cs, o, ts) :: r => fun cls d σ H => ∃ b, PySem.W.exmAny K cls cs = some b ∧ (b = true → ∀ a, H a = none → hit o (ts a cls d) D a σ H) ∧ (b = false → wCls2 K Wout D r cls d σ H)
inductive ClsOk2 (X : Cx) : List ExceptHandler → List Cl2 → Prop
  | nil : ClsOk2 X [] []
  | plain {x : Str} {c : Value} {ts : Addr → Value → Option Addr → TS} {b₀ : Stmt} {su : List Stmt} {np q : Pos} {hds : List ExceptHandler} {l : List Cl2} (nm : Names X x c) (k : SuOk X (b₀ :: su) ts) (r : ClsOk2 X hds l) :
      ClsOk2 X (.ExceptHandler (some (.Name x np)) none (b₀ :: su) q :: hds) (([c], none, ts) :: l)
  | two {x y : Str} {c d : Value} {ts : Addr → Value → Option Addr → TS} {b₀ : Stmt} {su : List Stmt} {np np2 tp q : Pos} {kk : Nat} {hds : List ExceptHandler} {l : List Cl2} (nm : Names X x c) (nm2 : Names X y d) (k : SuOk X (b₀ :: su) ts) (r : ClsOk2 X hds l) :
      ClsOk2 X (.ExceptHandler (some (.Tuple [.Name x np, .Name y np2] kk tp)) none (b₀ :: su) q :: hds) (([c, d], none, ts) :: l)
inductive ClsF2 (X : Cx) (es : List Str) : List ExceptHandler → List ClF → Prop
  | nil : ClsF2 X es [] []
  | plain {x : Str} {sub : Str → Bool} {c : Str → Addr → FS} {b₀ : Stmt} {su : List Stmt} {np q : Pos} {hds : List ExceptHandler} {l : List ClF} (h : CatF X.K X.mg es x sub) (hg : Gl X x) (k : SuF X es (b₀ :: su) c) (r : ClsF2 X es hds l) (hd : (x == ("__debug__" : Str)) = false := by decide) :
      ClsF2 X es (.ExceptHandler (some (.Name x np)) none (b₀ :: su) q :: hds) ((sub, none, c) :: l)
  | two {x y : Str} {sub sub2 : Str → Bool} {c : Str → Addr → FS} {b₀ : Stmt} {su : List Stmt} {np np2 tp q : Pos} {kk : Nat} {hds : List ExceptHandler} {l : List ClF} (h : CatF X.K X.mg es x sub) (h2 : CatF X.K X.mg es y sub2) (hg : Gl X x) (hg2 : Gl X y) (k : SuF X es (b₀ :: su) c) (r : ClsF2 X es hds l) (hd : (x == ("__debug__" : Str)) = false := by decide) (hd2 : (y == ("__debug__" : Str)) = false := by decide) :
      ClsF2 X es (.ExceptHandler (some (.Tuple [.Name x np, .Name y np2] kk tp)) none (b₀ :: su) q :: hds) ((fun z => sub z || sub2 z, none, c) :: l)
section
variable {X : Cx} {W : WX} {es : List Str}
theorem exmAny_one {K : PySem.W.Frag} {cls c : Value} {b : Bool} (h : PySem.W.exmOne K cls c = some b) : PySem.W.exmAny K cls [c] = some b := by
  simp [PySem.W.exmAny, h]
theorem exmAny_two {K : PySem.W.Frag} {cls c d : Value} {b b2 : Bool} (h : PySem.W.exmOne K cls c = some b) (h2 : PySem.W.exmOne K cls d = some b2) : PySem.W.exmAny K cls [c, d] = some (b || b2) := by
  simp [PySem.W.exmAny, h, h2]
theorem ClsF2.go {hds : List ExceptHandler} {cs : List ClF} (h : ClsF2 X es hds cs) (hk : ∀ y ∈ es, ExcK X.K X.mg y) : ∃ l, ClsOk2 X hds l ∧ ∀ (D : Ends) (w : Wd) (x : Ex) (ρ : FEnv) (S : Store) (σ : L2.St) (H : Hp) (cy : Value) (od : Option Addr), x.cls ∈ es → x.ns = [] → Sto X.K X.mg w S H → EnvR X.K X.mg w H ρ σ → ExR X.K X.mg w H x cy od →
    EndS X.K X.mg w H (clsR x ρ S cs) D W → wCls2 X.K W D l cy od σ H := by
  have ex0 : ∀ {w : Wd} {H : Hp} {x : Ex} {cy : Value} {od : Option Addr}, x.cls ∈ es → x.ns = [] → ExR X.K X.mg w H x cy od → ∃ C, X.mg x.cls = some (.ref C) ∧ cy = .ref C ∧ od = none := by
    intro w H x cy od hx hn ex
    obtain ⟨gy, hr⟩ := ex
    obtain ⟨C, gC, _⟩ := hk _ hx
    cases gC.symm.trans gy
    refine ⟨C, gC, rfl, ?_⟩
    rcases hr with ⟨_, _, z⟩ | ⟨d, vs, z, _⟩
    · exact z
    · exact absurd hn z
  have yes : ∀ {sub : Str → Bool} {c : Str → Addr → FS} {l : List ClF} {D : Ends} {w : Wd} {x : Ex} {ρ : FEnv} {S : Store} {σ : L2.St} {H : Hp} {C : Addr}, x.cls ∈ es → X.mg x.cls = some (.ref C) → Sto X.K X.mg w S H → EnvR X.K X.mg w H ρ σ → EndS X.K X.mg w H (clsR x ρ S ((sub, none, c) :: l)) D W → sub x.cls = true → ∀ a, H a = none → hit none (tsOf X es c a (.ref C) none) D a σ H := by
    intro sub c l D w x ρ S σ H C hx gC s en h hs a na
    have h2 : EndS X.K X.mg w H (aInd (clRun none (c x.cls) ρ S)) D W := by
      have h' := h
      unfold clsR at h'
      rw [if_pos hs] at h'
      exact h'
    by_cases hno : aInd (clRun none (c x.cls) ρ S) = .no
    · rw [hno] at h2; exact h2.elim
    · rw [← aInd_at a rfl hno] at h2
      exact ⟨x.cls, C, hx, gC, rfl, rfl, w, ρ, S, s, en, h2.nox⟩
  have noo : ∀ {sub : Str → Bool} {c : Str → Addr → FS} {l : List ClF} {D : Ends} {w : Wd} {x : Ex} {ρ : FEnv} {S : Store} {H : Hp}, EndS X.K X.mg w H (clsR x ρ S ((sub, none, c) :: l)) D W → sub x.cls = false → EndS X.K X.mg w H (clsR x ρ S l) D W := by
    intro sub c l D w x ρ S H h hs
    have h' := h
    unfold clsR at h'
    rw [if_neg (by rw [hs]; decide)] at h'
    exact h'
  induction h with
  | nil =>
    refine ⟨[], .nil, fun D w x ρ S σ H cy od hx hn s en ex h => ?_⟩
    exact h w H σ cy od Ext.refl s en ex
  | @plain x sub c b₀ su np q hds l hc hg k r hd ih =>
    obtain ⟨cv, nm, hx1⟩ := hc.names hg hd
    obtain ⟨l', ok', go'⟩ := ih
    refine ⟨([cv], none, tsOf X es c) :: l', .plain nm k.su ok', fun D w x ρ S σ H cy od hx hn s en ex h => ?_⟩
    obtain ⟨C, gC, rfl, rfl⟩ := ex0 hx hn ex
    exact ⟨sub x.cls, exmAny_one (hx1 _ hx _ gC), fun hs a na => yes hx gC s en h hs a na, fun hs => go' D w x ρ S σ H _ _ hx hn s en ex (noo h hs)⟩
  | @two x y sub sub2 c b₀ su np np2 tp q kk hds l hc hc2 hg hg2 k r hd hd2 ih =>
    obtain ⟨cv, nm, hx1⟩ := hc.names hg hd
    obtain ⟨cv2, nm2, hx2⟩ := hc2.names hg2 hd2
    obtain ⟨l', ok', go'⟩ := ih
    refine ⟨([cv, cv2], none, tsOf X es c) :: l', .two nm nm2 k.su ok', fun D w x ρ S σ H cy od hx hn s en ex h => ?_⟩
    obtain ⟨C, gC, rfl, rfl⟩ := ex0 hx hn ex
    exact ⟨sub x.cls || sub2 x.cls, exmAny_two (hx1 _ hx _ gC) (hx2 _ hx _ gC), fun hs a na => yes hx gC s en h hs a na, fun hs => go' D w x ρ S σ H _ _ hx hn s en ex (noo h hs)⟩
end
end Kw
namespace Kw
open PySem PySem.Spec PyProof.Rows L2
/-- classes that are asked for, by their names -/
inductive IsL (X : Cx) (ys : List Str) : List Expr → (Str → Bool) → Prop
  | nil : IsL X ys [] fun _ => false
  | cons {x : Str} {p : Pos} {es : List Expr} {sub sub2 : Str → Bool} (hg : Gl X x) (h : ∀ y ∈ ys, IsxO X.K X.mg y x (sub y)) (t : IsL X ys es sub2) (hd : (x == ("__debug__" : Str)) = false := by decide)
      (hs : starEach (.Name x p :: es) X.env = (false, eval (.Name x p) X.env) :: starEach es X.env := by rfl) : IsL X ys (.Name x p :: es) fun y => sub y || sub2 y
theorem IsL.get {X : Cx} {ys : List Str} {es : List Expr} {sub : Str → Bool} (h : IsL X ys es sub) (hne : ys ≠ []) : ∃ Bs : List Addr, es.length = Bs.length ∧ PA X es (fun _ H Q => Q (Bs.map V.ref) H) ∧ Paired ClsV (Bs.map V.ref) (Bs.map Value.ref) ∧ ∀ y ∈ ys, ∀ C, X.mg y = some (.ref C) → PySem.W.kitAny X.K (.ref C) (Bs.map Value.ref) = some (sub y) := by
  induction h with
  | nil => exact ⟨[], rfl, pa_nil, .nil, fun _ _ _ _ => rfl⟩
  | @cons x p es sub sub2 hg h t hd hs ih =>
    obtain ⟨Bs, l, pa, pr, k⟩ := ih
    obtain ⟨y0, hy0⟩ := List.exists_mem_of_ne_nil ys hne
    obtain ⟨C0, B, _, mB, _⟩ := h y0 hy0
    have n1 : PE X (.Name x p) (tC (.ref B)) := pe_glob hg mB rfl hd
    refine ⟨B :: Bs, by simp [l], pa_cons n1 pa hs, .cons (.own B) pr, fun y hy C hC => ?_⟩
    obtain ⟨C1, B1, m1, m2, e⟩ := h y hy
    cases hC.symm.trans m1
    cases mB.symm.trans m2
    have := k y hy C hC
    show PySem.W.kitAny X.K (.ref C) (.ref B :: Bs.map Value.ref) = _
    unfold PySem.W.kitAny
    rw [e]
    cases hs2 : sub y with
    | true => simp [hs2]
    | false => simpa [hs2] using this
end Kw
namespace Kw
open PySem PySem.Spec PyProof.Rows L2
end Kw
namespace PySem
end PySem
namespace PySem.W
open PySem PySem.Spec PySem.Calls PyProof.Rows
end PySem.W
namespace Kw
open PySem PySem.Spec PySem.Calls PyProof.Rows L2
end Kw
namespace L2
open PySem PySem.Spec PyProof.Rows
section
variable {X : Cx}
theorem lc_coreI {pins : List (Addr × Obj)} {s : Shared} {σ : St} {H : Hp} {Q : VK} {elt tg iter : Expr} {ifs : List Expr} {scope : Scope} {own : List (Str × Nat)} {pos pos' : Pos} {wi : TI} {g : TG} {tt : TT} {te : TE} {use : Option (Value → Sem Unit)} {Qf : Value → Shared → Prop}
    (hc : X.calm = true) (hN : X.N.Nodup) (I : Inv X pins σ H s) (hi : PI X tg iter wi) (ok : BlkOk X.N X.env.scope scope own)
    (hg : ∀ (s : Shared) (H : Hp) (C : Addr) (cl : List (Str × Addr)) (fp : List Addr), PG (X.blk s H scope (compEnvC scope cl C X.env) fp) tg g) (ht : ∀ (s : Shared) (H : Hp) (C : Addr) (cl : List (Str × Addr)) (fp : List Addr), PTs (X.blk s H scope (compEnvC scope cl C X.env) fp) ifs tt)
    (he : ∀ (s : Shared) (H : Hp) (C : Addr) (cl : List (Str × Addr)) (fp : List Addr), Inv X pins σ H s → (∀ b ∈ fp, FpOk X pins H b ∧ b < s.heap.objs.size) → ∀ (pins' : List (Addr × Obj)) (s' : Shared) (σ8 : St) (H8 : Hp) (Q : VK), Inv (X.blk s H scope (compEnvC scope cl C X.env) fp) pins' σ8 H8 s' → wipe σ8 (own.map (·.2)) = wipe σ (own.map (·.2)) → te σ8 H8 Q →
      wpAny (model X.prog X.w) X.A (eval elt (compEnvC scope cl C X.env)) (EP (X.blk s H scope (compEnvC scope cl C X.env) fp) pins' σ8 Q) (fun _ _ => False) s') (hs : ∀ x, foldedSetIterable iter X.env x = pure x)
    (h : tLc wi g tt te (own.map (·.2)) σ H Q)
    (hRR : ∀ D C s' m H', Inv X pins σ H' s' → Q (.ref D) H' → s'.heap.Ns C m → FpOk X pins H' C → compPost (model X.prog X.w) X.A X.xe use Qf (.ref D) C (.ok .next) s') :
    wpAny (model X.prog X.w) X.A (comprehension (.ListComp elt [⟨tg, iter, ifs, 0⟩] scope pos) scope X.env pos' (newList []) false (eval iter X.env) use) Qf X.xe s := by
  have hfree : ∀ y ∈ scope.names, y.2 = .free → ∃ c, X.env.cells.lookup y.1 = some c := fun y hy e => by
    rcases ok.free y hy e with k | k
    · exact I.ok.has _ (.inl k)
    · exact I.ok.has _ (.inr k)
  refine wpAny_comprehension_free (use := use) rfl hs (closure_ok hfree) ok.kind (fun y hy e => by rw [ok.uniq y hy, e])
    (thn (hi.run pins s σ H _ I h) fun xv s1 hx => thn hx fun itv s2 h2 => ?_)
  obtain ⟨it, fp, tn, J, H2, e, I2, T, st2, f2, q⟩ := h2
  subst e
  refine wpAny_newObj_type (newEnv_comp ?_) (by show 0 ≤ sizeLine; decide)
  generalize hD : s2.heap.objs.size = D
  have hDn : H2 D = none := I2.hok.fresh (Nat.le_of_eq hD)
  obtain ⟨W, ⟨m0, w0⟩, turn⟩ := q D hDn
  -- the new list
  generalize hs3 : ({ s2 with heap := s2.heap.push { cls := .type "list", data := .seq ([] : List Value).toArray } } : Shared) = s3
  have I3 : Inv X pins σ (upd H2 D (.lst [])) s3 := by
    rw [← hs3]
    refine I2.laid (t' := s2.toks) (fun b o e => Heap.get?_push_of_some _ e) (Nat.le_of_eq hD) ⟨Nat.zero_le _, [], 0, .nil, ?_⟩
    rw [← hD]
    exact Heap.get?_push_size _ rfl
  have h3 : s3.heap = s2.heap.push { cls := .type "list", data := .seq ([] : List Value).toArray } := by rw [← hs3]
  have sz : ∀ b ∈ fp, b < s2.heap.objs.size := fun b hb => by
    obtain ⟨o, e, _⟩ := T.obj _ _ st2 b hb
    exact Heap.lt_size e
  have f3 : ∀ b ∈ fp, FpOk X pins (upd H2 D (.lst [])) b ∧ b < s3.heap.objs.size := fun b hb => by
    have hlt := sz b hb
    refine ⟨⟨?_, (f2 b hb).2⟩, by rw [h3, Heap.size_push]; exact Nat.lt_succ_of_lt hlt⟩
    rw [upd_ne (by rw [← hD]; exact Nat.ne_of_lt hlt)]
    exact (f2 b hb).1
  have st3 : tn 0 s3.heap := T.keep _ _ _ st2 fun b _ o e => by rw [h3]; exact Heap.get?_push_of_some _ e
  have I4 := block_start I3 ok hN f3
  have pg := hg s3 (upd H2 D (.lst [])) s3.heap.objs.size (cellsFrom (s3.heap.objs.size + 1) scope.names (cloFrom X.env.cells scope.names [])) fp
  have pt := ht s3 (upd H2 D (.lst [])) s3.heap.objs.size (cellsFrom (s3.heap.objs.size + 1) scope.names (cloFrom X.env.cells scope.names [])) fp
  have pe := he s3 (upd H2 D (.lst [])) s3.heap.objs.size (cellsFrom (s3.heap.objs.size + 1) scope.names (cloFrom X.env.cells scope.names [])) fp I3 f3
  show codeAny _ _ (.compStart (.ListComp elt [⟨tg, iter, ifs, 0⟩] scope pos) 0 (.ref it) (.ref D) (compEnvC scope (cellsFrom (s3.heap.objs.size + 1) scope.names (cloFrom X.env.cells scope.names [])) s3.heap.objs.size X.env)) (compPost (model X.prog X.w) X.A X.xe use Qf (.ref D) s3.heap.objs.size) { s3 with heap := pushCells (s3.heap.push { cls := .type "dict", data := .dict #[] }) scope.names }
  have nfp : ∀ b ∈ fp, (upd H2 D (.lst [])) b = none := fun b hb => (f3 b hb).1.1
  generalize hce : compEnvC scope (cellsFrom (s3.heap.objs.size + 1) scope.names (cloFrom X.env.cells scope.names [])) s3.heap.objs.size X.env = ce at I4 pg pt pe ⊢
  have cL : ce.locals = s3.heap.objs.size := by subst hce; rfl
  generalize hH3 : upd H2 D (.lst []) = H3 at I3 I4 pg pt pe w0 nfp f3
  generalize hs4 : ({ s3 with heap := pushCells (s3.heap.push { cls := .type "dict", data := .dict #[] }) scope.names } : Shared) = s4 at I4 ⊢
  have st4 : tn 0 s4.heap := T.keep _ _ _ st3 fun b _ o e => by rw [← hs4]; exact pushCells_keeps _ _ _ _ (Heap.get?_push_of_some _ e)
  have stat : ∀ {σ' : St} {H' : Hp} {s' : Shared}, Inv (X.blk s3 H3 scope ce fp) [] σ' H' s' → (∀ b ∈ fp, H' b = none) → ∀ b ∈ fp, FpOk (X.blk s3 H3 scope ce fp) [] H' b := fun {σ' H' s'} I' hn b hb =>
    ⟨hn b hb, (I'.ok.exf b hb).1, I'.ok.exfs b hb, .inl hb, fun x c e => (I'.ok.exf b hb).2 x c e, fun p hp => absurd (show p ∈ ([] : List (Addr × Obj)) ++ [] from hp) (by simp)⟩
  have loop : codeAny (model X.prog X.w) X.A (.compLoop (.ListComp elt [⟨tg, iter, ifs, 0⟩] scope pos) 0 (.ref it) (.ref D) ce) (compPost (model X.prog X.w) X.A X.xe use Qf (.ref D) s3.heap.objs.size) s4 := by
    refine compLoop_any (fun n s' => ∃ i H', Inv (X.blk s3 H3 scope ce fp) [] (wipe σ (own.map (·.2))) H' s' ∧ tn i s'.heap ∧ (∀ b ∈ fp, H' b = none) ∧ W i n H') ?_ m0 ⟨0, H3, I4, st4, nfp, w0⟩
    rintro n s5 ⟨i, H5, I5, st5, n5, w5⟩
    rcases turn i n H5 w5 with ⟨stop, qq⟩ | ⟨go, Nx, hNx, step⟩
    · have td := T.done (X.blk s3 H3 scope ce fp) rfl rfl rfl hc i [] s5 _ H5 (fun _ _ => False) I5 (stat I5 n5) st5 stop
      refine thnF td fun r s6 ⟨hr, I6⟩ => ?_
      subst hr
      -- back in the def's context
      have I7 : Inv X pins σ H5 s6 := I3.call' (ch := fp) I6.os I6.base I6.hok I6.bare fun b hb => ⟨(f3 b hb).1.2.2.2.1, (f3 b hb).1.2.1, (f3 b hb).1.2.2.2.2.1, (f3 b hb).1.2.2.2.2.2⟩
      have nC : H5 s3.heap.objs.size = none := by
        have z : H5 ce.locals = none := I6.free
        rw [cL] at z
        exact z
      obtain ⟨m, hn, _⟩ := I6.loc
      have hn : s6.heap.Ns ce.locals m := hn
      rw [cL] at hn
      exact hRR D s3.heap.objs.size s6 m H5 I7 qq hn (I3.fpOk (Nat.le_refl _) nC)
    · have ti := T.item (X.blk s3 H3 scope ce fp) rfl rfl rfl hc i [] s5 _ H5 (fun _ _ => False) I5 (stat I5 n5) st5 go
      refine thnF ti fun r s6 ⟨u, hr, h6⟩ => ?_
      subst hr
      refine thnF h6 fun _ s7 ⟨x, H7, I7, r7, y7, st7, n7⟩ => ?_
      have I7' := I7.pinned (stat I7 n7) (T.obj _ _ st7)
      refine thnF (pg.run _ s7 _ H7 x u _ I7' r7 (step x H7 y7)) fun _ s8 ⟨σ8, H8, I8, hw8, q8⟩ => ?_
      refine thnF (pt.run _ s8 σ8 H8 _ I8 q8) fun b s9 ⟨H9, I9, q9⟩ => ?_
      -- the turn's end
      have fin : ∀ {s' : Shared} {H' : Hp}, Inv (X.blk s3 H3 scope ce fp) ([] ++ pinsAt fp s7.heap) σ8 H' s' → Nx H' → ∃ m, m < n ∧ ∃ i H', Inv (X.blk s3 H3 scope ce fp) [] (wipe σ (own.map (·.2))) H' s' ∧ tn i s'.heap ∧ (∀ b ∈ fp, H' b = none) ∧ W i m H' := fun {s' H'} I' nx => by
        obtain ⟨m', hm, w'⟩ := hNx H' nx
        have pin' : ∀ b ∈ fp, ∀ o, s7.heap.get? b = some o → s'.heap.get? b = some o ∧ H' b = none := fun b hb o e =>
          let z := I'.pin (b, o) (List.mem_append_right _ (List.mem_append_right _ (mem_pinsAt hb e)))
          ⟨z.1, z.2.1⟩
        have hl : (wipe σ (own.map (·.2))).length = σ8.length := by rw [← hw8, wipe_length]
        refine ⟨m', hm, i + 1, H', (I'.unpinned (pins := [])).weak hl (fun j v e => ?_), T.keep _ _ _ st7 fun b hb o e => (pin' b hb o e).1, fun b hb => ?_, w'⟩
        · rw [← hw8] at e
          exact (wipe_some e).1
        · obtain ⟨o, e, _⟩ := T.obj _ _ st7 b hb
          exact (pin' b hb o e).2
      cases b with
      | false =>
        simp only [Bool.false_eq_true, if_false] at q9 ⊢
        exact fin I9 q9
      | true =>
        simp only [if_true] at q9 ⊢
        refine thnF (pe _ s9 σ8 H9 _ I9 hw8 q9) fun z s10 ⟨yv, H10, I10, r10, acc, hD10, hz10, nx⟩ => ?_
        exact app_ok (X := X.blk s3 H3 scope ce fp) I10 hD10 hz10 r10 fun s11 I11 => fin I11 nx
  exact codeAny_compStart_list loop (T.self X.A 0 _ _ _ st4 loop)
end
end L2
namespace Kw
open PySem PySem.Spec PySem.Calls PyProof.Rows L2
abbrev Ob := Addr → Value → Value → Obj
/-- the lambda that stands in X -/
def lamOb (X : Cx) (xq : Str) (params : Arguments) (body : Expr) (scope : Scope) : Ob := fun c' pm ctv => PySem.W.kla_obj "<lambda>" (tabQ xq) params body scope (cloFrom X.env.cells scope.names []) pm c' ctv
open Classical in
noncomputable def fLam (j : Nat) (xq : Str) (i : Nat) (ob : Ob) : FE := fun _ S => if S[j]? = some (.tab xq) then .ok (.lam i (tabQ xq) ob) S else .no
section
variable {X : Cx} {pins : List (Addr × Obj)} {σ : L2.St} {H : Hp} {s : Shared}
/-- a lambda is made; the object is kept -/
theorem lam_mkV {c P : Addr} {q : Str} {ps : Array Value} {params : Arguments} {body : Expr} {scope : Scope} {pos : Pos} {E Q : Value → Shared → Prop} (I : Inv X pins σ H s) (TB : LamX.TabB X.base X.mg c P) (hcode : X.env.code = .ref c) (hq : X.env.qual ++ "<lambda>" = q)
    (hP : H P = some (.tbl ps)) (tri : TriplesOk ps.toList) (among : ∀ (p : Pos) (cv : Value), codeAmong p ps.toList = some cv → ∃ c, cv = .ref c ∧ H c = some (LamX.CodeO c q)) (hdef : defaultsOf params X.env = ([], [])) (hfree : ∀ y ∈ scope.names, y.2 = .free → ∃ c, X.env.cells.lookup y.1 = some c)
    (k : ∀ (f c' : Addr) (pm ctv : Value) (H1 : Hp) (s' : Shared), Inv X pins σ (upd H1 f (LamO f (PySem.W.kla_obj "<lambda>" q params body scope (cloFrom X.env.cells scope.names []) pm c' ctv))) s' → LamH q P ps H H1 c' → H1 f = none → (∃ ps1 : Array Value, H1 P = some (.tbl ps1) ∧ TriplesOk ps1.toList ∧ codeAmong pos ps1.toList = some (.ref c')) → Q (.ref f) s') :
    wpAny (model X.prog X.w) X.A (eval (.Lambda params body scope pos) X.env) Q E s := by
  subst hq
  have kb := TB.bm.keeps I.bk
  have kc := TB.code.keeps I.bk
  have kg := I.mod.glob.keeps I.bk
  have gP : s.heap.get? P = some { cls := .none, data := .fields ps } := I.hok P _ hP
  have okL : ∀ {H : Hp} {h : Heap} {f : Addr} {o : Obj}, h.get? f = some o → ObjOk X.prog X.w H h f (LamO f o) := fun {H h f o} e => ⟨e, ⟨_, e⟩, fun h1 h2 z k => k _ z⟩
  refine PySem.W.kla_eval hdef ?_
  rcases hc : codeAmong pos ps.toList with _ | cv
  · refine PySem.W.kla_makeFunction (c := c) (P := P) (ps := ps) (mg := X.mg) (closure_ok hfree) I.ok.glob kg hcode kc gP tri hc TB.gP kb ?_
    intro c' ctv h' tk hx hge hlt hrec htb
    obtain ⟨c2, oc, vs, t, e2, hoc, hd, hv⟩ := hrec
    cases e2
    have fr : H c' = none := I.hok.fresh hge
    have sz : s.heap.objs.size ≤ h'.objs.size := Nat.le_trans hge (Nat.le_of_lt hlt)
    have np : P ≠ c' := L2.ne_of_none hP fr
    have J := LamX.inv_table (t' := tk) (more := #[rawInt pos.line, rawInt pos.col, .ref c']) (h' := h') I hP (fun b o hb e => hx b o hb e) htb hge ⟨oc, vs, t, hoc, hd, hv⟩
    have eT : (ps ++ #[rawInt pos.line, rawInt pos.col, .ref c']).toList = ps.toList ++ [rawInt pos.line, rawInt pos.col, .ref c'] := by simp
    have h1 : h'.objs.size ≠ c' := fun z => Nat.ne_of_gt hlt z
    have h2 : h'.objs.size ≠ P := fun z => Nat.ne_of_gt (Nat.lt_of_lt_of_le (Heap.lt_size gP) sz) z
    have J2 := J.laid (t' := tk) (a := h'.objs.size) (o := LamO h'.objs.size (PySem.W.kla_obj "<lambda>" (X.env.qual ++ "<lambda>") params body scope (cloFrom X.env.cells scope.names []) ((X.mg "__name__").getD .none) c' ctv)) (h' := h'.push (PySem.W.kla_obj "<lambda>" (X.env.qual ++ "<lambda>") params body scope (cloFrom X.env.cells scope.names []) ((X.mg "__name__").getD .none) c' ctv)) (fun b o e => Heap.get?_push_of_some _ e) (Nat.le_refl _) (okL (Heap.get?_push_size _ rfl))
    refine k h'.objs.size c' _ ctv _ _ J2 (.inr ⟨_, fr, fun z => np z.symm, rfl, ?_, ?_⟩) ?_ ⟨_, by rw [upd_ne np, upd_same], by rw [eT]; exact PySem.TriplesOk_snoc _ _ _ _ tri, by rw [eT]; exact PySem.codeAmong_snoc _ tri hc⟩
    · rw [eT]; exact PySem.TriplesOk_snoc _ _ _ _ tri
    · intro p' cv hcv
      rw [eT] at hcv
      exact LamX.among_app _ tri hcv
    · rw [upd_ne h1, upd_ne h2]
      exact I.hok.fresh sz
  · obtain ⟨c', e, hco⟩ := among pos cv hc
    subst e
    refine PySem.W.kla_makeFunctionHit (c := c) (P := P) (ps := ps) (mg := X.mg) (closure_ok hfree) I.ok.glob kg hcode kc gP tri hc kb ?_
    intro ctv h' tk hx hsz
    have J : Inv X pins σ (upd H h'.objs.size (LamO h'.objs.size (PySem.W.kla_obj "<lambda>" (X.env.qual ++ "<lambda>") params body scope (cloFrom X.env.cells scope.names []) ((X.mg "__name__").getD .none) c' ctv))) { s with heap := h'.push (PySem.W.kla_obj "<lambda>" (X.env.qual ++ "<lambda>") params body scope (cloFrom X.env.cells scope.names []) ((X.mg "__name__").getD .none) c' ctv), toks := tk } :=
      I.laid (t' := tk) (a := h'.objs.size) (fun b o e => Heap.get?_push_of_some _ (hx b o e)) hsz (okL (Heap.get?_push_size _ rfl))
    exact k _ c' _ ctv H _ J (.inl ⟨rfl, hco⟩) (I.hok.fresh hsz) ⟨ps, hP, tri, hc⟩
end
section
variable {X : Cx} {W : WX}
theorem q_lamv {j i : Nat} {xq : Str} {params : Arguments} {body : Expr} {scope : Scope} {lpos : Pos} (hT : TbF X.K X.mg X.base xq X.env.code) (hq : X.env.qual ++ "<lambda>" = tabQ xq) (L : LamX.LamS X.env.scope scope) (hdef : defaultsOf params X.env = ([], [])) :
    PE X (.Lambda params body scope lpos) (tF X W (fLam j xq i (lamOb X xq params body scope))) := by
  refine ⟨fun pins s σ H Q I ⟨w, ρ, S0, s0, en, h⟩ => ?_⟩
  obtain ⟨c, P, hti, TB, hcode⟩ := hT
  unfold fLam at h
  split at h
  case isFalse => exact h.elim
  rename_i hj
  obtain ⟨c0, P0, t0, hφ, tw⟩ := s0.cell j _ hj
  rw [hti] at t0; cases t0
  obtain ⟨tps, tp1, tp2, tp3⟩ := tw
  refine lam_mkV (c := c) (P := P) I TB hcode hq tp1 tp2 (fun pos cv z => by
    obtain ⟨c1, z1, z2, _⟩ := tp3 pos cv z
    exact ⟨c1, z1, z2⟩) hdef (L.has I.ok) fun f c' pm ctv H1 s' I1 lm hfn ht => ?_
  obtain ⟨x1, s1⟩ := lam_sto s0 hj hφ tp1 lm
  obtain ⟨ps1, hP1, tri1, ham⟩ := ht
  obtain ⟨c2, P2, t2, hφ2, tw2⟩ := s1.cell j _ hj
  rw [hti] at t2; cases t2
  obtain ⟨tps2, tp21, tp22, tp23⟩ := tw2
  rw [hP1] at tp21; cases tp21
  obtain ⟨c3, e3, z3, o3⟩ := tp23 _ _ ham
  cases e3
  have x2 : Ext w H1 w (upd H1 f (LamO f (PySem.W.kla_obj "<lambda>" (tabQ xq) params body scope (cloFrom X.env.cells scope.names []) pm c' ctv))) := Ext.new hfn
  refine ⟨.ref f, _, I1, rfl, ?_⟩
  refine h w _ _ (x1.trans x2) (s1.beside hfn) ?_
  show Rp _ _ _ _ (.lam i (tabQ xq) _) _
  unfold Rp
  exact ⟨f, c', pm, ctv, rfl, upd_same, s1.new hfn, x2.fr _ _ z3 o3.1, x2.out z3 o3⟩
end
open Classical in
/-- asks the lambda that was handed in, made in the environment σ, whose tree is the cell n -/
noncomputable def fActV (n i : Nat) (q : Str) (ob : Ob) (σ : L2.St) (tb : FE) : FE := fun ρ S => match ρ[0]? with
  | some (some (Kw.D.lam i' q' ob')) => if i' = i ∧ q' = q ∧ ob' = ob then (match S[n]? with
    | some (.gst ρc σc) => if σc = σ then tb ρc S else .no
    | _ => .no) else .no
  | _ => .no
section
variable {X : Cx} {pins : List (Addr × Obj)} {σ : L2.St} {H : Hp} {s : Shared}
theorem act_peV {CXg : CXT} {Eg : XK} {Ng : List Str} {qg : Str} {sg : Scope} {g : Addr} {cdg : Value} {params : Arguments} {body : Expr} {scope : Scope} {k : Nat} {n i : Nat} {a x : Str} {pn : List (Addr × Obj)} {xe : Value → Shared → Prop} {W : WX} {tb : FE} {p1 p2 : Pos}
    (I : Inv X pins σ H s) (L : LamX.LamS X.env.scope scope) (hq : X.env.qual ++ "<lambda>" = tabQ x)
    (hbind : ∀ (cl : List (Str × Addr)) (pm cv ctv : Value), bindArgs (PySem.W.kla_fn "<lambda>" (tabQ x) params body scope cl pm cv ctv) ⟨[], []⟩ = pure [])
    (tk : Takes ((cxOf CXg X.prog X.w X.K X.mg X.base Ng qg sg g cdg X.A X.stack s H Eg).tr pn xe) W) (hr : RoomG (k + 1) (X.A.deeper (envOfC qg sg s.heap.objs.size g cdg)))
    (hbody : ∀ (A : Around) (outer : List Env) (s : Shared) (H : Hp) (E : XK) (f c' : Addr), RoomG k (A.deeper (LamX.lamEnv X scope s.heap.objs.size f c')) → PE (LamX.lamCx X A outer s H E scope f c') body (tF (LamX.lamCx X A outer s H E scope f c') (fun c d _ H => E c d H) tb))
    (hN : Ng[0]? = some a) (hv : Vis sg a) (hd : (a == ("__debug__" : Str)) = false := by decide) (hcd : (a == ("__classdict__" : Str)) = false := by decide) :
    PE ((cxOf CXg X.prog X.w X.K X.mg X.base Ng qg sg g cdg X.A X.stack s H Eg).tr pn xe) (.Call (.Name a p1) [] [] p2)
      (tF ((cxOf CXg X.prog X.w X.K X.mg X.base Ng qg sg g cdg X.A X.stack s H Eg).tr pn xe) W (fActV n i (tabQ x) (lamOb X x params body scope) σ tb)) := by
  refine ⟨fun pinsZ sZ σZ HZ Q IZ h => ?_⟩
  obtain ⟨w, ρ, S, s0, en, hE⟩ := h
  unfold fActV at hE
  split at hE
  case h_2 => exact hE.elim
  rename_i i' q' ob' hρ
  split at hE
  case isFalse => exact hE.elim
  rename_i hk
  obtain ⟨ei, eq, eo⟩ := hk
  subst ei eq eo
  split at hE
  case h_2 => exact hE.elim
  rename_i ρc σc hn
  split at hE
  case isFalse => exact hE.elim
  rename_i es
  subst es
  obtain ⟨v0, hs, hv0⟩ := en.at_ 0 _ hρ
  unfold Rp at hv0
  obtain ⟨f', c', pm, ctv, ev0, hf0, off0, hc0, offc⟩ := hv0
  subst ev0
  have enc := (s0.cell n _ hn).2
  refine wpAny_Call_Name_kw (thn ((pe_var (pos := p1) (i := 0) hN hv hd hcd).run pinsZ sZ σZ HZ (fun v H1 => v = .ref f' ∧ H1 = HZ) IZ ⟨.ref f', hs, rfl, rfl⟩) fun u s1 ⟨v, H1, I1, r1, q1⟩ => ?_)
  obtain ⟨ev, eH⟩ := q1
  subst ev
  rw [eH] at I1
  obtain rfl : u = Value.ref f' := r1
  have of1 : s1.heap.get? f' = some (PySem.W.kla_obj "<lambda>" (tabQ x) params body scope (cloFrom X.env.cells scope.names []) pm c' ctv) := (show _ ∧ _ from I1.hok f' _ hf0).1
  refine PySem.W.callWith_F0 ⟨_, _, _, _, of1⟩ ?_
  have un : Un (frs X.stack) [] H HZ s.heap s1.heap := I1.base
  obtain ⟨⟨oc, vs, t, hoc, hdc, hvc⟩, _, _⟩ := I1.hok c' _ hc0
  have rc : codeAny (model X.prog X.w) (X.A.deeper (envOfC qg sg s.heap.objs.size g cdg)) (.call (.ref f') ⟨[], []⟩) (CR (L2.CX X.prog X.w) (envOfC qg sg s.heap.objs.size g cdg :: X.stack) X.prog X.w HZ s1 Q (WE W σZ)) s1 := by
    refine PySem.W.kla_callFunE hr.rm.depth of1 rfl L.co L.gen rfl ⟨c', oc, vs, t, rfl, hoc, hdc, hvc⟩ ?_
    rw [hbind]
    refine wpAny_pure (wpAny_newFunctionEnv (fun y hy => (L.own y hy).2) (fun y hy => absurd hy (by simp)) (fun h₁ hns hsb => ⟨I1.nolimit.fresh _ hsb, ?_⟩) L.kind)
    rw [← hq]
    show codeAny _ _ (.expr body (LamX.lamEnv X scope s1.heap.objs.size f' c')) _ _
    have kp : ∀ b o, s1.heap.get? b = some o → h₁.get? b = some o := fun b o e => hsb.extBut b o (Nat.ne_of_lt (Heap.lt_size e)) (Heap.get?_push_of_some _ e)
    have JJ : Inv (LamX.lamCx X (X.A.deeper (envOfC qg sg s.heap.objs.size g cdg)) (envOfC qg sg s.heap.objs.size g cdg :: X.stack) s1 HZ (WE W σZ) scope f' c') [] σc HZ { s1 with heap := h₁, toks := s1.toks + ([] : List (Str × Value)).length } :=
      LamX.lam_start2 I L I1.env0 hr.rm.hd un hns kp
    refine PySem.W.kla_codeExpr (wpAny_mono ((hbody _ _ s1 HZ _ f' c' (hr.down _)).run [] _ _ HZ Q JJ ⟨w, ρc, S, s0, enc, hE⟩) (fun v s' hq => ?_) fun e s' hq => hq)
    obtain ⟨w', H', J', rv, q⟩ := hq
    exact ⟨w', H', J'.os, J'.bare, J'.base, J'.hok, rv, q⟩
  refine wpAny_call (codeAny_mono rc fun r s' hq => ?_)
  cases r with
  | error e => exact passAt tk σZ pinsZ HZ s1 e s' I1 hq
  | ok fl =>
    cases fl with
    | ret u => exact I1.after hq
    | next => exact False.elim hq
    | brk => exact False.elim hq
    | cont => exact False.elim hq
end
/-- the lambdas that may be asked, each with its body's tree function -/
def LamV (X : Cx) (k : Nat) (xq : Str) (ob : Ob) (tb : FE) : Prop := ∃ (params : Arguments) (body : Expr) (scope : Scope), ob = lamOb X xq params body scope ∧ LamX.LamS X.env.scope scope ∧ (∀ (cl : List (Str × Addr)) (pm cv ctv : Value), bindArgs (PySem.W.kla_fn "<lambda>" (tabQ xq) params body scope cl pm cv ctv) ⟨[], []⟩ = pure []) ∧
  ∀ (A : Around) (outer : List Env) (s : Shared) (H : Hp) (E : XK) (f c' : Addr), RoomG k (LamX.lamCx X A outer s H E scope f c').A → Takes (LamX.lamCx X A outer s H E scope f c') (fun c d _ H => E c d H) → PE (LamX.lamCx X A outer s H E scope f c') body (tF (LamX.lamCx X A outer s H E scope f c') (fun c d _ H => E c d H) tb)
def LamVs (X : Cx) (k : Nat) (xq : Str) (tbs : List (Ob × FE)) : Prop := ∀ (i : Nat) ob tb, tbs[i]? = some (ob, tb) → LamV X k xq ob tb
theorem lamVs_nil {X : Cx} {k : Nat} {xq : Str} : LamVs X k xq [] := fun i ob tb h => by simp at h
theorem lamVs_cons {X : Cx} {k : Nat} {xq : Str} {ob : Ob} {tb : FE} {r : List (Ob × FE)} (h : LamV X k xq ob tb) (t : LamVs X k xq r) : LamVs X k xq ((ob, tb) :: r)
  | 0, ob', tb', e => by cases e; exact h
  | i + 1, ob', tb', e => t i ob' tb' (by simpa using e)
theorem lamV_mk {X : Cx} {k : Nat} {xq : Str} {tb : FE} {body : Expr} {scope : Scope} (L : LamX.LamS X.env.scope scope)
    (hbody : ∀ (A : Around) (outer : List Env) (s : Shared) (H : Hp) (E : XK) (f c' : Addr), RoomG k (LamX.lamCx X A outer s H E scope f c').A → Takes (LamX.lamCx X A outer s H E scope f c') (fun c d _ H => E c d H) → PE (LamX.lamCx X A outer s H E scope f c') body (tF (LamX.lamCx X A outer s H E scope f c') (fun c d _ H => E c d H) tb)) :
    LamV X k xq (lamOb X xq noPar body scope) tb := ⟨noPar, body, scope, rfl, L, fun _ _ _ _ => lam_bind0, hbody⟩
open Classical in
noncomputable def gThunkV (q : Str) (nG : Nat) (bg : FE → FS) (tbs : List (Ob × FE)) (ρw : FEnv) (d : D) (S1 : Store) : RE D := match d with
  | .lam i q' ob => (match tbs[i]? with
    | some (ob', tb) => if q' = q ∧ ob = ob' then aInd2 fun _ σ => cutR S1 ((bg (fActV S1.length i q ob σ tb) ([Kw.D.lam i q ob].map some ++ List.replicate (nG - 1) none) (S1 ++ [.gst ρw σ])).fin) else .no
    | none => .no)
  | _ => .no
noncomputable def fThunkV (q : Str) (nG : Nat) (bg : FE → FS) (tbs : List (Ob × FE)) (vs : List Nat) (fe : FE) : FE := fun ρ S => (fe ρ S).bnd (gThunkV q nG bg tbs (wipeR ρ vs))
theorem unwipe {K : PySem.W.Frag} {mg : Str → Option Value} {w : Wd} {H : Hp} {ρ : FEnv} {σ : L2.St} {vs : List Nat} (en : EnvR K mg w H ρ (wipe σ vs)) : EnvR K mg w H ρ σ :=
  ⟨en.len.trans (wipe_length σ vs), fun i d h => by
    obtain ⟨v, h1, h2⟩ := en.at_ i d h
    exact ⟨v, (wipe_some h1).1, h2⟩⟩
section
variable {X : Cx} {W : WX}
theorem thunkB {x a xq : Str} {st : Stmt} {Ng : List Str} {k : Nat} {bg : FE → FS} {tbs : List (Ob × FE)} {e : Expr} {fe : FE} {p pos : Pos} {scope0 : Scope} {ce : Env} {fp : List Addr} {vs : List Nat} {pins pins3 : List (Addr × Obj)} {s3 s8 : Shared} {σ3 σ8 : L2.St} {H3 H8 : Hp} {Q : VK} (T : TF X.K X.mg x st [a]) (S : FnScope Ng [a] (defScope st)) (hN : Ng[0]? = some a) (hva : Vis (defScope st) a)
    (hG : ∀ (act : FE) (g : Addr) (cdv : Value) (A : Around) (outer : List Env) (s : Shared) (H : Hp) (E : XK), RoomG (k + 1) (A.deeper (envOfC x (defScope st) s.heap.objs.size g cdv)) →
      (∀ (pn : List (Addr × Obj)) (xe : Value → Shared → Prop) (W : WX) (p1 p2 : Pos), Takes ((cxOf (L2.CX X.prog X.w) X.prog X.w X.K X.mg X.base Ng x (defScope st) g cdv A outer s H E).tr pn xe) W →
        PE ((cxOf (L2.CX X.prog X.w) X.prog X.w X.K X.mg X.base Ng x (defScope st) g cdv A outer s H E).tr pn xe) (.Call (.Name a p1) [] [] p2) (tF ((cxOf (L2.CX X.prog X.w) X.prog X.w X.K X.mg X.base Ng x (defScope st) g cdv A outer s H E).tr pn xe) W act)) →
      PSs (cxOf (L2.CX X.prog X.w) X.prog X.w X.K X.mg X.base Ng x (defScope st) g cdv A outer s H E) (defBody st) (tS (cxOf (L2.CX X.prog X.w) X.prog X.w X.K X.mg X.base Ng x (defScope st) g cdv A outer s H E) (fun c d _ H => E c d H) (bg act)))
    (hr : RoomG (k + 2) X.A) (hq : X.env.qual ++ "<lambda>" = tabQ xq) (hL : LamVs X k xq tbs)
    (J : Inv X pins3 σ3 H3 s3) (fpk : ∀ b ∈ fp, FpOk X pins3 H3 b ∧ b < s3.heap.objs.size) (I : Inv (X.blk s3 H3 scope0 ce fp) pins σ8 H8 s8) (lk : wipe σ8 vs = wipe σ3 vs) (tk : Takes (X.blk s3 H3 scope0 ce fp) W0)
    (hg : Gl (X.blk s3 H3 scope0 ce fp) x) (he : PE (X.blk s3 H3 scope0 ce fp) e (tF (X.blk s3 H3 scope0 ce fp) W0 fe)) (h : tF X W0 (fThunkV (tabQ xq) Ng.length bg tbs vs fe) σ8 H8 Q)
    (hdb : (x == ("__debug__" : Str)) = false := by decide) (hd : (a == ("__debug__" : Str)) = false := by decide) (hcd : (a == ("__classdict__" : Str)) = false := by decide)
    (hs1 : starEach [e] ce = (false, eval e ce) :: starEach [] ce := by rfl) (hpl : (backTo pos (starEach [] ce)).any (·.1) = false := by rfl) :
    wpAny (model X.prog X.w) X.A (eval (.Call (.Name x p) [e] [] pos) ce) (EP (X.blk s3 H3 scope0 ce fp) pins σ8 Q) (fun _ _ => False) s8 := by
  obtain ⟨w, ρ, S0, s0, en, h⟩ := h
  obtain ⟨g, fd, F, hm, hb⟩ := T
  refine wpAny_Call_Name_kw (env := ce) (ld_glob I hg hm ?_ hdb)
  refine PySem.W.callWith_K (h₀ := X.base) I.ok.mod.kin F.kp (thn ((pa_cons he pa_nil hs1).run pos pins s8 σ8 H8 (fun us H1 => ∃ v, us = [v] ∧ ∃ w1 S1 d, Sto X.K X.mg w1 S1 H1 ∧ EnvR X.K X.mg w1 H1 ρ σ8 ∧ Rp X.K X.mg w1 H1 d v ∧ End X.K X.mg (fun w H => Rp X.K X.mg w H) w1 H1 (gThunkV (tabQ xq) Ng.length bg tbs (wipeR ρ vs) d S1) Q (fun c od H' => W0 c od σ8 H')) I ?_) fun us s1 ⟨vs1, H1, I1, r, v, ev, w1, S1, d, st1, en1, rd, hE⟩ => ⟨I1.kIn, ?_⟩) hs1 hpl
  · refine ⟨w, ρ, S0, s0, en, (End.bind (R := fun w H => Rp X.K X.mg w H) h).imp ?_ (fun _ _ _ z => z)⟩
    rintro v H1 ⟨w1, S1, d, e1, s1, r1, h1⟩
    exact ⟨v, rfl, w1, S1, d, s1, en.ext e1, r1, h1⟩
  subst ev
  obtain ⟨u, us', rfl, ru, rn⟩ : ∃ u us', us = u :: us' ∧ RelV v u ∧ us' = [] := by
    cases r with
    | cons a b => cases b; exact ⟨_, _, rfl, a, rfl⟩
  subst rn
  have J1 : Inv X pins3 σ3 H1 s1 := J.call' (ch := fp) I1.os I1.base I1.hok I1.bare fun b hb => ⟨(fpk b hb).1.2.2.2.1, (fpk b hb).1.2.1, (fpk b hb).1.2.2.2.2.1, (fpk b hb).1.2.2.2.2.2⟩
  unfold gThunkV at hE
  split at hE
  case h_2 => exact hE.elim
  rename_i i q' ob
  split at hE
  case h_2 => exact hE.elim
  rename_i ob' tb hi
  split at hE
  case isFalse => exact hE.elim
  rename_i hk
  obtain ⟨e1, e2⟩ := hk
  subst e1 e2
  unfold aInd2 at hE
  split at hE
  case isFalse => exact hE.elim
  rename_i hind
  obtain ⟨params, body, scope, eo, L, hbind, hbody⟩ := hL i ob tb hi
  have en3 : EnvR X.K X.mg w1 H1 (wipeR ρ vs) σ3 := unwipe (vs := vs) (by rw [← lk]; exact en1.wipe vs)
  have rc : codeAny (model X.prog X.w) X.A (.call (.ref g) ⟨[u], []⟩) (CR (L2.CX X.prog X.w) X.stack X.prog X.w H1 s1 Q (WE W0 σ8)) s1 := by
    refine run_def (N := Ng) (ps := [a]) (us := [u]) (vs := [v]) (b := bg (fActV S1.length i (tabQ xq) ob σ3 tb)) F S hr I1.env0 (binds0 (us := [u]) hb I1.kIn rfl) (.cons ru .nil) (fun cdv hr' => ?_) ?_
    · refine hG _ g cdv X.A X.stack s1 H1 _ hr' fun pn xe W' p1 p2 tk' => ?_
      rw [eo]
      exact act_peV J1 L hq hbind tk' hr' (fun A outer s H E f c' hr2 => hbody A outer s H E f c' hr2 (takes_of rfl rfl rfl rfl)) hN hva hd hcd
    · refine ⟨⟨w1.φ ++ [none], w1.hd⟩, S1 ++ [.gst (wipeR ρ vs) σ3], [.lam i (tabQ xq) ob], ghost_sto st1 en3, RpL.one (Rp.ext ghost_ext _ _ rd), rfl, ?_⟩
      rw [← hind 0 σ3] at hE
      have h2 := End.cutE st1 hE
      refine End.on ghost_ext ?_
      unfold fnB
      rw [if_pos (show ([Kw.D.lam i (tabQ xq) ob] : List Kw.D).length = [a].length from rfl)]
      exact h2
  refine wpAny_call (codeAny_mono rc fun r s2 hq => ?_)
  cases r with
  | error e => exact passAt tk σ8 pins H1 s1 e s2 I1 hq
  | ok fl =>
    cases fl with
    | ret u => exact I1.after hq
    | next => exact False.elim hq
    | brk => exact False.elim hq
    | cont => exact False.elim hq
/-- [x(e) for ..], x a def that asks what it is handed, e a kept lambda -/
theorem q_lcV {c : Bool} {x a xq : Str} {st : Stmt} {Ng : List Str} {k : Nat} {bg : FE → FS} {tbs : List (Ob × FE)} {e : Expr} {fe : FE} {p pos lpos : Pos} {tg iter : Expr} {scope : Scope} {own : List (Str × Nat)} {fi : FI} {g : FG} {sl : List Nat} (T : TF X.K X.mg x st [a]) (S : FnScope Ng [a] (defScope st)) (hNg : Ng[0]? = some a) (hva : Vis (defScope st) a)
    (hG : ∀ (act : FE) (g : Addr) (cdv : Value) (A : Around) (outer : List Env) (s : Shared) (H : Hp) (E : XK), RoomG (k + 1) (A.deeper (envOfC x (defScope st) s.heap.objs.size g cdv)) →
      (∀ (pn : List (Addr × Obj)) (xe : Value → Shared → Prop) (W : WX) (p1 p2 : Pos), Takes ((cxOf (L2.CX X.prog X.w) X.prog X.w X.K X.mg X.base Ng x (defScope st) g cdv A outer s H E).tr pn xe) W →
        PE ((cxOf (L2.CX X.prog X.w) X.prog X.w X.K X.mg X.base Ng x (defScope st) g cdv A outer s H E).tr pn xe) (.Call (.Name a p1) [] [] p2) (tF ((cxOf (L2.CX X.prog X.w) X.prog X.w X.K X.mg X.base Ng x (defScope st) g cdv A outer s H E).tr pn xe) W act)) →
      PSs (cxOf (L2.CX X.prog X.w) X.prog X.w X.K X.mg X.base Ng x (defScope st) g cdv A outer s H E) (defBody st) (tS (cxOf (L2.CX X.prog X.w) X.prog X.w X.K X.mg X.base Ng x (defScope st) g cdv A outer s H E) (fun c d _ H => E c d H) (bg act)))
    (hr : RoomG (k + 2) X.A) (hq : X.env.qual ++ "<lambda>" = tabQ xq) (hL : LamVs X k xq tbs)
    (hc : X.calm = true) (hN : X.N.Nodup) (hi : PI X tg iter (tI X W fi)) (ok : BlkOk X.N X.env.scope scope own) (hsl : ∀ i ∈ sl, i ∈ own.map (·.2))
    (hg : ∀ (s : Shared) (H : Hp) (C : Addr) (cl : List (Str × Addr)) (fp : List Addr), PG (X.blk s H scope (compEnvC scope cl C X.env) fp) tg (tG (X.blk s H scope (compEnvC scope cl C X.env) fp) sl g)) (ht : ∀ (s : Shared) (H : Hp) (C : Addr) (cl : List (Str × Addr)) (fp : List Addr), PTs (X.blk s H scope (compEnvC scope cl C X.env) fp) [] (tT (X.blk s H scope (compEnvC scope cl C X.env) fp) W0 fYes))
    (he : ∀ (s : Shared) (H : Hp) (C : Addr) (cl : List (Str × Addr)) (fp : List Addr), PE (X.blk s H scope (compEnvC scope cl C X.env) fp) e (tF (X.blk s H scope (compEnvC scope cl C X.env) fp) W0 fe)) (hgx : ∀ (s : Shared) (H : Hp) (C : Addr) (cl : List (Str × Addr)) (fp : List Addr), Gl (X.blk s H scope (compEnvC scope cl C X.env) fp) x)
    (hs1 : ∀ (C : Addr) (cl : List (Str × Addr)), starEach [e] (compEnvC scope cl C X.env) = (false, eval e (compEnvC scope cl C X.env)) :: starEach [] (compEnvC scope cl C X.env) := by intros; rfl) (hpl : ∀ (C : Addr) (cl : List (Str × Addr)), (backTo pos (starEach [] (compEnvC scope cl C X.env))).any (·.1) = false := by intros; rfl)
    (hs : ∀ x, foldedSetIterable iter X.env x = pure x := by intro _; rfl) (hdb : (x == ("__debug__" : Str)) = false := by decide) (hd : (a == ("__debug__" : Str)) = false := by decide) (hcd : (a == ("__classdict__" : Str)) = false := by decide) :
    PE X (.ListComp (.Call (.Name x p) [e] [] pos) [⟨tg, iter, [], 0⟩] scope lpos) (tF X W (fLc c fi g fYes (fThunkV (tabQ xq) Ng.length bg tbs (own.map (·.2)) fe) (own.map (·.2)))) := by
  refine ⟨fun pins s σ H Q I h => ?_⟩
  rw [eval_ListComp]
  have h2 : tLc (tI X W fi) (tG X sl g) (tT X W0 fYes) (tF X W0 (fThunkV (tabQ xq) Ng.length bg tbs (own.map (·.2)) fe)) (own.map (·.2)) σ H Q := lc_core' hsl h
  have he2 : ∀ (s : Shared) (H : Hp) (C : Addr) (cl : List (Str × Addr)) (fp : List Addr), Inv X pins σ H s → (∀ b ∈ fp, FpOk X pins H b ∧ b < s.heap.objs.size) → ∀ (pins' : List (Addr × Obj)) (s' : Shared) (σ8 : L2.St) (H8 : Hp) (Q : VK), Inv (X.blk s H scope (compEnvC scope cl C X.env) fp) pins' σ8 H8 s' → wipe σ8 (own.map (·.2)) = wipe σ (own.map (·.2)) → tF X W0 (fThunkV (tabQ xq) Ng.length bg tbs (own.map (·.2)) fe) σ8 H8 Q →
      wpAny (model X.prog X.w) X.A (eval (.Call (.Name x p) [e] [] pos) (compEnvC scope cl C X.env)) (EP (X.blk s H scope (compEnvC scope cl C X.env) fp) pins' σ8 Q) (fun _ _ => False) s' := by
    intro s3 H3 C cl fp I3 f3 pins' s' σ8 H8 Q8 I8 lk h8
    exact thunkB (vs := own.map (·.2)) (tbs := tbs) T S hNg hva hG hr hq hL I3 f3 I8 lk takes0 (hgx _ _ _ _ _) (he _ _ _ _ _) h8 hdb hd hcd (hs1 _ _) (hpl _ _)
  refine lc_coreI hc hN I hi ok hg ht he2 hs h2 fun D C s' m H' I' q hn f => ⟨m, hn, fun h'' sb => ?_⟩
  obtain ⟨f0, f1, f2, f3, f4, f5⟩ := f
  exact ⟨.ref D, H', I'.turned (t' := s'.toks) (fun b o hb e => (sb.2 b hb).trans e) f0 f1 f3 f4 f5, rfl, q⟩
noncomputable def rtCut (S : Store) (r : RS) : RS := match r with
  | .rt d S' => (match cutR S (.ok d S') with
    | .ok d S'' => .rt d S''
    | _ => .no)
  | _ => .no
open Classical in
noncomputable def aObs (F : Ob → Ob → FS) : FS := fun ρ S => if ∀ a b, rtCut S (F a b ρ S) = rtCut S (F (fun _ _ _ => default) (fun _ _ _ => default) ρ S) then rtCut S (F (fun _ _ _ => default) (fun _ _ _ => default) ρ S) else .no
theorem aObs_eq {F : Ob → Ob → FS} {ρ : FEnv} {S : Store} {r : RS} (h : ∀ a b, rtCut S (F a b ρ S) = r) : aObs F ρ S = r := by
  unfold aObs
  rw [if_pos (fun a b => by rw [h, h]), h]
theorem pss_obs {st : List Stmt} {o0 o1 : Ob} {F : Ob → Ob → FS} (h : PSs X st (tS X W (F o0 o1))) : PSs X st (tS X W (aObs F)) :=
  PSs.wk h fun D σ H ⟨w, ρ, S, s, en, hE⟩ => by
    refine ⟨w, ρ, S, s, en, ?_⟩
    unfold aObs at hE
    split at hE
    case isFalse => exact hE.elim
    rename_i hk
    rw [← hk o0 o1] at hE
    cases hF : F o0 o1 ρ S with
    | rt d S' =>
      rw [hF] at hE
      unfold rtCut cutR at hE
      simp only at hE
      by_cases hc : d.under S.length = true ∧ CutOk S S'
      · rw [if_pos hc] at hE
        intro w1 H1 v e s1 r1
        have hl : S.length ≤ w1.φ.length := by rw [s1.len]; exact hc.2.1
        exact hE (w1.cut S.length) H1 v (s.len ▸ e.cut) (Sto.cut s s1 hc.2) (Rp.cut hl d v hc.1 r1)
      · rw [if_neg hc] at hE
        exact hE.elim
    | _ => rw [hF] at hE; exact hE.elim
end
end Kw
namespace Kz
open PySem PySem.Spec PyProof.Rows L2 Kw
def topS (i : Nat) : Stmt := PySem.Challenge.pw_kindswap_k86_names_that_stand_twice.main.body.getD i (.Pass ⟨0, 0, 0, 0⟩)
inductive Fn where
  | f_Loose___init__
  | f_Loose_handed
  | f_Bound___init__
  | f_Bound_handed
  | f_Leaf___init__
  | f_Leaf_got
  | f_Result___init__
  | f_Result_got
  | f_Body___init__
  | f_Body_got
  | f_is_from
  | f_inner_of
  | f_is_kind
  | f_sure_kind
  | f_order_of
  | f_in_order
  | f_wants_with
  | f_plain_form
  | f_form
  | f_alike
  | f_is_base
  | f_is_factor
  | f_is_form
  | f_kind_by
  | f_kind_of
  | f_sure_given
  | f_is_shape
  | f_kind_of_given
  | f_kind_of_two
  | f_kind_in
  | f_sure_kind_in
  | f_term_kind
  | f_opened
  | f_meant
  | f_said
  | f_chain_said
  | f_plain_in
  | f_same
  | f_put_back
  | f_factors_from
  | f_parts
  | f_built
  | f_turner
  | f_lifted
  | f_is_of
  | f_goes_round
  | f_turn_fault
  | f_is_library
  | f_sure_library
  | f_without
  | f_with_more
  | f_left_to_hand_in
  | f_wished_from
  | f_search
  | f_search_fault
  | f__law_well
  | f__law_draw
  | f__law_library
  | f__law_twice
  | f_law
def methS (i j : Nat) : Stmt := match topS i with
  | .ClassDef _ _ _ body _ _ _ _ _ _ _ => body.getD j (.Pass ⟨0, 0, 0, 0⟩)
  | s => s
abbrev s_Loose___init__ : Stmt := methS 50 0
theorem sc_Loose___init__ : FnScope ["self", "kind", "chain"] ["self", "kind", "chain"] (defScope s_Loose___init__) := ⟨rfl, rfl, rfl, by decide +kernel, rfl, by decide +kernel, by decide +kernel⟩
abbrev s_Loose_handed : Stmt := methS 50 1
theorem sc_Loose_handed : FnScope ["self", "thing"] ["self", "thing"] (defScope s_Loose_handed) := ⟨rfl, rfl, rfl, by decide +kernel, rfl, by decide +kernel, by decide +kernel⟩
abbrev s_Bound___init__ : Stmt := methS 51 0
theorem sc_Bound___init__ : FnScope ["self", "body", "things"] ["self", "body", "things"] (defScope s_Bound___init__) := ⟨rfl, rfl, rfl, by decide +kernel, rfl, by decide +kernel, by decide +kernel⟩
abbrev s_Bound_handed : Stmt := methS 51 1
theorem sc_Bound_handed : FnScope ["self", "thing"] ["self", "thing"] (defScope s_Bound_handed) := ⟨rfl, rfl, rfl, by decide +kernel, rfl, by decide +kernel, by decide +kernel⟩
abbrev s_Leaf___init__ : Stmt := methS 60 0
theorem sc_Leaf___init__ : FnScope ["self", "term"] ["self", "term"] (defScope s_Leaf___init__) := ⟨rfl, rfl, rfl, by decide +kernel, rfl, by decide +kernel, by decide +kernel⟩
abbrev s_Leaf_got : Stmt := methS 60 1
theorem sc_Leaf_got : FnScope ["self", "depth", "wanted"] ["self", "depth", "wanted"] (defScope s_Leaf_got) := ⟨rfl, rfl, rfl, by decide +kernel, rfl, by decide +kernel, by decide +kernel⟩
abbrev s_Result___init__ : Stmt := methS 61 0
theorem sc_Result___init__ : FnScope ["self", "term", "kind", "place"] ["self", "term", "kind", "place"] (defScope s_Result___init__) := ⟨rfl, rfl, rfl, by decide +kernel, rfl, by decide +kernel, by decide +kernel⟩
abbrev s_Result_got : Stmt := methS 61 1
theorem sc_Result_got : FnScope ["self", "depth", "wanted", "some", "many", "given"] ["self", "depth", "wanted"] (defScope s_Result_got) := ⟨rfl, rfl, rfl, by decide +kernel, rfl, by decide +kernel, by decide +kernel⟩
abbrev s_Body___init__ : Stmt := methS 62 0
theorem sc_Body___init__ : FnScope ["self", "part", "order", "taken"] ["self", "part", "order", "taken"] (defScope s_Body___init__) := ⟨rfl, rfl, rfl, by decide +kernel, rfl, by decide +kernel, by decide +kernel⟩
abbrev s_Body_got : Stmt := methS 62 1
theorem sc_Body_got : FnScope ["self", "depth", "wanted", "some", "place"] ["self", "depth", "wanted"] (defScope s_Body_got) := ⟨rfl, rfl, rfl, by decide +kernel, rfl, by decide +kernel, by decide +kernel⟩
abbrev s_is_from : Stmt := topS 11
theorem sc_is_from : FnScope ["thing", "low", "high"] ["thing", "low", "high"] (defScope s_is_from) := ⟨rfl, rfl, rfl, by decide +kernel, rfl, by decide +kernel, by decide +kernel⟩
abbrev s_inner_of : Stmt := topS 12
theorem sc_inner_of : FnScope ["thing"] ["thing"] (defScope s_inner_of) := ⟨rfl, rfl, rfl, by decide +kernel, rfl, by decide +kernel, by decide +kernel⟩
abbrev s_is_kind : Stmt := topS 13
theorem sc_is_kind : FnScope ["thing", "left", "inner"] ["thing"] (defScope s_is_kind) := ⟨rfl, rfl, rfl, by decide +kernel, rfl, by decide +kernel, by decide +kernel⟩
abbrev s_sure_kind : Stmt := topS 14
theorem sc_sure_kind : FnScope ["thing"] ["thing"] (defScope s_sure_kind) := ⟨rfl, rfl, rfl, by decide +kernel, rfl, by decide +kernel, by decide +kernel⟩
abbrev s_order_of : Stmt := topS 17
theorem sc_order_of : FnScope ["things"] ["things"] (defScope s_order_of) := ⟨rfl, rfl, rfl, by decide +kernel, rfl, by decide +kernel, by decide +kernel⟩
abbrev s_in_order : Stmt := topS 18
theorem sc_in_order : FnScope ["things", "place"] ["things"] (defScope s_in_order) := ⟨rfl, rfl, rfl, by decide +kernel, rfl, by decide +kernel, by decide +kernel⟩
abbrev s_wants_with : Stmt := topS 19
theorem sc_wants_with : FnScope ["factor", "first"] ["factor", "first"] (defScope s_wants_with) := ⟨rfl, rfl, rfl, by decide +kernel, rfl, by decide +kernel, by decide +kernel⟩
abbrev s_plain_form : Stmt := topS 20
theorem sc_plain_form : FnScope ["kind", "first", "second", "factor"] ["kind"] (defScope s_plain_form) := ⟨rfl, rfl, rfl, by decide +kernel, rfl, by decide +kernel, by decide +kernel⟩
abbrev s_form : Stmt := topS 21
theorem sc_form : FnScope ["kind"] ["kind"] (defScope s_form) := ⟨rfl, rfl, rfl, by decide +kernel, rfl, by decide +kernel, by decide +kernel⟩
abbrev s_alike : Stmt := topS 22
theorem sc_alike : FnScope ["one", "other"] ["one", "other"] (defScope s_alike) := ⟨rfl, rfl, rfl, by decide +kernel, rfl, by decide +kernel, by decide +kernel⟩
abbrev s_is_base : Stmt := topS 23
theorem sc_is_base : FnScope ["thing"] ["thing"] (defScope s_is_base) := ⟨rfl, rfl, rfl, by decide +kernel, rfl, by decide +kernel, by decide +kernel⟩
abbrev s_is_factor : Stmt := topS 24
theorem sc_is_factor : FnScope ["thing", "want"] ["thing"] (defScope s_is_factor) := ⟨rfl, rfl, rfl, by decide +kernel, rfl, by decide +kernel, by decide +kernel⟩
abbrev s_is_form : Stmt := topS 25
theorem sc_is_form : FnScope ["thing", "factor"] ["thing"] (defScope s_is_form) := ⟨rfl, rfl, rfl, by decide +kernel, rfl, by decide +kernel, by decide +kernel⟩
abbrev s_kind_by : Stmt := topS 26
theorem sc_kind_by : FnScope ["factors", "wants", "base", "first"] ["factors"] (defScope s_kind_by) := ⟨rfl, rfl, rfl, by decide +kernel, rfl, by decide +kernel, by decide +kernel⟩
abbrev s_kind_of : Stmt := topS 27
theorem sc_kind_of : FnScope ["form"] ["form"] (defScope s_kind_of) := ⟨rfl, rfl, rfl, by decide +kernel, rfl, by decide +kernel, by decide +kernel⟩
abbrev s_sure_given : Stmt := topS 42
theorem sc_sure_given : FnScope ["given", "kind"] ["given"] (defScope s_sure_given) := ⟨rfl, rfl, rfl, by decide +kernel, rfl, by decide +kernel, by decide +kernel⟩
abbrev s_is_shape : Stmt := topS 43
theorem sc_is_shape : FnScope ["thing"] ["thing"] (defScope s_is_shape) := ⟨rfl, rfl, rfl, by decide +kernel, rfl, by decide +kernel, by decide +kernel⟩
abbrev s_kind_of_given : Stmt := topS 44
theorem sc_kind_of_given : FnScope ["k", "given"] ["k", "given"] (defScope s_kind_of_given) := ⟨rfl, rfl, rfl, by decide +kernel, rfl, by decide +kernel, by decide +kernel⟩
abbrev s_kind_of_two : Stmt := topS 45
theorem sc_kind_of_two : FnScope ["word", "one", "other"] ["word", "one", "other"] (defScope s_kind_of_two) := ⟨rfl, rfl, rfl, by decide +kernel, rfl, by decide +kernel, by decide +kernel⟩
abbrev s_kind_in : Stmt := topS 46
theorem sc_kind_in : FnScope ["term", "given", "word", "one", "body"] ["term", "given"] (defScope s_kind_in) := ⟨rfl, rfl, rfl, by decide +kernel, rfl, by decide +kernel, by decide +kernel⟩
abbrev s_sure_kind_in : Stmt := topS 47
theorem sc_sure_kind_in : FnScope ["term", "given", "found"] ["term", "given"] (defScope s_sure_kind_in) := ⟨rfl, rfl, rfl, by decide +kernel, rfl, by decide +kernel, by decide +kernel⟩
abbrev s_term_kind : Stmt := topS 48
theorem sc_term_kind : FnScope ["term", "given"] ["term", "given"] (defScope s_term_kind) := ⟨rfl, rfl, rfl, by decide +kernel, rfl, by decide +kernel, by decide +kernel⟩
abbrev s_opened : Stmt := topS 52
theorem sc_opened : FnScope ["kind", "chain"] ["kind", "chain"] (defScope s_opened) := ⟨rfl, rfl, rfl, by decide +kernel, rfl, by decide +kernel, by decide +kernel⟩
abbrev s_meant : Stmt := topS 53
theorem sc_meant : FnScope ["term", "things", "word", "one"] ["term", "things"] (defScope s_meant) := ⟨rfl, rfl, rfl, by decide +kernel, rfl, by decide +kernel, by decide +kernel⟩
abbrev s_said : Stmt := topS 54
theorem sc_said : FnScope ["kind", "thing", "many"] ["kind", "thing", "many"] (defScope s_said) := ⟨rfl, rfl, rfl, by decide +kernel, rfl, by decide +kernel, by decide +kernel⟩
abbrev s_chain_said : Stmt := topS 55
theorem sc_chain_said : FnScope ["chain", "many", "word", "before", "kind", "thing"] ["chain", "many"] (defScope s_chain_said) := ⟨rfl, rfl, rfl, by decide +kernel, rfl, by decide +kernel, by decide +kernel⟩
abbrev s_plain_in : Stmt := topS 56
theorem sc_plain_in : FnScope ["term", "kind", "given", "things", "k", "one"] ["term", "kind", "given"] (defScope s_plain_in) := ⟨rfl, rfl, rfl, by decide +kernel, rfl, by decide +kernel, by decide +kernel⟩
abbrev s_same : Stmt := topS 57
theorem sc_same : FnScope ["one", "other", "given", "kinds", "term"] ["one", "other", "given"] (defScope s_same) := ⟨rfl, rfl, rfl, by decide +kernel, rfl, by decide +kernel, by decide +kernel⟩
abbrev s_put_back : Stmt := topS 59
theorem sc_put_back : FnScope ["things", "order", "found", "thing", "place"] ["things", "order"] (defScope s_put_back) := ⟨rfl, rfl, rfl, by decide +kernel, rfl, by decide +kernel, by decide +kernel⟩
abbrev s_factors_from : Stmt := topS 63
theorem sc_factors_from : FnScope ["kind", "first", "found", "factor", "wants", "place"] ["kind"] (defScope s_factors_from) := ⟨rfl, rfl, rfl, by decide +kernel, rfl, by decide +kernel, by decide +kernel⟩
abbrev s_parts : Stmt := topS 64
theorem sc_parts : FnScope ["kind", "term", "some", "order", "place"] ["kind", "term"] (defScope s_parts) := ⟨rfl, rfl, rfl, by decide +kernel, rfl, by decide +kernel, by decide +kernel⟩
abbrev s_built : Stmt := topS 65
theorem sc_built : FnScope ["kind", "some", "depth", "first", "back", "taken", "bodies", "part", "factor"] ["kind", "some", "depth"] (defScope s_built) := ⟨rfl, rfl, rfl, by decide +kernel, rfl, by decide +kernel, by decide +kernel⟩
abbrev s_turner : Stmt := topS 66
theorem sc_turner : FnScope ["one", "other"] ["one", "other"] (defScope s_turner) := ⟨rfl, rfl, rfl, by decide +kernel, rfl, by decide +kernel, by decide +kernel⟩
abbrev s_lifted : Stmt := topS 67
theorem sc_lifted : FnScope ["term", "by", "part"] ["term", "by"] (defScope s_lifted) := ⟨rfl, rfl, rfl, by decide +kernel, rfl, by decide +kernel, by decide +kernel⟩
abbrev s_is_of : Stmt := topS 68
theorem sc_is_of : FnScope ["term", "kind"] ["term", "kind"] (defScope s_is_of) := ⟨rfl, rfl, rfl, by decide +kernel, rfl, by decide +kernel, by decide +kernel⟩
abbrev s_goes_round : Stmt := topS 69
theorem sc_goes_round : FnScope ["kind", "there", "back", "done"] ["kind", "there", "back"] (defScope s_goes_round) := ⟨rfl, rfl, rfl, by decide +kernel, rfl, by decide +kernel, by decide +kernel⟩
abbrev s_turn_fault : Stmt := topS 70
theorem sc_turn_fault : FnScope ["one", "other", "there", "back"] ["one", "other", "there", "back"] (defScope s_turn_fault) := ⟨rfl, rfl, rfl, by decide +kernel, rfl, by decide +kernel, by decide +kernel⟩
abbrev s_is_library : Stmt := topS 72
theorem sc_is_library : FnScope ["thing", "row", "names", "name", "kind"] ["thing"] (defScope s_is_library) := ⟨rfl, rfl, rfl, by decide +kernel, rfl, by decide +kernel, by decide +kernel⟩
abbrev s_sure_library : Stmt := topS 73
theorem sc_sure_library : FnScope ["library"] ["library"] (defScope s_sure_library) := ⟨rfl, rfl, rfl, by decide +kernel, rfl, by decide +kernel, by decide +kernel⟩
abbrev s_without : Stmt := topS 74
theorem sc_without : FnScope ["things", "fewer", "left", "thing"] ["things", "fewer"] (defScope s_without) := ⟨rfl, rfl, rfl, by decide +kernel, rfl, by decide +kernel, by decide +kernel⟩
abbrev s_with_more : Stmt := topS 75
theorem sc_with_more : FnScope ["factors", "more", "wants", "base"] ["factors", "more"] (defScope s_with_more) := ⟨rfl, rfl, rfl, by decide +kernel, rfl, by decide +kernel, by decide +kernel⟩
abbrev s_left_to_hand_in : Stmt := topS 76
theorem sc_left_to_hand_in : FnScope ["there", "wished", "some", "wants", "base", "more"] ["there", "wished"] (defScope s_left_to_hand_in) := ⟨rfl, rfl, rfl, by decide +kernel, rfl, by decide +kernel, by decide +kernel⟩
abbrev s_wished_from : Stmt := topS 77
theorem sc_wished_from : FnScope ["wants", "kind"] ["wants", "kind"] (defScope s_wished_from) := ⟨rfl, rfl, rfl, by decide +kernel, rfl, by decide +kernel, by decide +kernel⟩
abbrev s_search : Stmt := topS 78
theorem sc_search : FnScope ["library", "kind", "some", "name", "there", "wants", "goal"] ["library", "kind"] (defScope s_search) := ⟨rfl, rfl, rfl, by decide +kernel, rfl, by decide +kernel, by decide +kernel⟩
abbrev s_search_fault : Stmt := topS 79
theorem sc_search_fault : FnScope ["library", "kind", "name", "thing", "some", "wants", "there", "back", "title"] ["library", "kind", "name", "thing"] (defScope s_search_fault) := ⟨rfl, rfl, rfl, by decide +kernel, rfl, by decide +kernel, by decide +kernel⟩
abbrev s__law_well : Stmt := topS 81
theorem sc__law_well : FnScope ["_law_cell"] ["_law_cell"] (defScope s__law_well) := ⟨rfl, rfl, rfl, by decide +kernel, rfl, by decide +kernel, by decide +kernel⟩
abbrev s__law_draw : Stmt := topS 82
theorem sc__law_draw : FnScope ["_law_well_here", "_law_width", "_law_low", "_law_digit_told"] ["_law_well_here", "_law_width"] (defScope s__law_draw) := ⟨rfl, rfl, rfl, by decide +kernel, rfl, by decide +kernel, by decide +kernel⟩
abbrev s__law_word : Stmt := topS 83
theorem sc__law_word : FnScope ["_law_ask", "_law_found"] ["_law_ask"] (defScope s__law_word) := ⟨rfl, rfl, rfl, by decide +kernel, rfl, by decide +kernel, by decide +kernel⟩
abbrev s__law_library : Stmt := topS 84
theorem sc__law_library : FnScope ["_law_well_here", "_law_names", "_law_turn", "_law_one", "_law_other", "_law_some", "_law_name"] ["_law_well_here"] (defScope s__law_library) := ⟨rfl, rfl, rfl, by decide +kernel, rfl, by decide +kernel, by decide +kernel⟩
abbrev s__law_twice : Stmt := topS 85
theorem sc__law_twice : FnScope ["_law_well_here", "_law_library_here", "_law_spot", "_law_other", "_law_name", "_law_found"] ["_law_well_here", "_law_library_here"] (defScope s__law_twice) := ⟨rfl, rfl, rfl, by decide +kernel, rfl, by decide +kernel, by decide +kernel⟩
abbrev s_law : Stmt := topS 86
theorem sc_law : FnScope ["_law_script", "_law_cell", "_law_well_here", "_law_library_here", "_law_wished", "_law_name", "_law_found", "_law_turn", "_law_bad", "_law_kept", "_law_thing", "_law_asks", "_law_ask"] ["_law_script"] (defScope s_law) := ⟨rfl, rfl, rfl, by decide +kernel, rfl, by decide +kernel, by decide +kernel⟩
def kv_MARKS : List (Str × D) := [("both", D.str "*"), ("from", D.str ">")]
def kv_PARTS : List (Str × D) := [("given", D.int 2), ("make", D.int 3), ("do", D.int 3), ("both", D.int 3), ("first", D.int 2), ("second", D.int 2), ("unit", D.int 1)]
def excs : List Str := ["NoForm", "NoKind", "NoLibrary", "NoName", "NoTerm"]
def isxT : List (Str × Str) := ([("NoForm", "SwapError"), ("NoKind", "SwapError"), ("NoLibrary", "NoLibrary"), ("NoLibrary", "SwapError"), ("NoName", "SwapError"), ("NoTerm", "NoTerm"), ("NoTerm", "SwapError")] : List (Str × Str))
def isx (y x : Str) : Bool := isxT.any fun p => p.1 == y && p.2 == x
noncomputable def b_Loose___init__ (cl : Fn → FF) : FS :=
  (sSeq (sFl ["Loose", "Result"] "kind" (fVar 0) (fVar 1))
  (sFl ["Loose"] "chain" (fVar 0) (fVar 2)))
noncomputable def b_Loose_handed (cl : Fn → FF) : FS :=
  (sRet (fArg (cl .f_opened) (fCons (f2 gIx (f1 (gFld ["Loose", "Result"] "kind") (fVar 0)) (fC (.int 2))) (fCons (fArg mkTup (fCons (fC (.str "do")) (fCons (f1 (gFld ["Loose"] "chain") (fVar 0)) (fCons (f2 gIx (f1 (gFld ["Loose", "Result"] "kind") (fVar 0)) (fC (.int 1))) (fCons (fVar 1) fNil))))) fNil))))
noncomputable def b_Bound___init__ (cl : Fn → FF) : FS :=
  (sSeq (sFl ["Bound"] "body" (fVar 0) (fVar 1))
  (sFl ["Bound"] "things" (fVar 0) (fVar 2)))
noncomputable def b_Bound_handed (cl : Fn → FF) : FS :=
  (sRet (fArg (cl .f_meant) (fCons (f1 (gFld ["Bound"] "body") (fVar 0)) (fCons (f2 (gAdd false) (f1 (gFld ["Bound"] "things") (fVar 0)) (fArg mkLst (fCons (fVar 1) fNil))) fNil))))
noncomputable def b_Leaf___init__ (cl : Fn → FF) : FS :=
  (sFl ["Leaf", "Result"] "term" (fVar 0) (fVar 1))
noncomputable def b_Leaf_got (cl : Fn → FF) : FS :=
  (sRet (f1 (gFld ["Leaf", "Result"] "term") (fVar 0)))
noncomputable def b_Result___init__ (cl : Fn → FF) : FS :=
  (sSeq (sFl ["Leaf", "Result"] "term" (fVar 0) (fVar 1))
  (sSeq (sFl ["Loose", "Result"] "kind" (fVar 0) (fVar 2))
  (sSeq (sFl ["Result"] "place" (fVar 0) (fVar 3))
  (sSeq (sFl ["Result"] "factor" (fVar 0) (f2 gIx (fArg (cl .f_plain_form) (fCons (f2 gIx (fVar 2) (fC (.int 2))) fNil)) (fVar 3)))
  (sFl ["Result", "Body"] "order" (fVar 0) (fArg (cl .f_order_of) (fCons (fArg (cl .f_wants_with) (fCons (f1 (gFld ["Result"] "factor") (fVar 0)) (fCons (fArg (cl .f_plain_form) (fCons (f2 gIx (fVar 2) (fC (.int 1))) fNil)) fNil))) fNil)))))))
noncomputable def b_Result_got (cl : Fn → FF) : FS :=
  (sSeq (sSet 3 (fArg (cl .f_put_back) (fCons (fVar 2) (fCons (f1 (gFld ["Result", "Body"] "order") (fVar 0)) fNil))))
  (sSeq (sSet 4 (fArg gLen (fCons (f2 gIx (f1 (gFld ["Result"] "factor") (fVar 0)) (fC (.int 0))) fNil)))
  (sSeq (sSet 5 (fArg (cl .f_built) (fCons (f2 gIx (f1 (gFld ["Loose", "Result"] "kind") (fVar 0)) (fC (.int 1))) (fCons (fSl (gSl false) (fVar 3) (fSome (fVar 4)) fNone) (fCons (fVar 1) fNil)))))
  (sRet (fMe [("Leaf", cl .f_Leaf_got), ("Result", cl .f_Result_got), ("Body", cl .f_Body_got)] "got" (f2 gIx (fArg (cl .f_parts) (fCons (f2 gIx (f1 (gFld ["Loose", "Result"] "kind") (fVar 0)) (fC (.int 2))) (fCons (fArg mkTup (fCons (fC (.str "do")) (fCons (f1 (gFld ["Leaf", "Result"] "term") (fVar 0)) (fCons (fVar 5) fNil)))) fNil))) (f1 (gFld ["Result"] "place") (fVar 0))) (fCons (fVar 1) (fCons (fSl (gSl false) (fVar 3) fNone (fSome (fVar 4))) fNil)))))))
noncomputable def b_Body___init__ (cl : Fn → FF) : FS :=
  (sSeq (sFl ["Body"] "part" (fVar 0) (fVar 1))
  (sSeq (sFl ["Result", "Body"] "order" (fVar 0) (fVar 2))
  (sFl ["Body"] "taken" (fVar 0) (fVar 3))))
noncomputable def b_Body_got (cl : Fn → FF) : FS :=
  (sSeq (sSet 3 (f2 (gAdd false) (fVar 2) (f1 (gFld ["Body"] "taken") (fVar 0))))
  (sRet (fMe [("Leaf", cl .f_Leaf_got), ("Result", cl .f_Result_got), ("Body", cl .f_Body_got)] "got" (f1 (gFld ["Body"] "part") (fVar 0)) (fCons (fVar 1) (fCons (fLc false (fiL (f1 (gFld ["Result", "Body"] "order") (fVar 0))) (gN 4) fYes (f2 gIx (fVar 3) (fVar 4)) [4]) fNil)))))
noncomputable def b_is_from (cl : Fn → FF) : FS :=
  (sRet (fAndV (fIsi "int" (fVar 0)) (fAndV (fNotV (fIsi "bool" (fVar 0))) (fChain (gCmp fun i j => decide (i ≤ j)) (gCmp fun i j => decide (i ≤ j)) (fVar 1) (fVar 0) (fVar 2)))))
noncomputable def b_inner_of (cl : Fn → FF) : FS :=
  (sSeq (sIf (fOr (fNot (fTru (fIsi "tuple" (fVar 0)))) (fOr (fB (f2 gEq (fArg gLen (fCons (fVar 0) fNil)) (fC (.int 0)))) (fNot (fTru (fIsi "str" (f2 gIx (fVar 0) (fC (.int 0)))))))) (sRet (fC .non)) sNil)
  (sSeq (sIf (fB (f2 gEq (f2 gIx (fVar 0) (fC (.int 0))) (fC (.str "base")))) (sRet (fIf (fAnd (fB (f2 gEq (fArg gLen (fCons (fVar 0) fNil)) (fC (.int 2)))) (fTru (fArg (cl .f_is_from) (fCons (f2 gIx (fVar 0) (fC (.int 1))) (fCons (fC (.int 0)) (fCons (f2 gSub (fArg gLen (fCons (fC (.str "abcdefgh")) fNil)) (fC (.int 1))) fNil)))))) (fArg mkLst fNil) (fC .non))) sNil)
  (sSeq (sIf (fB (f2 gEq (f2 gIx (fVar 0) (fC (.int 0))) (fC (.str "unit")))) (sRet (fIf (fB (f2 gEq (fArg gLen (fCons (fVar 0) fNil)) (fC (.int 1)))) (fArg mkLst fNil) (fC .non))) sNil)
  (sRet (fIf (fAnd (fB (f2 (gInG false "MARKS" kv_MARKS) (f2 gIx (fVar 0) (fC (.int 0))) (fC (.glo "MARKS")))) (fB (f2 gEq (fArg gLen (fCons (fVar 0) fNil)) (fC (.int 3))))) (fArg (gList false) (fCons (fSl (gSl false) (fVar 0) (fSome (fC (.int 1))) fNone) fNil)) (fC .non))))))
noncomputable def l_is_kind_0 (cl : Fn → FF) : FS :=
  (sSeq (sSet 2 (fArg (cl .f_inner_of) (fCons (fMth gPop0 (fVar 1) fNil) fNil)))
  (sSeq (sIf (fB (f2 (gIs false) (fVar 2) (fC .non))) (sRet (fC (.bl false))) sNil)
  (sExp (fMth gExtend (fVar 1) (fCons (fVar 2) fNil)))))
noncomputable def b_is_kind (cl : Fn → FF) : FS :=
  (sSeq (sSet 1 (fArg mkCel (fCons (fVar 0) fNil)))
  (sSeq (sWhile (fB (f2 gNe (fVar 1) (fArg mkLst fNil))) (l_is_kind_0 cl))
  (sRet (fC (.bl true)))))
noncomputable def b_sure_kind (cl : Fn → FF) : FS :=
  (sIf (fNot (fTru (fArg (cl .f_is_kind) (fCons (fVar 0) fNil)))) (sRaise "NoKind") sNil)
noncomputable def b_order_of (cl : Fn → FF) : FS :=
  (sRet (fOrder 1 "order_of" (fArg gLen (fCons (fVar 0) fNil)) 0))
noncomputable def b_in_order (cl : Fn → FF) : FS :=
  (sRet (fLc false (fiL (fArg (cl .f_order_of) (fCons (fVar 0) fNil))) (gN 1) fYes (f2 gIx (fVar 0) (fVar 1)) [1]))
noncomputable def b_wants_with (cl : Fn → FF) : FS :=
  (sRet (f2 (gAdd false) (fArg (gList false) (fCons (f2 gIx (fVar 0) (fC (.int 0))) fNil)) (fVar 1)))
noncomputable def b_plain_form (cl : Fn → FF) : FS :=
  (sSeq (sIf (fB (f2 gEq (f2 gIx (fVar 0) (fC (.int 0))) (fC (.str "base")))) (sRet (fArg mkLst (fCons (fArg mkTup (fCons (fArg mkTup fNil) (fCons (f2 gIx (fVar 0) (fC (.int 1))) fNil))) fNil))) sNil)
  (sSeq (sIf (fB (f2 gEq (f2 gIx (fVar 0) (fC (.int 0))) (fC (.str "unit")))) (sRet (fArg mkLst fNil)) sNil)
  (sSeq (sSet 1 (fArg (cl .f_plain_form) (fCons (f2 gIx (fVar 0) (fC (.int 1))) fNil)))
  (sSeq (sSet 2 (fArg (cl .f_plain_form) (fCons (f2 gIx (fVar 0) (fC (.int 2))) fNil)))
  (sSeq (sIf (fB (f2 gEq (f2 gIx (fVar 0) (fC (.int 0))) (fC (.str "both")))) (sRet (fArg (cl .f_in_order) (fCons (f2 (gAdd false) (fVar 1) (fVar 2)) fNil))) sNil)
  (sRet (fArg (cl .f_in_order) (fCons (fLc false (fiL (fVar 2)) (gN 3) fYes (fArg mkTup (fCons (fArg gTuple (fCons (fArg (cl .f_in_order) (fCons (fArg (cl .f_wants_with) (fCons (fVar 3) (fCons (fVar 1) fNil))) fNil)) fNil)) (fCons (f2 gIx (fVar 3) (fC (.int 1))) fNil))) [3]) fNil))))))))
noncomputable def b_form (cl : Fn → FF) : FS :=
  (sSeq (sExp (fArg (cl .f_sure_kind) (fCons (fVar 0) fNil)))
  (sRet (fArg (cl .f_plain_form) (fCons (fVar 0) fNil))))
noncomputable def b_alike (cl : Fn → FF) : FS :=
  (sRet (f2 gEq (fArg (cl .f_form) (fCons (fVar 0) fNil)) (fArg (cl .f_form) (fCons (fVar 1) fNil))))
noncomputable def b_is_base (cl : Fn → FF) : FS :=
  (sRet (fAndV (fIsi "int" (fVar 0)) (fAndV (fNotV (fIsi "bool" (fVar 0))) (fChain (gCmp fun i j => decide (i ≤ j)) (gCmp fun i j => decide (i ≤ j)) (fC (.int 0)) (fVar 0) (fC (.int 7))))))
noncomputable def b_is_factor (cl : Fn → FF) : FS :=
  (sSeq (sIf (fOr (fNot (fTru (fIsi "tuple" (fVar 0)))) (fOr (fB (f2 gNe (fArg gLen (fCons (fVar 0) fNil)) (fC (.int 2)))) (fOr (fNot (fTru (fArg (cl .f_is_base) (fCons (f2 gIx (fVar 0) (fC (.int 1))) fNil)))) (fNot (fTru (fIsi "tuple" (f2 gIx (fVar 0) (fC (.int 0))))))))) (sRet (fC (.bl false))) sNil)
  (sRet (fAndV (fArg gAll (fCons (fLc false (fiT (f2 gIx (fVar 0) (fC (.int 0)))) (gN 1) fYes (fArg (cl .f_is_factor) (fCons (fVar 1) fNil)) [1]) fNil)) (f2 gEq (fArg (gList false) (fCons (f2 gIx (fVar 0) (fC (.int 0))) fNil)) (fArg (cl .f_in_order) (fCons (f2 gIx (fVar 0) (fC (.int 0))) fNil))))))
noncomputable def b_is_form (cl : Fn → FF) : FS :=
  (sRet (fAndV (fIsi "list" (fVar 0)) (fAndV (fArg gAll (fCons (fLc false (fiL (fVar 0)) (gN 1) fYes (fArg (cl .f_is_factor) (fCons (fVar 1) fNil)) [1]) fNil)) (f2 gEq (fVar 0) (fArg (cl .f_in_order) (fCons (fVar 0) fNil))))))
noncomputable def b_kind_by (cl : Fn → FF) : FS :=
  (sSeq (sIf (fB (f2 gEq (fArg gLen (fCons (fVar 0) fNil)) (fC (.int 0)))) (sRet (fArg mkTup (fCons (fC (.str "unit")) fNil))) sNil)
  (sSeq (sAsg (f2 gIx (fVar 0) (fC (.int 0))) (gTu 2 (gsCons (gN 1) (gsCons (gN 2) gsNil))))
  (sSeq (sSet 3 (fIf (fB (f2 gEq (fVar 1) (fArg mkTup fNil))) (fArg mkTup (fCons (fC (.str "base")) (fCons (fVar 2) fNil))) (fArg mkTup (fCons (fC (.str "from")) (fCons (fArg (cl .f_kind_by) (fCons (fVar 1) fNil)) (fCons (fArg mkTup (fCons (fC (.str "base")) (fCons (fVar 2) fNil))) fNil))))))
  (sRet (fIf (fB (f2 gEq (fArg gLen (fCons (fVar 0) fNil)) (fC (.int 1)))) (fVar 3) (fArg mkTup (fCons (fC (.str "both")) (fCons (fVar 3) (fCons (fArg (cl .f_kind_by) (fCons (fSl (gSl false) (fVar 0) (fSome (fC (.int 1))) fNone) fNil)) fNil)))))))))
noncomputable def b_kind_of (cl : Fn → FF) : FS :=
  (sSeq (sIf (fNot (fTru (fArg (cl .f_is_form) (fCons (fVar 0) fNil)))) (sRaise "NoForm") sNil)
  (sRet (fArg (cl .f_kind_by) (fCons (fVar 0) fNil))))
noncomputable def b_sure_given (cl : Fn → FF) : FS :=
  (sIf (fOr (fNot (fTru (fIsi "list" (fVar 0)))) (fNot (fTru (fArg gAll (fCons (fLc false (fiL (fVar 0)) (gN 1) fYes (fArg (cl .f_is_kind) (fCons (fVar 1) fNil)) [1]) fNil))))) (sRaise "NoKind") sNil)
noncomputable def b_is_shape (cl : Fn → FF) : FS :=
  (sSeq (sIf (fOr (fNot (fTru (fIsi "tuple" (fVar 0)))) (fOr (fB (f2 gEq (fArg gLen (fCons (fVar 0) fNil)) (fC (.int 0)))) (fNot (fTru (fIsi "str" (f2 gIx (fVar 0) (fC (.int 0)))))))) (sRet (fC (.bl false))) sNil)
  (sRet (f2 gEq (fGetG "PARTS" kv_PARTS (fC (.glo "PARTS")) (f2 gIx (fVar 0) (fC (.int 0)))) (fArg gLen (fCons (fVar 0) fNil)))))
noncomputable def b_kind_of_given (cl : Fn → FF) : FS :=
  (sSeq (sIf (fOr (fNot (fTru (fIsi "int" (fVar 0)))) (fOr (fTru (fIsi "bool" (fVar 0))) (fNot (fB (fChain (gCmp fun i j => decide (i ≤ j)) (gCmp fun i j => decide (i < j)) (fC (.int 0)) (fVar 0) (fArg gLen (fCons (fVar 1) fNil))))))) (sRet (fC .non)) sNil)
  (sRet (f2 gIx (fVar 1) (fVar 0))))
noncomputable def b_kind_of_two (cl : Fn → FF) : FS :=
  (sSeq (sIf (fOr (fB (f2 (gIs false) (fVar 1) (fC .non))) (fB (f2 (gIs false) (fVar 2) (fC .non)))) (sRet (fC .non)) sNil)
  (sSeq (sIf (fB (f2 gEq (fVar 0) (fC (.str "both")))) (sRet (fArg mkTup (fCons (fC (.str "both")) (fCons (fVar 1) (fCons (fVar 2) fNil))))) sNil)
  (sRet (fIf (fAnd (fB (f2 gEq (f2 gIx (fVar 1) (fC (.int 0))) (fC (.str "from")))) (fB (f2 gEq (f2 gIx (fVar 1) (fC (.int 1))) (fVar 2)))) (f2 gIx (fVar 1) (fC (.int 2))) (fC .non)))))
noncomputable def b_kind_in (cl : Fn → FF) : FS :=
  (sSeq (sIf (fNot (fTru (fArg (cl .f_is_shape) (fCons (fVar 0) fNil)))) (sRet (fC .non)) sNil)
  (sSeq (sSet 2 (f2 gIx (fVar 0) (fC (.int 0))))
  (sSeq (sIf (fB (f2 gEq (fVar 2) (fC (.str "unit")))) (sRet (fArg mkTup (fCons (fC (.str "unit")) fNil))) sNil)
  (sSeq (sIf (fB (f2 gEq (fVar 2) (fC (.str "given")))) (sRet (fArg (cl .f_kind_of_given) (fCons (f2 gIx (fVar 0) (fC (.int 1))) (fCons (fVar 1) fNil)))) sNil)
  (sSeq (sIf (fB (f2 gEq (fVar 2) (fC (.str "make")))) (sSeq (sSet 4 (fIf (fTru (fArg (cl .f_is_kind) (fCons (f2 gIx (fVar 0) (fC (.int 1))) fNil))) (fArg (cl .f_kind_in) (fCons (f2 gIx (fVar 0) (fC (.int 2))) (fCons (f2 (gAdd false) (fVar 1) (fArg mkLst (fCons (f2 gIx (fVar 0) (fC (.int 1))) fNil))) fNil))) (fC .non)))
  (sRet (fIf (fB (f2 (gIs false) (fVar 4) (fC .non))) (fC .non) (fArg mkTup (fCons (fC (.str "from")) (fCons (f2 gIx (fVar 0) (fC (.int 1))) (fCons (fVar 4) fNil))))))) sNil)
  (sSeq (sSet 3 (fArg (cl .f_kind_in) (fCons (f2 gIx (fVar 0) (fC (.int 1))) (fCons (fVar 1) fNil))))
  (sSeq (sIf (fB (f2 (gIn false) (fVar 2) (fArg mkTup (fCons (fC (.str "do")) (fCons (fC (.str "both")) fNil))))) (sRet (fArg (cl .f_kind_of_two) (fCons (fVar 2) (fCons (fVar 3) (fCons (fArg (cl .f_kind_in) (fCons (f2 gIx (fVar 0) (fC (.int 2))) (fCons (fVar 1) fNil))) fNil))))) sNil)
  (sSeq (sIf (fOr (fB (f2 (gIs false) (fVar 3) (fC .non))) (fB (f2 gNe (f2 gIx (fVar 3) (fC (.int 0))) (fC (.str "both"))))) (sRet (fC .non)) sNil)
  (sRet (fIf (fB (f2 gEq (fVar 2) (fC (.str "first")))) (f2 gIx (fVar 3) (fC (.int 1))) (f2 gIx (fVar 3) (fC (.int 2)))))))))))))
noncomputable def b_sure_kind_in (cl : Fn → FF) : FS :=
  (sSeq (sSet 2 (fArg (cl .f_kind_in) (fCons (fVar 0) (fCons (fVar 1) fNil))))
  (sSeq (sIf (fB (f2 (gIs false) (fVar 2) (fC .non))) (sRaise "NoTerm") sNil)
  (sRet (fVar 2))))
noncomputable def b_term_kind (cl : Fn → FF) : FS :=
  (sSeq (sExp (fArg (cl .f_sure_given) (fCons (fVar 1) fNil)))
  (sRet (fArg (cl .f_sure_kind_in) (fCons (fVar 0) (fCons (fVar 1) fNil)))))
noncomputable def b_opened (cl cl2 : Fn → FF) : FS :=
  (sSeq (sIf (fB (f2 gEq (f2 gIx (fVar 0) (fC (.int 0))) (fC (.str "unit")))) (sRet (fArg mkTup fNil)) sNil)
  (sSeq (sIf (fB (f2 gEq (f2 gIx (fVar 0) (fC (.int 0))) (fC (.str "both")))) (sRet (fArg mkTup (fCons (fArg (cl .f_opened) (fCons (f2 gIx (fVar 0) (fC (.int 1))) (fCons (fArg mkTup (fCons (fC (.str "first")) (fCons (fVar 1) fNil))) fNil))) (fCons (fArg (cl .f_opened) (fCons (f2 gIx (fVar 0) (fC (.int 2))) (fCons (fArg mkTup (fCons (fC (.str "second")) (fCons (fVar 1) fNil))) fNil))) fNil)))) sNil)
  (sSeq (sIf (fB (f2 gEq (f2 gIx (fVar 0) (fC (.int 0))) (fC (.str "from")))) (sRet (fMk "Loose" (cl2 .f_Loose___init__) (fCons (fVar 0) (fCons (fVar 1) fNil)))) sNil)
  (sRet (fVar 1)))))
noncomputable def b_meant (cl cl2 : Fn → FF) : FS :=
  (sSeq (sSet 2 (f2 gIx (fVar 0) (fC (.int 0))))
  (sSeq (sIf (fB (f2 gEq (fVar 2) (fC (.str "given")))) (sRet (f2 gIx (fVar 1) (f2 gIx (fVar 0) (fC (.int 1))))) sNil)
  (sSeq (sIf (fB (f2 gEq (fVar 2) (fC (.str "unit")))) (sRet (fArg mkTup fNil)) sNil)
  (sSeq (sIf (fB (f2 gEq (fVar 2) (fC (.str "make")))) (sRet (fMk "Bound" (cl2 .f_Bound___init__) (fCons (f2 gIx (fVar 0) (fC (.int 2))) (fCons (fVar 1) fNil)))) sNil)
  (sSeq (sSet 3 (fArg (cl .f_meant) (fCons (f2 gIx (fVar 0) (fC (.int 1))) (fCons (fVar 1) fNil))))
  (sSeq (sIf (fB (f2 gEq (fVar 2) (fC (.str "do")))) (sRet (fMe [("Loose", cl .f_Loose_handed), ("Bound", cl .f_Bound_handed)] "handed" (fVar 3) (fCons (fArg (cl .f_meant) (fCons (f2 gIx (fVar 0) (fC (.int 2))) (fCons (fVar 1) fNil))) fNil))) sNil)
  (sSeq (sIf (fB (f2 gEq (fVar 2) (fC (.str "both")))) (sRet (fArg mkTup (fCons (fVar 3) (fCons (fArg (cl .f_meant) (fCons (f2 gIx (fVar 0) (fC (.int 2))) (fCons (fVar 1) fNil))) fNil)))) sNil)
  (sRet (f2 gIx (fVar 3) (fArg gInt (fCons (f2 gEq (fVar 2) (fC (.str "second"))) fNil)))))))))))
noncomputable def b_said (cl : Fn → FF) : FS :=
  (sSeq (sIf (fB (f2 gEq (f2 gIx (fVar 0) (fC (.int 0))) (fC (.str "unit")))) (sRet (fArg mkTup (fCons (fC (.str "unit")) fNil))) sNil)
  (sSeq (sIf (fB (f2 gEq (f2 gIx (fVar 0) (fC (.int 0))) (fC (.str "both")))) (sRet (fArg mkTup (fCons (fC (.str "both")) (fCons (fArg (cl .f_said) (fCons (f2 gIx (fVar 0) (fC (.int 1))) (fCons (f2 gIx (fVar 1) (fC (.int 0))) (fCons (fVar 2) fNil)))) (fCons (fArg (cl .f_said) (fCons (f2 gIx (fVar 0) (fC (.int 2))) (fCons (f2 gIx (fVar 1) (fC (.int 1))) (fCons (fVar 2) fNil)))) fNil))))) sNil)
  (sSeq (sIf (fB (f2 gEq (f2 gIx (fVar 0) (fC (.int 0))) (fC (.str "from")))) (sRet (fArg mkTup (fCons (fC (.str "make")) (fCons (f2 gIx (fVar 0) (fC (.int 1))) (fCons (fArg (cl .f_said) (fCons (f2 gIx (fVar 0) (fC (.int 2))) (fCons (fMe [("Loose", cl .f_Loose_handed), ("Bound", cl .f_Bound_handed)] "handed" (fVar 1) (fCons (fArg (cl .f_opened) (fCons (f2 gIx (fVar 0) (fC (.int 1))) (fCons (fArg mkTup (fCons (fC (.str "given")) (fCons (fVar 2) fNil))) fNil))) fNil)) (fCons (f2 (gAdd false) (fVar 2) (fC (.int 1))) fNil)))) fNil))))) sNil)
  (sRet (fArg (cl .f_chain_said) (fCons (fVar 1) (fCons (fVar 2) fNil)))))))
noncomputable def b_chain_said (cl : Fn → FF) : FS :=
  (sSeq (sIf (fB (f2 gEq (f2 gIx (fVar 0) (fC (.int 0))) (fC (.str "given")))) (sRet (fVar 0)) sNil)
  (sSeq (sIf (fB (f2 gEq (f2 gIx (fVar 0) (fC (.int 0))) (fC (.str "do")))) (sSeq (sAsg (fVar 0) (gTu 4 (gsCons (gN 2) (gsCons (gN 3) (gsCons (gN 4) (gsCons (gN 5) gsNil))))))
  (sRet (fArg mkTup (fCons (fC (.str "do")) (fCons (fArg (cl .f_chain_said) (fCons (fVar 3) (fCons (fVar 1) fNil))) (fCons (fArg (cl .f_said) (fCons (fVar 4) (fCons (fVar 5) (fCons (fVar 1) fNil)))) fNil)))))) sNil)
  (sRet (fArg mkTup (fCons (f2 gIx (fVar 0) (fC (.int 0))) (fCons (fArg (cl .f_chain_said) (fCons (f2 gIx (fVar 0) (fC (.int 1))) (fCons (fVar 1) fNil))) fNil))))))
noncomputable def b_plain_in (cl : Fn → FF) : FS :=
  (sSeq (sSet 3 (fLc false (fiE (fCons (fVar 2) fNil)) (gTu 2 (gsCons (gN 4) (gsCons (gN 5) gsNil))) fYes (fArg (cl .f_opened) (fCons (fVar 5) (fCons (fArg mkTup (fCons (fC (.str "given")) (fCons (fVar 4) fNil))) fNil))) [4, 5]))
  (sRet (fArg (cl .f_said) (fCons (fVar 1) (fCons (fArg (cl .f_meant) (fCons (fVar 0) (fCons (fVar 3) fNil))) (fCons (fArg gLen (fCons (fVar 2) fNil)) fNil))))))
noncomputable def b_same (cl : Fn → FF) : FS :=
  (sSeq (sExp (fArg (cl .f_sure_given) (fCons (fVar 2) fNil)))
  (sSeq (sSet 3 (fLc false (fiT (fArg mkTup (fCons (fVar 0) (fCons (fVar 1) fNil)))) (gN 4) fYes (fArg (cl .f_sure_kind_in) (fCons (fVar 4) (fCons (fVar 2) fNil))) [4]))
  (sRet (fAndV (f2 gEq (f2 gIx (fVar 3) (fC (.int 0))) (f2 gIx (fVar 3) (fC (.int 1)))) (f2 gEq (fArg (cl .f_plain_in) (fCons (fVar 0) (fCons (f2 gIx (fVar 3) (fC (.int 0))) (fCons (fVar 2) fNil)))) (fArg (cl .f_plain_in) (fCons (fVar 1) (fCons (f2 gIx (fVar 3) (fC (.int 1))) (fCons (fVar 2) fNil)))))))))
noncomputable def l_put_back_0 (cl : Fn → FF) : FS :=
  (sAsg (fVar 3) (gSb (fVar 2) (fVar 4)))
noncomputable def b_put_back (cl : Fn → FF) : FS :=
  (sSeq (sSet 2 (fArg (gList true) (fCons (fVar 0) fNil)))
  (sSeq (sFor (fiZ (fCons (fVar 0) (fCons (fVar 1) fNil))) (gTu 2 (gsCons (gN 3) (gsCons (gN 4) gsNil))) (l_put_back_0 cl))
  (sRet (f1 gFz (fVar 2)))))
noncomputable def l_factors_from_0 (cl : Fn → FF) : FS :=
  (sSeq (sSet 4 (fArg (cl .f_wants_with) (fCons (fVar 3) (fCons (fVar 1) fNil))))
  (sExp (fMth gAppend (fVar 2) (fCons (fArg mkTup (fCons (fArg gTuple (fCons (fLc false (fiL (fArg (cl .f_order_of) (fCons (fVar 4) fNil))) (gN 5) fYes (f2 gIx (fVar 4) (fVar 5)) [5]) fNil)) (fCons (f2 gIx (fVar 3) (fC (.int 1))) fNil))) fNil))))
noncomputable def b_factors_from (cl : Fn → FF) : FS :=
  (sSeq (sSet 1 (fArg (cl .f_plain_form) (fCons (f2 gIx (fVar 0) (fC (.int 1))) fNil)))
  (sSeq (sSet 2 (fArg mkCel fNil))
  (sSeq (sFor (fiL (fArg (cl .f_plain_form) (fCons (f2 gIx (fVar 0) (fC (.int 2))) fNil))) (gN 3) (l_factors_from_0 cl))
  (sRet (f1 gFz (fVar 2))))))
noncomputable def b_parts (cl cl2 : Fn → FF) : FS :=
  (sSeq (sIf (fB (f2 gEq (f2 gIx (fVar 0) (fC (.int 0))) (fC (.str "base")))) (sRet (fArg mkLst (fCons (fMk "Leaf" (cl2 .f_Leaf___init__) (fCons (fVar 1) fNil)) fNil))) sNil)
  (sSeq (sIf (fB (f2 gEq (f2 gIx (fVar 0) (fC (.int 0))) (fC (.str "unit")))) (sRet (fArg mkLst fNil)) sNil)
  (sSeq (sIf (fB (f2 gEq (f2 gIx (fVar 0) (fC (.int 0))) (fC (.str "both")))) (sSeq (sSet 2 (f2 (gAdd false) (fArg (cl .f_parts) (fCons (f2 gIx (fVar 0) (fC (.int 1))) (fCons (fArg mkTup (fCons (fC (.str "first")) (fCons (fVar 1) fNil))) fNil))) (fArg (cl .f_parts) (fCons (f2 gIx (fVar 0) (fC (.int 2))) (fCons (fArg mkTup (fCons (fC (.str "second")) (fCons (fVar 1) fNil))) fNil)))))
  (sSet 3 (fArg (cl .f_order_of) (fCons (f2 (gAdd false) (fArg (cl .f_plain_form) (fCons (f2 gIx (fVar 0) (fC (.int 1))) fNil)) (fArg (cl .f_plain_form) (fCons (f2 gIx (fVar 0) (fC (.int 2))) fNil))) fNil)))) (sSeq (sSet 3 (fArg (cl .f_order_of) (fCons (fArg (cl .f_factors_from) (fCons (fVar 0) fNil)) fNil)))
  (sSet 2 (fLc false (fiR1 (fCons (fArg gLen (fCons (fVar 3) fNil)) fNil)) (gN 4) fYes (fMk "Result" (cl2 .f_Result___init__) (fCons (fVar 1) (fCons (fVar 0) (fCons (fVar 4) fNil)))) [4]))))
  (sRet (fLc false (fiL (fVar 3)) (gN 4) fYes (f2 gIx (fVar 2) (fVar 4)) [4])))))
noncomputable def l_built_0 (cl cl2 : Fn → FF) : FS :=
  (sExp (fMth gAppend (fVar 6) (fCons (fMk "Body" (cl2 .f_Body___init__) (fCons (fVar 7) (fCons (fArg (cl .f_order_of) (fCons (fArg (cl .f_wants_with) (fCons (fVar 8) (fCons (fVar 3) fNil))) fNil)) (fCons (fVar 5) fNil)))) fNil)))
noncomputable def b_built (cl cl2 : Fn → FF) : FS :=
  (sSeq (sIf (fB (f2 gEq (f2 gIx (fVar 0) (fC (.int 0))) (fC (.str "base")))) (sRet (fMe [("Leaf", cl .f_Leaf_got), ("Result", cl .f_Result_got), ("Body", cl .f_Body_got)] "got" (f2 gIx (fVar 1) (fC (.int 0))) (fCons (fVar 2) (fCons (fArg mkLst fNil) fNil)))) sNil)
  (sSeq (sIf (fB (f2 gEq (f2 gIx (fVar 0) (fC (.int 0))) (fC (.str "unit")))) (sRet (fArg mkTup (fCons (fC (.str "unit")) fNil))) sNil)
  (sSeq (sIf (fB (f2 gEq (f2 gIx (fVar 0) (fC (.int 0))) (fC (.str "both")))) (sSeq (sSet 3 (fArg (cl .f_plain_form) (fCons (f2 gIx (fVar 0) (fC (.int 1))) fNil)))
  (sSeq (sSet 4 (fArg (cl .f_put_back) (fCons (fVar 1) (fCons (fArg (cl .f_order_of) (fCons (f2 (gAdd false) (fVar 3) (fArg (cl .f_plain_form) (fCons (f2 gIx (fVar 0) (fC (.int 2))) fNil))) fNil)) fNil))))
  (sRet (fArg mkTup (fCons (fC (.str "both")) (fCons (fArg (cl .f_built) (fCons (f2 gIx (fVar 0) (fC (.int 1))) (fCons (fSl (gSl false) (fVar 4) fNone (fSome (fArg gLen (fCons (fVar 3) fNil)))) (fCons (fVar 2) fNil)))) (fCons (fArg (cl .f_built) (fCons (f2 gIx (fVar 0) (fC (.int 2))) (fCons (fSl (gSl false) (fVar 4) (fSome (fArg gLen (fCons (fVar 3) fNil))) fNone) (fCons (fVar 2) fNil)))) fNil))))))) sNil)
  (sSeq (sSet 3 (fArg (cl .f_plain_form) (fCons (f2 gIx (fVar 0) (fC (.int 1))) fNil)))
  (sSeq (sSet 4 (fArg (cl .f_put_back) (fCons (fVar 1) (fCons (fArg (cl .f_order_of) (fCons (fArg (cl .f_factors_from) (fCons (fVar 0) fNil)) fNil)) fNil))))
  (sSeq (sSet 5 (fArg (cl .f_parts) (fCons (f2 gIx (fVar 0) (fC (.int 1))) (fCons (fArg mkTup (fCons (fC (.str "given")) (fCons (fVar 2) fNil))) fNil))))
  (sSeq (sSet 6 (fArg mkCel fNil))
  (sSeq (sFor (fiZ (fCons (fVar 4) (fCons (fArg (cl .f_plain_form) (fCons (f2 gIx (fVar 0) (fC (.int 2))) fNil)) fNil))) (gTu 2 (gsCons (gN 7) (gsCons (gN 8) gsNil))) (l_built_0 cl cl2))
  (sRet (fArg mkTup (fCons (fC (.str "make")) (fCons (f2 gIx (fVar 0) (fC (.int 1))) (fCons (fArg (cl .f_built) (fCons (f2 gIx (fVar 0) (fC (.int 2))) (fCons (fVar 6) (fCons (f2 (gAdd false) (fVar 2) (fC (.int 1))) fNil)))) fNil)))))))))))))
noncomputable def b_turner (cl : Fn → FF) : FS :=
  (sSeq (sIf (fNot (fTru (fArg (cl .f_alike) (fCons (fVar 0) (fCons (fVar 1) fNil))))) sNo sNil)
  (sRet (fArg mkTup (fCons (fC (.str "make")) (fCons (fVar 0) (fCons (fArg (cl .f_built) (fCons (fVar 1) (fCons (fArg (cl .f_parts) (fCons (fVar 0) (fCons (fArg mkTup (fCons (fC (.str "given")) (fCons (fC (.int 0)) fNil))) fNil))) (fCons (fC (.int 1)) fNil)))) fNil))))))
noncomputable def b_lifted (cl : Fn → FF) : FS :=
  (sSeq (sIf (fB (f2 gEq (f2 gIx (fVar 0) (fC (.int 0))) (fC (.str "given")))) (sRet (fArg mkTup (fCons (fC (.str "given")) (fCons (f2 (gAdd false) (f2 gIx (fVar 0) (fC (.int 1))) (fVar 1)) fNil)))) sNil)
  (sSeq (sIf (fB (f2 gEq (f2 gIx (fVar 0) (fC (.int 0))) (fC (.str "make")))) (sRet (fArg mkTup (fCons (fC (.str "make")) (fCons (f2 gIx (fVar 0) (fC (.int 1))) (fCons (fArg (cl .f_lifted) (fCons (f2 gIx (fVar 0) (fC (.int 2))) (fCons (fVar 1) fNil))) fNil))))) sNil)
  (sRet (f2 (gAdd false) (fSl (gSl false) (fVar 0) fNone (fSome (fC (.int 1)))) (fArg gTuple (fCons (fLc false (fiT (fSl (gSl false) (fVar 0) (fSome (fC (.int 1))) fNone)) (gN 2) fYes (fArg (cl .f_lifted) (fCons (fVar 2) (fCons (fVar 1) fNil))) [2]) fNil))))))
noncomputable def b_is_of (cl : Fn → FF) : FS :=
  (sTry excs (fun y => isx y "NoTerm") (sRet (f2 gEq (fArg (cl .f_term_kind) (fCons (fVar 0) (fCons (fArg mkLst fNil) fNil))) (fVar 1))) (sRet (fC (.bl false))))
noncomputable def b_goes_round (cl : Fn → FF) : FS :=
  (sSeq (sSet 3 (fArg mkTup (fCons (fC (.str "do")) (fCons (fArg (cl .f_lifted) (fCons (fVar 2) (fCons (fC (.int 1)) fNil))) (fCons (fArg mkTup (fCons (fC (.str "do")) (fCons (fArg (cl .f_lifted) (fCons (fVar 1) (fCons (fC (.int 1)) fNil))) (fCons (fArg mkTup (fCons (fC (.str "given")) (fCons (fC (.int 0)) fNil))) fNil)))) fNil)))))
  (sRet (fArg (cl .f_same) (fCons (fVar 3) (fCons (fArg mkTup (fCons (fC (.str "given")) (fCons (fC (.int 0)) fNil))) (fCons (fArg mkLst (fCons (fVar 0) fNil)) fNil))))))
noncomputable def b_turn_fault (cl : Fn → FF) : FS :=
  (sSeq (sExp (fArg (cl .f_sure_kind) (fCons (fVar 0) fNil)))
  (sSeq (sExp (fArg (cl .f_sure_kind) (fCons (fVar 1) fNil)))
  (sSeq (sIf (fNot (fTru (fArg (cl .f_is_of) (fCons (fVar 2) (fCons (fArg mkTup (fCons (fC (.str "from")) (fCons (fVar 0) (fCons (fVar 1) fNil)))) fNil))))) (sRet (fArg mkTup (fCons (fC (.str "kind")) (fCons (fC (.int 0)) fNil)))) sNil)
  (sSeq (sIf (fNot (fTru (fArg (cl .f_is_of) (fCons (fVar 3) (fCons (fArg mkTup (fCons (fC (.str "from")) (fCons (fVar 1) (fCons (fVar 0) fNil)))) fNil))))) (sRet (fArg mkTup (fCons (fC (.str "kind")) (fCons (fC (.int 1)) fNil)))) sNil)
  (sSeq (sIf (fNot (fTru (fArg (cl .f_goes_round) (fCons (fVar 0) (fCons (fVar 2) (fCons (fVar 3) fNil)))))) (sRet (fArg mkTup (fCons (fC (.str "round")) (fCons (fC (.int 0)) fNil)))) sNil)
  (sRet (fIf (fTru (fArg (cl .f_goes_round) (fCons (fVar 1) (fCons (fVar 3) (fCons (fVar 2) fNil))))) (fC .non) (fArg mkTup (fCons (fC (.str "round")) (fCons (fC (.int 1)) fNil))))))))))
noncomputable def l_is_library_0 (cl : Fn → FF) : FS :=
  (sIf (fOr (fNot (fTru (fIsi "tuple" (fVar 1)))) (fOr (fB (f2 gNe (fArg gLen (fCons (fVar 1) fNil)) (fC (.int 2)))) (fOr (fNot (fTru (fIsi "str" (f2 gIx (fVar 1) (fC (.int 0)))))) (fNot (fTru (fArg (cl .f_is_kind) (fCons (f2 gIx (fVar 1) (fC (.int 1))) fNil))))))) (sRet (fC (.bl false))) sNil)
noncomputable def b_is_library (cl : Fn → FF) : FS :=
  (sSeq (sIf (fNot (fTru (fIsi "list" (fVar 0)))) (sRet (fC (.bl false))) sNil)
  (sSeq (sFor (fiL (fVar 0)) (gN 1) (l_is_library_0 cl))
  (sSeq (sSet 2 (fLc false (fiL (fVar 0)) (gTu 2 (gsCons (gN 3) (gsCons (gN 4) gsNil))) fYes (fVar 3) [3, 4]))
  (sRet (f2 gEq (f1 gLenSet (fVar 2)) (fArg gLen (fCons (fVar 2) fNil)))))))
noncomputable def b_sure_library (cl : Fn → FF) : FS :=
  (sIf (fNot (fTru (fArg (cl .f_is_library) (fCons (fVar 0) fNil)))) (sRaise "NoLibrary") sNil)
noncomputable def l_without_0 (cl : Fn → FF) : FS :=
  (sSeq (sIf (fB (f2 (gIn true) (fVar 3) (fVar 2))) (sRet (fC .non)) sNil)
  (sExp (fMth gRem (fVar 2) (fCons (fVar 3) fNil))))
noncomputable def b_without (cl : Fn → FF) : FS :=
  (sSeq (sSet 2 (fArg (gList true) (fCons (fVar 0) fNil)))
  (sSeq (sFor (fiT (fVar 1)) (gN 3) (l_without_0 cl))
  (sRet (f1 gFz (fVar 2)))))
noncomputable def b_with_more (cl : Fn → FF) : FS :=
  (sRet (fArg (cl .f_in_order) (fCons (fLc false (fiL (fVar 0)) (gTu 2 (gsCons (gN 2) (gsCons (gN 3) gsNil))) fYes (fArg mkTup (fCons (fArg gTuple (fCons (fArg (cl .f_in_order) (fCons (f2 (gAdd false) (fArg (gList false) (fCons (fVar 2) fNil)) (fVar 1)) fNil)) fNil)) (fCons (fVar 3) fNil))) [2, 3]) fNil)))
noncomputable def l_left_to_hand_in_0 (cl : Fn → FF) : FS :=
  (sIf (fAnd (fB (f2 gNe (fVar 1) (fArg mkLst fNil))) (fB (f2 gEq (fVar 4) (f2 gIx (f2 gIx (fVar 1) (fC (.int 0))) (fC (.int 1)))))) (sSeq (sSet 5 (fArg (cl .f_without) (fCons (fVar 3) (fCons (f2 gIx (f2 gIx (fVar 1) (fC (.int 0))) (fC (.int 0))) fNil))))
  (sIf (fAnd (fB (f2 (gIs true) (fVar 5) (fC .non))) (fB (f2 gEq (fArg (cl .f_with_more) (fCons (fVar 1) (fCons (fVar 5) fNil))) (fVar 0)))) (sExp (fMth gAppend (fVar 2) (fCons (fVar 5) fNil))) sNil)) sNil)
noncomputable def b_left_to_hand_in (cl : Fn → FF) : FS :=
  (sSeq (sIf (fB (f2 gEq (fVar 0) (fVar 1))) (sRet (fArg mkLst fNil)) sNil)
  (sSeq (sSet 2 (fArg mkCel fNil))
  (sSeq (sFor (fiL (fVar 0)) (gTu 2 (gsCons (gN 3) (gsCons (gN 4) gsNil))) (l_left_to_hand_in_0 cl))
  (sRet (fIf (fB (f2 gNe (fVar 2) (fArg mkLst fNil))) (f2 gIx (fArg (cl .f_in_order) (fCons (fVar 2) fNil)) (fC (.int 0))) (fC .non))))))
noncomputable def b_wished_from (cl : Fn → FF) : FS :=
  (sRet (fIf (fB (f2 gEq (fVar 0) (fArg mkLst fNil))) (fVar 1) (fArg mkTup (fCons (fC (.str "from")) (fCons (fArg (cl .f_kind_of) (fCons (fVar 0) fNil)) (fCons (fVar 1) fNil))))))
noncomputable def l_search_0 (cl : Fn → FF) : FS :=
  (sSeq (sSet 5 (fArg (cl .f_left_to_hand_in) (fCons (fArg (cl .f_plain_form) (fCons (fVar 4) fNil)) (fCons (fArg (cl .f_plain_form) (fCons (fVar 1) fNil)) fNil))))
  (sIf (fB (f2 (gIs true) (fVar 5) (fC .non))) (sSeq (sSet 6 (fArg (cl .f_wished_from) (fCons (fVar 5) (fCons (fVar 1) fNil))))
  (sExp (fMth gAppend (fVar 2) (fCons (fArg mkTup (fCons (fVar 3) (fCons (fVar 5) (fCons (fArg (cl .f_turner) (fCons (fVar 4) (fCons (fVar 6) fNil))) (fCons (fArg (cl .f_turner) (fCons (fVar 6) (fCons (fVar 4) fNil))) fNil))))) fNil)))) sNil))
noncomputable def b_search (cl : Fn → FF) : FS :=
  (sSeq (sExp (fArg (cl .f_sure_kind) (fCons (fVar 1) fNil)))
  (sSeq (sExp (fArg (cl .f_sure_library) (fCons (fVar 0) fNil)))
  (sSeq (sSet 2 (fArg mkCel fNil))
  (sSeq (sFor (fiL (fVar 0)) (gTu 2 (gsCons (gN 3) (gsCons (gN 4) gsNil))) (l_search_0 cl))
  (sRet (f1 gFz (fVar 2)))))))
noncomputable def b_search_fault (cl : Fn → FF) : FS :=
  (sSeq (sExp (fArg (cl .f_sure_kind) (fCons (fVar 1) fNil)))
  (sSeq (sExp (fArg (cl .f_sure_library) (fCons (fVar 0) fNil)))
  (sSeq (sSet 4 (fLc false (fiL (fVar 0)) (gTu 2 (gsCons (gN 8) (gsCons (gN 6) gsNil))) (fAnd (fTru (fIsi "str" (fVar 2))) (fB (f2 gEq (fVar 8) (fVar 2)))) (fVar 6) [8, 6]))
  (sSeq (sIf (fB (f2 gEq (fVar 4) (fArg mkLst fNil))) (sRaise "NoName") sNil)
  (sSeq (sIf (fOr (fNot (fTru (fIsi "tuple" (fVar 3)))) (fOr (fB (f2 gNe (fArg gLen (fCons (fVar 3) fNil)) (fC (.int 3)))) (fNot (fTru (fArg (cl .f_is_form) (fCons (f2 gIx (fVar 3) (fC (.int 0))) fNil)))))) (sRet (fArg mkTup (fCons (fC (.str "form")) fNil))) sNil)
  (sSeq (sAsg (fVar 3) (gTu 3 (gsCons (gN 5) (gsCons (gN 6) (gsCons (gN 7) gsNil)))))
  (sRet (fArg (cl .f_turn_fault) (fCons (f2 gIx (fVar 4) (fC (.int 0))) (fCons (fArg (cl .f_wished_from) (fCons (fVar 5) (fCons (fVar 1) fNil))) (fCons (fVar 6) (fCons (fVar 7) fNil))))))))))))
noncomputable def b__law_well (cl : Fn → FF) : FS :=
  (sRet (fArg mkCel (fCons (f2 (gMul false) (fVar 0) (fArg gInt (fCons (f2 (gCmp fun i j => decide (j ≤ i)) (fVar 0) (f2 gPow (fC (.int 10)) (fC (.int 18)))) fNil))) (fCons (fVar 0) (fCons (fC (.int 0)) fNil)))))
noncomputable def b__law_draw (cl : Fn → FF) : FS :=
  (sSeq (sIf (fB (f2 (gCmp fun i j => decide (j < i)) (f2 gIx (fVar 0) (fC (.int 0))) (fC (.int 0)))) (sSeq (sSet 3 (f2 gMod (f2 gIx (fVar 0) (fC (.int 0))) (fVar 1)))
  (sSeq (sAsg (f2 gDiv (f2 gIx (fVar 0) (fC (.int 0))) (fVar 1)) (gSb (fVar 0) (fC (.int 0))))
  (sRet (fVar 3)))) sNil)
  (sSeq (sAsg (f2 (gAdd false) (f2 gIx (fVar 0) (fC (.int 2))) (fC (.int 1))) (gSb (fVar 0) (fC (.int 2))))
  (sSeq (sSet 2 (f2 (gAdd false) (f2 gMod (f2 gIx (fVar 0) (fC (.int 1))) (fC (.int 2147483629))) (f2 (gMul false) (f2 gDiv (f2 gIx (fVar 0) (fC (.int 1))) (fC (.int 2147483629))) (fC (.int 30013)))))
  (sSeq (sSet 2 (f2 gMod (f2 (gMul false) (f2 (gAdd false) (f2 (gAdd false) (fVar 2) (f2 (gMul false) (fC (.int 69623)) (f2 gIx (fVar 0) (fC (.int 2))))) (fC (.int 1))) (fC (.int 48271))) (fC (.int 2147483647))))
  (sSeq (sSet 2 (f2 gMod (f2 (gMul false) (fVar 2) (f2 (gAdd false) (f2 (gAdd false) (f2 gDiv (fVar 2) (fC (.int 1013))) (fC (.int 69621))) (f2 gIx (fVar 0) (fC (.int 2))))) (fC (.int 2147483629))))
  (sRet (f2 gMod (f2 gMod (f2 (gMul false) (fVar 2) (f2 (gAdd false) (f2 gDiv (fVar 2) (fC (.int 2011))) (fC (.int 40692)))) (fC (.int 2147483399))) (fVar 1))))))))
noncomputable def b__law_word (act : FE) : FS :=
  (sSeq (sSet 1 (fC (.str "none")))
  (sSeq (sTryC excs [((fun y => isx y "NoLibrary"), none, (fun y a => (sSet 1 (fC (.str "library"))))), ((fun y => isx y "SwapError"), none, (fun y a => (sSet 1 (fC (.str "other")))))] (sExp act))
  (sRet (fVar 1))))
noncomputable def b__law_library (cl : Fn → FF) : FS :=
  (sSeq (sSet 1 (fArg mkLst (fCons (fC (.str "")) (fCons (fC (.str "a")) (fCons (fC (.str "A")) (fCons (fC (.str "a ")) (fCons (fC (.str " a")) (fCons (fC (.str "find")) (fCons (fC (.str "1")) (fCons (fC (.str "findall")) (fCons (fC (.str "~")) (fCons (fC (.str "aa")) fNil))))))))))))
  (sSeq (sSet 2 (fArg (cl .f__law_draw) (fCons (fVar 0) (fCons (fC (.int 10)) fNil))))
  (sSeq (sSet 1 (fSl (gSl false) (f2 (gAdd false) (fSl (gSl false) (fVar 1) (fSome (fVar 2)) fNone) (fSl (gSl false) (fVar 1) fNone (fSome (fVar 2)))) fNone (fSome (f2 (gAdd false) (fC (.int 2)) (fArg (cl .f__law_draw) (fCons (fVar 0) (fCons (fC (.int 7)) fNil)))))))
  (sSeq (sPar 3 4 (fCons (fArg mkTup (fCons (fC (.str "base")) (fCons (fArg (cl .f__law_draw) (fCons (fVar 0) (fCons (fC (.int 8)) fNil))) fNil))) (fCons (fArg mkTup (fCons (fC (.str "base")) (fCons (fArg (cl .f__law_draw) (fCons (fVar 0) (fCons (fC (.int 8)) fNil))) fNil))) fNil)))
  (sSeq (sSet 5 (fArg mkLst (fCons (fVar 3) (fCons (fVar 4) (fCons (fArg mkTup (fCons (fC (.str "both")) (fCons (fVar 3) (fCons (fVar 4) fNil)))) (fCons (fArg mkTup (fCons (fC (.str "both")) (fCons (fVar 4) (fCons (fVar 3) fNil)))) (fCons (fArg mkTup (fCons (fC (.str "from")) (fCons (fVar 3) (fCons (fVar 4) fNil)))) (fCons (fArg mkTup (fCons (fC (.str "unit")) fNil)) (fCons (fVar 3) fNil)))))))))
  (sRet (fLc false (fiL (fVar 1)) (gN 6) fYes (fArg mkTup (fCons (fVar 6) (fCons (f2 gIx (fVar 5) (fArg (cl .f__law_draw) (fCons (fVar 0) (fCons (fC (.int 7)) fNil)))) fNil))) [6])))))))
noncomputable def b__law_twice (cl : Fn → FF) : FS :=
  (sSeq (sSet 2 (fArg (cl .f__law_draw) (fCons (fVar 0) (fCons (fArg gLen (fCons (fVar 1) fNil)) fNil))))
  (sSeq (sSet 3 (fArg mkLst (fCons (f2 gMod (f2 (gAdd false) (f2 (gAdd false) (fVar 2) (fC (.int 1))) (fArg (cl .f__law_draw) (fCons (fVar 0) (fCons (f2 gSub (fArg gLen (fCons (fVar 1) fNil)) (fC (.int 1))) fNil)))) (fArg gLen (fCons (fVar 1) fNil))) (fCons (f2 gMod (f2 (gAdd false) (fVar 2) (fC (.int 1))) (fArg gLen (fCons (fVar 1) fNil))) fNil))))
  (sSeq (sSet 3 (f2 gIx (fVar 3) (fArg (cl .f__law_draw) (fCons (fVar 0) (fCons (fC (.int 2)) fNil)))))
  (sSeq (sSet 4 (f2 gIx (f2 gIx (fVar 1) (fVar 2)) (fC (.int 0))))
  (sSeq (sSet 5 (fArg (gList true) (fCons (fVar 1) fNil)))
  (sSeq (sAsg (fArg mkTup (fCons (fVar 4) (fCons (f2 gIx (fArg mkLst (fCons (f2 gIx (f2 gIx (fVar 1) (fVar 3)) (fC (.int 1))) (fCons (f2 gIx (f2 gIx (fVar 1) (fVar 2)) (fC (.int 1))) fNil))) (fArg (cl .f__law_draw) (fCons (fVar 0) (fCons (fC (.int 2)) fNil)))) fNil))) (gSb (fVar 5) (fVar 3)))
  (sRet (fArg mkTup (fCons (f1 gFz (fVar 5)) (fCons (fVar 4) fNil))))))))))
noncomputable def l_law_0 (o0 o1 : Ob) (cl cl2 : Fn → FF) : FS :=
  (sSeq (sAsg (fArg (cl .f__law_twice) (fCons (fVar 2) (fCons (fVar 3) fNil))) (gTu 2 (gsCons (gN 8) (gsCons (gN 5) gsNil))))
  (sSeq (sSet 9 (fArg (gList false) (fCons (fVar 8) fNil)))
  (sSeq (sSet 5 (f2 gIx (fArg mkLst (fCons (fVar 5) (fCons (fVar 5) (fCons (f2 gIx (f2 gIx (fVar 3) (fC (.int 0))) (fC (.int 0))) (fCons (f2 gIx (f2 gIx (fVar 3) (f1 gNeg (fC (.int 1)))) (fC (.int 0))) (fCons (fC (.str "zzz")) (fCons (fC .non) (fCons (fC (.int 5)) fNil)))))))) (fArg (cl .f__law_draw) (fCons (fVar 2) (fCons (fC (.int 7)) fNil)))))
  (sSeq (sSet 10 (f2 gIx (fArg mkLst (fCons (fC .non) (fCons (fArg mkTup (fCons (fArg mkLst fNil) (fCons (fArg mkTup (fCons (fC (.str "unit")) fNil)) (fCons (fArg mkTup (fCons (fC (.str "unit")) fNil)) fNil)))) (fCons (fArg mkLst fNil) (fCons (fC (.int 7)) fNil))))) (fArg (cl .f__law_draw) (fCons (fVar 2) (fCons (fC (.int 4)) fNil)))))
  (sSeq (sSet 11 (fArg mkCel (fCons (fLam 2 "law" 0 o0) fNil)))
  (sSeq (sExp (fMth gAppend (fVar 11) (fCons (fLam 2 "law" 1 o1) fNil)))
  (sIf (fOr (fB (f2 gNe (fLc false (fiL (fVar 11)) (gN 12) fYes (fThunkV (tabQ "law") 2 b__law_word [(o0, (fArg (cl2 .f_search) (fCons (fVar 8) (fCons (fVar 4) fNil)))), (o1, (fArg (cl2 .f_search_fault) (fCons (fVar 8) (fCons (fVar 4) (fCons (fVar 5) (fCons (fVar 10) fNil))))))] [12] (fVar 12)) [12]) (f2 (gMul false) (fArg mkLst (fCons (fC (.str "library")) fNil)) (fC (.int 2))))) (fB (f2 gNe (fVar 8) (fVar 9)))) (sRet (fC (.bl false))) sNil)))))))
noncomputable def l_law_1 (o0 o1 : Ob) (cl cl2 : Fn → FF) : FS :=
  (sSeq (sSet 2 (fArg (cl .f__law_well) (fCons (fVar 1) fNil)))
  (sSeq (sSet 3 (fArg (cl .f__law_library) (fCons (fVar 2) fNil)))
  (sSeq (sSet 4 (f2 gIx (f2 gIx (fVar 3) (fArg (cl .f__law_draw) (fCons (fVar 2) (fCons (fArg gLen (fCons (fVar 3) fNil)) fNil)))) (fC (.int 1))))
  (sSeq (sSet 5 (f2 gIx (f2 gIx (fVar 3) (fArg (cl .f__law_draw) (fCons (fVar 2) (fCons (fArg gLen (fCons (fVar 3) fNil)) fNil)))) (fC (.int 0))))
  (sSeq (sSet 6 (fArg (cl .f_search) (fCons (fVar 3) (fCons (fVar 4) fNil))))
  (sSeq (sIf (fOr (fNot (fTru (fIsi "list" (fVar 6)))) (fB (f2 gNe (fArg (cl .f_search_fault) (fCons (fVar 3) (fCons (fVar 4) (fCons (fVar 5) (fCons (fC .non) fNil))))) (fArg mkTup (fCons (fC (.str "form")) fNil))))) (sRet (fC (.bl false))) sNil)
  (sFor (fiR1 (fCons (fC (.int 3)) fNil)) (gN 7) (l_law_0 o0 o1 cl cl2))))))))
noncomputable def b0_law (o0 o1 : Ob) (cl cl2 : Fn → FF) : FS :=
  (sSeq (sFor (fiL (f2 (gAdd false) (fArg mkLst (fCons (fC (.int 0)) (fCons (fC (.int 3)) fNil))) (fSl (gSl false) (fVar 0) fNone (fSome (fC (.int 8)))))) (gN 1) (l_law_1 o0 o1 cl cl2))
  (sRet (fC (.bl true))))
noncomputable def b_law (cl cl2 : Fn → FF) : FS := aObs fun o0 o1 => b0_law o0 o1 cl cl2
noncomputable def ev : Nat → Fn → FF
  | 0, _ => fun _ _ => .no
  | n + 1, .f_Loose___init__ => fnB 3 3 (b_Loose___init__ (ev n))
  | n + 1, .f_Loose_handed => fnB 2 2 (b_Loose_handed (ev n))
  | n + 1, .f_Bound___init__ => fnB 3 3 (b_Bound___init__ (ev n))
  | n + 1, .f_Bound_handed => fnB 2 2 (b_Bound_handed (ev n))
  | n + 1, .f_Leaf___init__ => fnB 2 2 (b_Leaf___init__ (ev n))
  | n + 1, .f_Leaf_got => fnB 3 3 (b_Leaf_got (ev n))
  | n + 1, .f_Result___init__ => fnB 4 4 (b_Result___init__ (ev n))
  | n + 1, .f_Result_got => fnB 3 6 (b_Result_got (ev n))
  | n + 1, .f_Body___init__ => fnB 4 4 (b_Body___init__ (ev n))
  | n + 1, .f_Body_got => fnB 3 5 (b_Body_got (ev n))
  | n + 1, .f_is_from => fnB 3 3 (b_is_from (ev n))
  | n + 1, .f_inner_of => fnB 1 1 (b_inner_of (ev n))
  | n + 1, .f_is_kind => fnC 1 3 (b_is_kind (ev n))
  | n + 1, .f_sure_kind => fnB 1 1 (b_sure_kind (ev n))
  | n + 1, .f_order_of => fnB 1 1 (b_order_of (ev n))
  | n + 1, .f_in_order => fnB 1 2 (b_in_order (ev n))
  | n + 1, .f_wants_with => fnB 2 2 (b_wants_with (ev n))
  | n + 1, .f_plain_form => fnB 1 4 (b_plain_form (ev n))
  | n + 1, .f_form => fnB 1 1 (b_form (ev n))
  | n + 1, .f_alike => fnB 2 2 (b_alike (ev n))
  | n + 1, .f_is_base => fnB 1 1 (b_is_base (ev n))
  | n + 1, .f_is_factor => fnB 1 2 (b_is_factor (ev n))
  | n + 1, .f_is_form => fnB 1 2 (b_is_form (ev n))
  | n + 1, .f_kind_by => fnB 1 4 (b_kind_by (ev n))
  | n + 1, .f_kind_of => fnB 1 1 (b_kind_of (ev n))
  | n + 1, .f_sure_given => fnB 1 2 (b_sure_given (ev n))
  | n + 1, .f_is_shape => fnB 1 1 (b_is_shape (ev n))
  | n + 1, .f_kind_of_given => fnB 2 2 (b_kind_of_given (ev n))
  | n + 1, .f_kind_of_two => fnB 3 3 (b_kind_of_two (ev n))
  | n + 1, .f_kind_in => fnB 2 5 (b_kind_in (ev n))
  | n + 1, .f_sure_kind_in => fnB 2 3 (b_sure_kind_in (ev n))
  | n + 1, .f_term_kind => fnB 2 2 (b_term_kind (ev n))
  | 1, .f_opened => fun _ _ => .no
  | n + 2, .f_opened => fnB 2 2 (b_opened (ev (n + 1)) (ev n))
  | 1, .f_meant => fun _ _ => .no
  | n + 2, .f_meant => fnB 2 4 (b_meant (ev (n + 1)) (ev n))
  | n + 1, .f_said => fnB 3 3 (b_said (ev n))
  | n + 1, .f_chain_said => fnB 2 6 (b_chain_said (ev n))
  | n + 1, .f_plain_in => fnB 3 6 (b_plain_in (ev n))
  | n + 1, .f_same => fnB 3 5 (b_same (ev n))
  | n + 1, .f_put_back => fnC 2 5 (b_put_back (ev n))
  | n + 1, .f_factors_from => fnC 1 6 (b_factors_from (ev n))
  | 1, .f_parts => fun _ _ => .no
  | n + 2, .f_parts => fnB 2 5 (b_parts (ev (n + 1)) (ev n))
  | 1, .f_built => fun _ _ => .no
  | n + 2, .f_built => fnC 3 9 (b_built (ev (n + 1)) (ev n))
  | n + 1, .f_turner => fnB 2 2 (b_turner (ev n))
  | n + 1, .f_lifted => fnB 2 3 (b_lifted (ev n))
  | n + 1, .f_is_of => fnB 2 2 (b_is_of (ev n))
  | n + 1, .f_goes_round => fnB 3 4 (b_goes_round (ev n))
  | n + 1, .f_turn_fault => fnB 4 4 (b_turn_fault (ev n))
  | n + 1, .f_is_library => fnB 1 5 (b_is_library (ev n))
  | n + 1, .f_sure_library => fnB 1 1 (b_sure_library (ev n))
  | n + 1, .f_without => fnC 2 4 (b_without (ev n))
  | n + 1, .f_with_more => fnB 2 4 (b_with_more (ev n))
  | n + 1, .f_left_to_hand_in => fnC 2 6 (b_left_to_hand_in (ev n))
  | n + 1, .f_wished_from => fnB 2 2 (b_wished_from (ev n))
  | n + 1, .f_search => fnC 2 7 (b_search (ev n))
  | n + 1, .f_search_fault => fnB 4 9 (b_search_fault (ev n))
  | n + 1, .f__law_well => fnB 1 1 (b__law_well (ev n))
  | n + 1, .f__law_draw => fnB 2 4 (b__law_draw (ev n))
  | n + 1, .f__law_library => fnB 1 7 (b__law_library (ev n))
  | n + 1, .f__law_twice => fnC 2 6 (b__law_twice (ev n))
  | 1, .f_law => fun _ _ => .no
  | 2, .f_law => fun _ _ => .no
  | n + 3, .f_law => fnB 1 13 (b_law (ev (n + 2)) (ev n))
@[reducible] def calOf (P : Program) (w : World) (K : PySem.W.Frag) (mg : Str → Option Value) (base : Heap) (k : Nat) (g : Fn) (f : FF) : Prop := match g with
  | .f_Loose___init__ => CalM P w K mg base k "Loose" "__init__" f
  | .f_Loose_handed => CalM P w K mg base k "Loose" "handed" f
  | .f_Bound___init__ => CalM P w K mg base k "Bound" "__init__" f
  | .f_Bound_handed => CalM P w K mg base k "Bound" "handed" f
  | .f_Leaf___init__ => CalM P w K mg base k "Leaf" "__init__" f
  | .f_Leaf_got => CalM P w K mg base k "Leaf" "got" f
  | .f_Result___init__ => CalM P w K mg base k "Result" "__init__" f
  | .f_Result_got => CalM P w K mg base k "Result" "got" f
  | .f_Body___init__ => CalM P w K mg base k "Body" "__init__" f
  | .f_Body_got => CalM P w K mg base k "Body" "got" f
  | .f_is_from => Cal P w K mg base k "is_from" f
  | .f_inner_of => Cal P w K mg base k "inner_of" f
  | .f_is_kind => Cal P w K mg base k "is_kind" f
  | .f_sure_kind => Cal P w K mg base k "sure_kind" f
  | .f_order_of => Cal P w K mg base k "order_of" f
  | .f_in_order => Cal P w K mg base k "in_order" f
  | .f_wants_with => Cal P w K mg base k "wants_with" f
  | .f_plain_form => Cal P w K mg base k "plain_form" f
  | .f_form => Cal P w K mg base k "form" f
  | .f_alike => Cal P w K mg base k "alike" f
  | .f_is_base => Cal P w K mg base k "is_base" f
  | .f_is_factor => Cal P w K mg base k "is_factor" f
  | .f_is_form => Cal P w K mg base k "is_form" f
  | .f_kind_by => Cal P w K mg base k "kind_by" f
  | .f_kind_of => Cal P w K mg base k "kind_of" f
  | .f_sure_given => Cal P w K mg base k "sure_given" f
  | .f_is_shape => Cal P w K mg base k "is_shape" f
  | .f_kind_of_given => Cal P w K mg base k "kind_of_given" f
  | .f_kind_of_two => Cal P w K mg base k "kind_of_two" f
  | .f_kind_in => Cal P w K mg base k "kind_in" f
  | .f_sure_kind_in => Cal P w K mg base k "sure_kind_in" f
  | .f_term_kind => Cal P w K mg base k "term_kind" f
  | .f_opened => Cal P w K mg base k "opened" f
  | .f_meant => Cal P w K mg base k "meant" f
  | .f_said => Cal P w K mg base k "said" f
  | .f_chain_said => Cal P w K mg base k "chain_said" f
  | .f_plain_in => Cal P w K mg base k "plain_in" f
  | .f_same => Cal P w K mg base k "same" f
  | .f_put_back => Cal P w K mg base k "put_back" f
  | .f_factors_from => Cal P w K mg base k "factors_from" f
  | .f_parts => Cal P w K mg base k "parts" f
  | .f_built => Cal P w K mg base k "built" f
  | .f_turner => Cal P w K mg base k "turner" f
  | .f_lifted => Cal P w K mg base k "lifted" f
  | .f_is_of => Cal P w K mg base k "is_of" f
  | .f_goes_round => Cal P w K mg base k "goes_round" f
  | .f_turn_fault => Cal P w K mg base k "turn_fault" f
  | .f_is_library => Cal P w K mg base k "is_library" f
  | .f_sure_library => Cal P w K mg base k "sure_library" f
  | .f_without => Cal P w K mg base k "without" f
  | .f_with_more => Cal P w K mg base k "with_more" f
  | .f_left_to_hand_in => Cal P w K mg base k "left_to_hand_in" f
  | .f_wished_from => Cal P w K mg base k "wished_from" f
  | .f_search => Cal P w K mg base k "search" f
  | .f_search_fault => Cal P w K mg base k "search_fault" f
  | .f__law_well => Cal P w K mg base k "_law_well" f
  | .f__law_draw => Cal P w K mg base k "_law_draw" f
  | .f__law_library => Cal P w K mg base k "_law_library" f
  | .f__law_twice => Cal P w K mg base k "_law_twice" f
  | .f_law => Cal P w K mg base k "law" f
structure Txt (K : PySem.W.Frag) (P : Params) (mg : Str → Option Value) : Prop where
  t_Loose___init__ : TM K mg "Loose" "__init__" "Loose.__init__" s_Loose___init__ ["self", "kind", "chain"]
  t_Loose_handed : TM K mg "Loose" "handed" "Loose.handed" s_Loose_handed ["self", "thing"]
  t_Bound___init__ : TM K mg "Bound" "__init__" "Bound.__init__" s_Bound___init__ ["self", "body", "things"]
  t_Bound_handed : TM K mg "Bound" "handed" "Bound.handed" s_Bound_handed ["self", "thing"]
  t_Leaf___init__ : TM K mg "Leaf" "__init__" "Leaf.__init__" s_Leaf___init__ ["self", "term"]
  t_Leaf_got : TM K mg "Leaf" "got" "Leaf.got" s_Leaf_got ["self", "depth", "wanted"]
  t_Result___init__ : TM K mg "Result" "__init__" "Result.__init__" s_Result___init__ ["self", "term", "kind", "place"]
  t_Result_got : TM K mg "Result" "got" "Result.got" s_Result_got ["self", "depth", "wanted"]
  t_Body___init__ : TM K mg "Body" "__init__" "Body.__init__" s_Body___init__ ["self", "part", "order", "taken"]
  t_Body_got : TM K mg "Body" "got" "Body.got" s_Body_got ["self", "depth", "wanted"]
  t_is_from : TF K mg "is_from" s_is_from ["thing", "low", "high"]
  t_inner_of : TF K mg "inner_of" s_inner_of ["thing"]
  t_is_kind : TF K mg "is_kind" s_is_kind ["thing"]
  t_sure_kind : TF K mg "sure_kind" s_sure_kind ["thing"]
  t_order_of : TF K mg "order_of" s_order_of ["things"]
  t_in_order : TF K mg "in_order" s_in_order ["things"]
  t_wants_with : TF K mg "wants_with" s_wants_with ["factor", "first"]
  t_plain_form : TF K mg "plain_form" s_plain_form ["kind"]
  t_form : TF K mg "form" s_form ["kind"]
  t_alike : TF K mg "alike" s_alike ["one", "other"]
  t_is_base : TF K mg "is_base" s_is_base ["thing"]
  t_is_factor : TF K mg "is_factor" s_is_factor ["thing"]
  t_is_form : TF K mg "is_form" s_is_form ["thing"]
  t_kind_by : TF K mg "kind_by" s_kind_by ["factors"]
  t_kind_of : TF K mg "kind_of" s_kind_of ["form"]
  t_sure_given : TF K mg "sure_given" s_sure_given ["given"]
  t_is_shape : TF K mg "is_shape" s_is_shape ["thing"]
  t_kind_of_given : TF K mg "kind_of_given" s_kind_of_given ["k", "given"]
  t_kind_of_two : TF K mg "kind_of_two" s_kind_of_two ["word", "one", "other"]
  t_kind_in : TF K mg "kind_in" s_kind_in ["term", "given"]
  t_sure_kind_in : TF K mg "sure_kind_in" s_sure_kind_in ["term", "given"]
  t_term_kind : TF K mg "term_kind" s_term_kind ["term", "given"]
  t_opened : TF K mg "opened" s_opened ["kind", "chain"]
  t_meant : TF K mg "meant" s_meant ["term", "things"]
  t_said : TF K mg "said" s_said ["kind", "thing", "many"]
  t_chain_said : TF K mg "chain_said" s_chain_said ["chain", "many"]
  t_plain_in : TF K mg "plain_in" s_plain_in ["term", "kind", "given"]
  t_same : TF K mg "same" s_same ["one", "other", "given"]
  t_put_back : TF K mg "put_back" s_put_back ["things", "order"]
  t_factors_from : TF K mg "factors_from" s_factors_from ["kind"]
  t_parts : TF K mg "parts" s_parts ["kind", "term"]
  t_built : TF K mg "built" s_built ["kind", "some", "depth"]
  t_turner : TF K mg "turner" s_turner ["one", "other"]
  t_lifted : TF K mg "lifted" s_lifted ["term", "by"]
  t_is_of : TF K mg "is_of" s_is_of ["term", "kind"]
  t_goes_round : TF K mg "goes_round" s_goes_round ["kind", "there", "back"]
  t_turn_fault : TF K mg "turn_fault" s_turn_fault ["one", "other", "there", "back"]
  t_is_library : TF K mg "is_library" s_is_library ["thing"]
  t_sure_library : TF K mg "sure_library" s_sure_library ["library"]
  t_without : TF K mg "without" s_without ["things", "fewer"]
  t_with_more : TF K mg "with_more" s_with_more ["factors", "more"]
  t_left_to_hand_in : TF K mg "left_to_hand_in" s_left_to_hand_in ["there", "wished"]
  t_wished_from : TF K mg "wished_from" s_wished_from ["wants", "kind"]
  t_search : TF K mg "search" s_search ["library", "kind"]
  t_search_fault : TF K mg "search_fault" s_search_fault ["library", "kind", "name", "thing"]
  t__law_well : TF K mg "_law_well" s__law_well ["_law_cell"]
  t__law_draw : TF K mg "_law_draw" s__law_draw ["_law_well_here", "_law_width"]
  t__law_word : TF K mg "_law_word" s__law_word ["_law_ask"]
  t__law_library : TF K mg "_law_library" s__law_library ["_law_well_here"]
  t__law_twice : TF K mg "_law_twice" s__law_twice ["_law_well_here", "_law_library_here"]
  m_all : mg "all" = none
  m_bool : mg "bool" = none
  m_enumerate : mg "enumerate" = none
  m_int : mg "int" = none
  m_isinstance : mg "isinstance" = none
  m_len : mg "len" = none
  m_list : mg "list" = none
  m_range : mg "range" = none
  m_set : mg "set" = none
  m_sorted : mg "sorted" = none
  m_str : mg "str" = none
  m_tuple : mg "tuple" = none
  m_zip : mg "zip" = none
  c_LETTERS : GC mg "LETTERS" (.str "abcdefgh")
  c_MARKS : GD K P mg "MARKS" kv_MARKS
  c_MOST_BASE : GC mg "MOST_BASE" (.int 7)
  c_PARTS : GD K P mg "PARTS" kv_PARTS
  k_Body : MkC K mg "Body"
  k_Bound : MkC K mg "Bound"
  k_Leaf : MkC K mg "Leaf"
  k_Loose : MkC K mg "Loose"
  k_Result : MkC K mg "Result"
  g_body : ∀ c ∈ (["Bound"] : List Str), FldC K mg c "body"
  g_chain : ∀ c ∈ (["Loose"] : List Str), FldC K mg c "chain"
  g_factor : ∀ c ∈ (["Result"] : List Str), FldC K mg c "factor"
  g_kind : ∀ c ∈ (["Loose", "Result"] : List Str), FldC K mg c "kind"
  g_order : ∀ c ∈ (["Result", "Body"] : List Str), FldC K mg c "order"
  g_part : ∀ c ∈ (["Body"] : List Str), FldC K mg c "part"
  g_place : ∀ c ∈ (["Result"] : List Str), FldC K mg c "place"
  g_taken : ∀ c ∈ (["Body"] : List Str), FldC K mg c "taken"
  g_term : ∀ c ∈ (["Leaf", "Result"] : List Str), FldC K mg c "term"
  g_things : ∀ c ∈ (["Bound"] : List Str), FldC K mg c "things"
  x_NoForm : ExcF K mg "NoForm"
  x_NoKind : ExcF K mg "NoKind"
  x_NoLibrary : ExcF K mg "NoLibrary"
  x_NoName : ExcF K mg "NoName"
  x_NoTerm : ExcF K mg "NoTerm"
  xk : ∀ y ∈ excs, ExcK K mg y
  c_NoLibrary : CatF K mg excs "NoLibrary" (fun y => isx y "NoLibrary")
  c_NoTerm : CatF K mg excs "NoTerm" (fun y => isx y "NoTerm")
  c_SwapError : CatF K mg excs "SwapError" (fun y => isx y "SwapError")
section
variable {P : Program} {w : World} {K : PySem.W.Frag} {mg : Str → Option Value} {base : Heap}
theorem ok_Loose___init__ {k : Nat} {cl : Fn → FF} (T : Txt K w.params mg) (C : ∀ g : Fn, g ≠ .f_law → calOf P w K mg base k g (cl g)) (f : Addr) (cdv : Value) (A : Around) (outer : List Env) (s : Shared) (H : Hp) (E : XK) (hr : RoomG k (A.deeper (envOfC "Loose.__init__" (defScope s_Loose___init__) s.heap.objs.size f cdv))) :
    PSs (cxOf (L2.CX P w) P w K mg base ["self", "kind", "chain"] "Loose.__init__" (defScope s_Loose___init__) f cdv A outer s H E) (defBody s_Loose___init__) (tS (cxOf (L2.CX P w) P w K mg base ["self", "kind", "chain"] "Loose.__init__" (defScope s_Loose___init__) f cdv A outer s H E) (fun c d _ H => E c d H) (b_Loose___init__ cl)) := by
  have tk : Takes (cxOf (L2.CX P w) P w K mg base ["self", "kind", "chain"] "Loose.__init__" (defScope s_Loose___init__) f cdv A outer s H E) (fun c d _ H => E c d H) := takes_of rfl rfl rfl rfl
  have nd := sc_Loose___init__.nd
  exact (q_seq (q_sfl (q_var 0) (q_var 1) T.g_kind)
    (q_last (q_sfl (q_var 0) (q_var 2) T.g_chain)))
theorem ok_Loose_handed {k : Nat} {cl : Fn → FF} (T : Txt K w.params mg) (C : ∀ g : Fn, g ≠ .f_law → calOf P w K mg base k g (cl g)) (f : Addr) (cdv : Value) (A : Around) (outer : List Env) (s : Shared) (H : Hp) (E : XK) (hr : RoomG k (A.deeper (envOfC "Loose.handed" (defScope s_Loose_handed) s.heap.objs.size f cdv))) :
    PSs (cxOf (L2.CX P w) P w K mg base ["self", "thing"] "Loose.handed" (defScope s_Loose_handed) f cdv A outer s H E) (defBody s_Loose_handed) (tS (cxOf (L2.CX P w) P w K mg base ["self", "thing"] "Loose.handed" (defScope s_Loose_handed) f cdv A outer s H E) (fun c d _ H => E c d H) (b_Loose_handed cl)) := by
  have tk : Takes (cxOf (L2.CX P w) P w K mg base ["self", "thing"] "Loose.handed" (defScope s_Loose_handed) f cdv A outer s H E) (fun c d _ H => E c d H) := takes_of rfl rfl rfl rfl
  have nd := sc_Loose_handed.nd
  exact (q_last (q_ret (q_call (C .f_opened (fun z => nomatch z)) hr tk rfl (q_cons (q_ix (q_fld (q_var 0) T.g_kind) q_int) (q_cons (q_tup (q_cons q_str (q_cons (q_fld (q_var 0) T.g_chain) (q_cons (q_ix (q_fld (q_var 0) T.g_kind) q_int) (q_cons (q_var 1) q_nil))))) q_nil)))))
theorem ok_Bound___init__ {k : Nat} {cl : Fn → FF} (T : Txt K w.params mg) (C : ∀ g : Fn, g ≠ .f_law → calOf P w K mg base k g (cl g)) (f : Addr) (cdv : Value) (A : Around) (outer : List Env) (s : Shared) (H : Hp) (E : XK) (hr : RoomG k (A.deeper (envOfC "Bound.__init__" (defScope s_Bound___init__) s.heap.objs.size f cdv))) :
    PSs (cxOf (L2.CX P w) P w K mg base ["self", "body", "things"] "Bound.__init__" (defScope s_Bound___init__) f cdv A outer s H E) (defBody s_Bound___init__) (tS (cxOf (L2.CX P w) P w K mg base ["self", "body", "things"] "Bound.__init__" (defScope s_Bound___init__) f cdv A outer s H E) (fun c d _ H => E c d H) (b_Bound___init__ cl)) := by
  have tk : Takes (cxOf (L2.CX P w) P w K mg base ["self", "body", "things"] "Bound.__init__" (defScope s_Bound___init__) f cdv A outer s H E) (fun c d _ H => E c d H) := takes_of rfl rfl rfl rfl
  have nd := sc_Bound___init__.nd
  exact (q_seq (q_sfl (q_var 0) (q_var 1) T.g_body)
    (q_last (q_sfl (q_var 0) (q_var 2) T.g_things)))
theorem ok_Bound_handed {k : Nat} {cl : Fn → FF} (T : Txt K w.params mg) (C : ∀ g : Fn, g ≠ .f_law → calOf P w K mg base k g (cl g)) (f : Addr) (cdv : Value) (A : Around) (outer : List Env) (s : Shared) (H : Hp) (E : XK) (hr : RoomG k (A.deeper (envOfC "Bound.handed" (defScope s_Bound_handed) s.heap.objs.size f cdv))) :
    PSs (cxOf (L2.CX P w) P w K mg base ["self", "thing"] "Bound.handed" (defScope s_Bound_handed) f cdv A outer s H E) (defBody s_Bound_handed) (tS (cxOf (L2.CX P w) P w K mg base ["self", "thing"] "Bound.handed" (defScope s_Bound_handed) f cdv A outer s H E) (fun c d _ H => E c d H) (b_Bound_handed cl)) := by
  have tk : Takes (cxOf (L2.CX P w) P w K mg base ["self", "thing"] "Bound.handed" (defScope s_Bound_handed) f cdv A outer s H E) (fun c d _ H => E c d H) := takes_of rfl rfl rfl rfl
  have nd := sc_Bound_handed.nd
  exact (q_last (q_ret (q_call (C .f_meant (fun z => nomatch z)) hr tk rfl (q_cons (q_fld (q_var 0) T.g_body) (q_cons (q_op op_addU addU_v (q_fld (q_var 0) T.g_things) (q_lst (q_cons (q_var 1) q_nil))) q_nil)))))
theorem ok_Leaf___init__ {k : Nat} {cl : Fn → FF} (T : Txt K w.params mg) (C : ∀ g : Fn, g ≠ .f_law → calOf P w K mg base k g (cl g)) (f : Addr) (cdv : Value) (A : Around) (outer : List Env) (s : Shared) (H : Hp) (E : XK) (hr : RoomG k (A.deeper (envOfC "Leaf.__init__" (defScope s_Leaf___init__) s.heap.objs.size f cdv))) :
    PSs (cxOf (L2.CX P w) P w K mg base ["self", "term"] "Leaf.__init__" (defScope s_Leaf___init__) f cdv A outer s H E) (defBody s_Leaf___init__) (tS (cxOf (L2.CX P w) P w K mg base ["self", "term"] "Leaf.__init__" (defScope s_Leaf___init__) f cdv A outer s H E) (fun c d _ H => E c d H) (b_Leaf___init__ cl)) := by
  have tk : Takes (cxOf (L2.CX P w) P w K mg base ["self", "term"] "Leaf.__init__" (defScope s_Leaf___init__) f cdv A outer s H E) (fun c d _ H => E c d H) := takes_of rfl rfl rfl rfl
  have nd := sc_Leaf___init__.nd
  exact (q_last (q_sfl (q_var 0) (q_var 1) T.g_term))
theorem ok_Leaf_got {k : Nat} {cl : Fn → FF} (T : Txt K w.params mg) (C : ∀ g : Fn, g ≠ .f_law → calOf P w K mg base k g (cl g)) (f : Addr) (cdv : Value) (A : Around) (outer : List Env) (s : Shared) (H : Hp) (E : XK) (hr : RoomG k (A.deeper (envOfC "Leaf.got" (defScope s_Leaf_got) s.heap.objs.size f cdv))) :
    PSs (cxOf (L2.CX P w) P w K mg base ["self", "depth", "wanted"] "Leaf.got" (defScope s_Leaf_got) f cdv A outer s H E) (defBody s_Leaf_got) (tS (cxOf (L2.CX P w) P w K mg base ["self", "depth", "wanted"] "Leaf.got" (defScope s_Leaf_got) f cdv A outer s H E) (fun c d _ H => E c d H) (b_Leaf_got cl)) := by
  have tk : Takes (cxOf (L2.CX P w) P w K mg base ["self", "depth", "wanted"] "Leaf.got" (defScope s_Leaf_got) f cdv A outer s H E) (fun c d _ H => E c d H) := takes_of rfl rfl rfl rfl
  have nd := sc_Leaf_got.nd
  exact (q_last (q_ret (q_fld (q_var 0) T.g_term)))
theorem ok_Result___init__ {k : Nat} {cl : Fn → FF} (T : Txt K w.params mg) (C : ∀ g : Fn, g ≠ .f_law → calOf P w K mg base k g (cl g)) (f : Addr) (cdv : Value) (A : Around) (outer : List Env) (s : Shared) (H : Hp) (E : XK) (hr : RoomG k (A.deeper (envOfC "Result.__init__" (defScope s_Result___init__) s.heap.objs.size f cdv))) :
    PSs (cxOf (L2.CX P w) P w K mg base ["self", "term", "kind", "place"] "Result.__init__" (defScope s_Result___init__) f cdv A outer s H E) (defBody s_Result___init__) (tS (cxOf (L2.CX P w) P w K mg base ["self", "term", "kind", "place"] "Result.__init__" (defScope s_Result___init__) f cdv A outer s H E) (fun c d _ H => E c d H) (b_Result___init__ cl)) := by
  have tk : Takes (cxOf (L2.CX P w) P w K mg base ["self", "term", "kind", "place"] "Result.__init__" (defScope s_Result___init__) f cdv A outer s H E) (fun c d _ H => E c d H) := takes_of rfl rfl rfl rfl
  have nd := sc_Result___init__.nd
  exact (q_seq (q_sfl (q_var 0) (q_var 1) T.g_term)
    (q_seq (q_sfl (q_var 0) (q_var 2) T.g_kind)
    (q_seq (q_sfl (q_var 0) (q_var 3) T.g_place)
    (q_seq (q_sfl (q_var 0) (q_ix (q_call (C .f_plain_form (fun z => nomatch z)) hr tk rfl (q_cons (q_ix (q_var 2) q_int) q_nil)) (q_var 3)) T.g_factor)
    (q_last (q_sfl (q_var 0) (q_call (C .f_order_of (fun z => nomatch z)) hr tk rfl (q_cons (q_call (C .f_wants_with (fun z => nomatch z)) hr tk rfl (q_cons (q_fld (q_var 0) T.g_factor) (q_cons (q_call (C .f_plain_form (fun z => nomatch z)) hr tk rfl (q_cons (q_ix (q_var 2) q_int) q_nil)) q_nil))) q_nil)) T.g_order))))))
theorem ok_Result_got {k : Nat} {cl : Fn → FF} (T : Txt K w.params mg) (C : ∀ g : Fn, g ≠ .f_law → calOf P w K mg base k g (cl g)) (f : Addr) (cdv : Value) (A : Around) (outer : List Env) (s : Shared) (H : Hp) (E : XK) (hr : RoomG k (A.deeper (envOfC "Result.got" (defScope s_Result_got) s.heap.objs.size f cdv))) :
    PSs (cxOf (L2.CX P w) P w K mg base ["self", "depth", "wanted", "some", "many", "given"] "Result.got" (defScope s_Result_got) f cdv A outer s H E) (defBody s_Result_got) (tS (cxOf (L2.CX P w) P w K mg base ["self", "depth", "wanted", "some", "many", "given"] "Result.got" (defScope s_Result_got) f cdv A outer s H E) (fun c d _ H => E c d H) (b_Result_got cl)) := by
  have tk : Takes (cxOf (L2.CX P w) P w K mg base ["self", "depth", "wanted", "some", "many", "given"] "Result.got" (defScope s_Result_got) f cdv A outer s H E) (fun c d _ H => E c d H) := takes_of rfl rfl rfl rfl
  have nd := sc_Result_got.nd
  exact (q_seq (q_set (i := 3) nd rfl (by first | exact Or.inl rfl | exact Or.inr rfl) (q_call (C .f_put_back (fun z => nomatch z)) hr tk rfl (q_cons (q_var 2) (q_cons (q_fld (q_var 0) T.g_order) q_nil))))
    (q_seq (q_set (i := 4) nd rfl (by first | exact Or.inl rfl | exact Or.inr rfl) (q_callB call_len len_v rfl T.m_len PySem.boot_len (q_cons (q_ix (q_fld (q_var 0) T.g_factor) q_int) q_nil)))
    (q_seq (q_set (i := 5) nd rfl (by first | exact Or.inl rfl | exact Or.inr rfl) (q_call (C .f_built (fun z => nomatch z)) hr tk rfl (q_cons (q_ix (q_fld (q_var 0) T.g_kind) q_int) (q_cons (q_slice (q_var 3) (q_some (q_var 4)) q_none) (q_cons (q_var 1) q_nil)))))
    (q_last (q_ret (q_me (q_ix (q_call (C .f_parts (fun z => nomatch z)) hr tk rfl (q_cons (q_ix (q_fld (q_var 0) T.g_kind) q_int) (q_cons (q_tup (q_cons q_str (q_cons (q_fld (q_var 0) T.g_term) (q_cons (q_var 5) q_nil)))) q_nil))) (q_fld (q_var 0) T.g_place)) (dm_cons (C .f_Leaf_got (fun z => nomatch z)) (dm_cons (C .f_Result_got (fun z => nomatch z)) (dm_cons (C .f_Body_got (fun z => nomatch z)) dm_nil))) hr tk (q_cons (q_var 1) (q_cons (q_slice (q_var 3) q_none (q_some (q_var 4))) q_nil))))))))
theorem ok_Body___init__ {k : Nat} {cl : Fn → FF} (T : Txt K w.params mg) (C : ∀ g : Fn, g ≠ .f_law → calOf P w K mg base k g (cl g)) (f : Addr) (cdv : Value) (A : Around) (outer : List Env) (s : Shared) (H : Hp) (E : XK) (hr : RoomG k (A.deeper (envOfC "Body.__init__" (defScope s_Body___init__) s.heap.objs.size f cdv))) :
    PSs (cxOf (L2.CX P w) P w K mg base ["self", "part", "order", "taken"] "Body.__init__" (defScope s_Body___init__) f cdv A outer s H E) (defBody s_Body___init__) (tS (cxOf (L2.CX P w) P w K mg base ["self", "part", "order", "taken"] "Body.__init__" (defScope s_Body___init__) f cdv A outer s H E) (fun c d _ H => E c d H) (b_Body___init__ cl)) := by
  have tk : Takes (cxOf (L2.CX P w) P w K mg base ["self", "part", "order", "taken"] "Body.__init__" (defScope s_Body___init__) f cdv A outer s H E) (fun c d _ H => E c d H) := takes_of rfl rfl rfl rfl
  have nd := sc_Body___init__.nd
  exact (q_seq (q_sfl (q_var 0) (q_var 1) T.g_part)
    (q_seq (q_sfl (q_var 0) (q_var 2) T.g_order)
    (q_last (q_sfl (q_var 0) (q_var 3) T.g_taken))))
theorem ok_Body_got {k : Nat} {cl : Fn → FF} (T : Txt K w.params mg) (C : ∀ g : Fn, g ≠ .f_law → calOf P w K mg base k g (cl g)) (f : Addr) (cdv : Value) (A : Around) (outer : List Env) (s : Shared) (H : Hp) (E : XK) (hr : RoomG k (A.deeper (envOfC "Body.got" (defScope s_Body_got) s.heap.objs.size f cdv))) :
    PSs (cxOf (L2.CX P w) P w K mg base ["self", "depth", "wanted", "some", "place"] "Body.got" (defScope s_Body_got) f cdv A outer s H E) (defBody s_Body_got) (tS (cxOf (L2.CX P w) P w K mg base ["self", "depth", "wanted", "some", "place"] "Body.got" (defScope s_Body_got) f cdv A outer s H E) (fun c d _ H => E c d H) (b_Body_got cl)) := by
  have tk : Takes (cxOf (L2.CX P w) P w K mg base ["self", "depth", "wanted", "some", "place"] "Body.got" (defScope s_Body_got) f cdv A outer s H E) (fun c d _ H => E c d H) := takes_of rfl rfl rfl rfl
  have nd := sc_Body_got.nd
  exact (q_seq (q_set (i := 3) nd rfl (by first | exact Or.inl rfl | exact Or.inr rfl) (q_op op_addU addU_v (q_var 2) (q_fld (q_var 0) T.g_taken)))
    (q_last (q_ret (q_me (q_fld (q_var 0) T.g_part) (dm_cons (C .f_Leaf_got (fun z => nomatch z)) (dm_cons (C .f_Result_got (fun z => nomatch z)) (dm_cons (C .f_Body_got (fun z => nomatch z)) dm_nil))) hr tk (q_cons (q_var 1) (q_cons (q_lc (own := [("place", 4)]) rfl nd (qi_list (q_fld (q_var 0) T.g_order)) (blkOk_by (own := [("place", 4)]) (by rfl)) (by decide) (fun _ _ _ _ _ => (q_gn (i := 4) nd rfl (by first | exact Or.inl rfl | exact Or.inr rfl))) (fun _ _ _ _ _ => qts_nil) (fun _ _ _ _ _ => (q_ix (q_var 3) (q_var 4)))) q_nil))))))
theorem ok_is_from {k : Nat} {cl : Fn → FF} (T : Txt K w.params mg) (C : ∀ g : Fn, g ≠ .f_law → calOf P w K mg base k g (cl g)) (f : Addr) (cdv : Value) (A : Around) (outer : List Env) (s : Shared) (H : Hp) (E : XK) (hr : RoomG k (A.deeper (envOfC "is_from" (defScope s_is_from) s.heap.objs.size f cdv))) :
    PSs (cxOf (L2.CX P w) P w K mg base ["thing", "low", "high"] "is_from" (defScope s_is_from) f cdv A outer s H E) (defBody s_is_from) (tS (cxOf (L2.CX P w) P w K mg base ["thing", "low", "high"] "is_from" (defScope s_is_from) f cdv A outer s H E) (fun c d _ H => E c d H) (b_is_from cl)) := by
  have tk : Takes (cxOf (L2.CX P w) P w K mg base ["thing", "low", "high"] "is_from" (defScope s_is_from) f cdv A outer s H E) (fun c d _ H => E c d H) := takes_of rfl rfl rfl rfl
  have nd := sc_is_from.nd
  exact (q_last (q_ret (q_and (q_isi rfl T.m_isinstance rfl T.m_int (by decide +kernel) (by decide) (q_var 0)) (q_and (q_not (q_isi rfl T.m_isinstance rfl T.m_bool (by decide +kernel) (by decide) (q_var 0))) (q_one (q_chain op_le (cmp_v _) op_le (cmp_v _) (q_var 1) (q_var 0) (q_var 2)))))))
theorem ok_inner_of {k : Nat} {cl : Fn → FF} (T : Txt K w.params mg) (C : ∀ g : Fn, g ≠ .f_law → calOf P w K mg base k g (cl g)) (f : Addr) (cdv : Value) (A : Around) (outer : List Env) (s : Shared) (H : Hp) (E : XK) (hr : RoomG k (A.deeper (envOfC "inner_of" (defScope s_inner_of) s.heap.objs.size f cdv))) :
    PSs (cxOf (L2.CX P w) P w K mg base ["thing"] "inner_of" (defScope s_inner_of) f cdv A outer s H E) (defBody s_inner_of) (tS (cxOf (L2.CX P w) P w K mg base ["thing"] "inner_of" (defScope s_inner_of) f cdv A outer s H E) (fun c d _ H => E c d H) (b_inner_of cl)) := by
  have tk : Takes (cxOf (L2.CX P w) P w K mg base ["thing"] "inner_of" (defScope s_inner_of) f cdv A outer s H E) (fun c d _ H => E c d H) := takes_of rfl rfl rfl rfl
  have nd := sc_inner_of.nd
  exact (q_seq (q_ifS (PW.pt (qw_or (qt_not (qt_tru (q_isi rfl T.m_isinstance rfl T.m_tuple (by decide +kernel) (by decide) (q_var 0)))) (qw_or (qt_cmp (op_eqU (by have z := hu2 hr; exact z)) eqP_v (q_callB call_len len_v rfl T.m_len PySem.boot_len (q_cons (q_var 0) q_nil)) q_int (nomark _)) (qw_one (qt_not (qt_tru (q_isi rfl T.m_isinstance rfl T.m_str (by decide +kernel) (by decide) (q_ix (q_var 0) q_int)))))))) (q_last (q_ret q_non)) q_snil)
    (q_seq (q_ifS (qt_cmp (op_eqU (by have z := hu2 hr; exact z)) eqP_v (q_ix (q_var 0) q_int) q_str (nomark _)) (q_last (q_ret (q_if (PW.pt (qw_and (qt_cmp (op_eqU (by have z := hu2 hr; exact z)) eqP_v (q_callB call_len len_v rfl T.m_len PySem.boot_len (q_cons (q_var 0) q_nil)) q_int (nomark _)) (qw_one (qt_tru (q_call (C .f_is_from (fun z => nomatch z)) hr tk rfl (q_cons (q_ix (q_var 0) q_int) (q_cons q_int (q_cons (q_op op_sub sub_v (q_callB call_len len_v rfl T.m_len PySem.boot_len (q_cons (q_gc T.c_LETTERS rfl) q_nil)) q_int) q_nil)))))))) (q_lst q_nil) q_non))) q_snil)
    (q_seq (q_ifS (qt_cmp (op_eqU (by have z := hu2 hr; exact z)) eqP_v (q_ix (q_var 0) q_int) q_str (nomark _)) (q_last (q_ret (q_if (qt_cmp (op_eqU (by have z := hu2 hr; exact z)) eqP_v (q_callB call_len len_v rfl T.m_len PySem.boot_len (q_cons (q_var 0) q_nil)) q_int (nomark _)) (q_lst q_nil) q_non))) q_snil)
    (q_last (q_ret (q_if (PW.pt (qw_and (qt_inG T.c_MARKS (q_ix (q_var 0) q_int) (q_gd T.c_MARKS rfl)) (qw_one (qt_cmp (op_eqU (by have z := hu2 hr; exact z)) eqP_v (q_callB call_len len_v rfl T.m_len PySem.boot_len (q_cons (q_var 0) q_nil)) q_int (nomark _))))) (q_callTy call_list_of list_v rfl T.m_list (by decide +kernel) (q_cons (q_slice (q_var 0) (q_some q_int) q_none) q_nil)) q_non))))))
theorem ok_is_kind {k : Nat} {cl : Fn → FF} (T : Txt K w.params mg) (C : ∀ g : Fn, g ≠ .f_law → calOf P w K mg base k g (cl g)) (f : Addr) (cdv : Value) (A : Around) (outer : List Env) (s : Shared) (H : Hp) (E : XK) (hr : RoomG k (A.deeper (envOfC "is_kind" (defScope s_is_kind) s.heap.objs.size f cdv))) :
    PSs (cxOf (L2.CX P w) P w K mg base ["thing", "left", "inner"] "is_kind" (defScope s_is_kind) f cdv A outer s H E) (defBody s_is_kind) (tS (cxOf (L2.CX P w) P w K mg base ["thing", "left", "inner"] "is_kind" (defScope s_is_kind) f cdv A outer s H E) (fun c d _ H => E c d H) (b_is_kind cl)) := by
  have tk : Takes (cxOf (L2.CX P w) P w K mg base ["thing", "left", "inner"] "is_kind" (defScope s_is_kind) f cdv A outer s H E) (fun c d _ H => E c d H) := takes_of rfl rfl rfl rfl
  have nd := sc_is_kind.nd
  exact (q_seq (q_set (i := 1) nd rfl (by first | exact Or.inl rfl | exact Or.inr rfl) (q_cel (q_cons (q_var 0) q_nil)))
    (q_seq (q_while (passes_of rfl) (qt_cmp (op_neU (by have z := hu2 hr; exact z)) neP_v (q_var 1) (q_lst q_nil) (nomark _)) (q_seq (q_set (i := 2) nd rfl (by first | exact Or.inl rfl | exact Or.inr rfl) (q_call (C .f_inner_of (fun z => nomatch z)) hr tk rfl (q_cons (q_mth0 PySem.F.slot_list_pop PySem.F.type_list_pop mt_pop pop0_v (q_var 1)) q_nil)))
    (q_seq (q_ifS (qt_cmp op_isU isU_v (q_var 2) q_non (nomark _)) (q_last (q_ret q_bl)) q_snil)
    (q_last (q_expr (q_mth PySem.F.slot_list_extend PySem.F.type_list_extend mt_extend extend_v (q_var 1) (q_cons (q_var 2) q_nil)))))))
    (q_last (q_ret q_bl))))
theorem ok_sure_kind {k : Nat} {cl : Fn → FF} (T : Txt K w.params mg) (C : ∀ g : Fn, g ≠ .f_law → calOf P w K mg base k g (cl g)) (f : Addr) (cdv : Value) (A : Around) (outer : List Env) (s : Shared) (H : Hp) (E : XK) (hr : RoomG k (A.deeper (envOfC "sure_kind" (defScope s_sure_kind) s.heap.objs.size f cdv))) :
    PSs (cxOf (L2.CX P w) P w K mg base ["thing"] "sure_kind" (defScope s_sure_kind) f cdv A outer s H E) (defBody s_sure_kind) (tS (cxOf (L2.CX P w) P w K mg base ["thing"] "sure_kind" (defScope s_sure_kind) f cdv A outer s H E) (fun c d _ H => E c d H) (b_sure_kind cl)) := by
  have tk : Takes (cxOf (L2.CX P w) P w K mg base ["thing"] "sure_kind" (defScope s_sure_kind) f cdv A outer s H E) (fun c d _ H => E c d H) := takes_of rfl rfl rfl rfl
  have nd := sc_sure_kind.nd
  exact (q_last (q_ifS (qt_not (qt_tru (q_call (C .f_is_kind (fun z => nomatch z)) hr tk rfl (q_cons (q_var 0) q_nil)))) (q_last (q_raise rfl tk T.x_NoKind rfl)) q_snil))
theorem ok_order_of {k : Nat} {cl : Fn → FF} (T : Txt K w.params mg) (C : ∀ g : Fn, g ≠ .f_law → calOf P w K mg base k g (cl g)) (f : Addr) (cdv : Value) (A : Around) (outer : List Env) (s : Shared) (H : Hp) (E : XK) (B : TbF K mg base "order_of" cdv) (hr : RoomG k (A.deeper (envOfC "order_of" (defScope s_order_of) s.heap.objs.size f cdv))) :
    PSs (cxOf (L2.CX P w) P w K mg base ["things"] "order_of" (defScope s_order_of) f cdv A outer s H E) (defBody s_order_of) (tS (cxOf (L2.CX P w) P w K mg base ["things"] "order_of" (defScope s_order_of) f cdv A outer s H E) (fun c d _ H => E c d H) (b_order_of cl)) := by
  have tk : Takes (cxOf (L2.CX P w) P w K mg base ["things"] "order_of" (defScope s_order_of) f cdv A outer s H E) (fun c d _ H => E c d H) := takes_of rfl rfl rfl rfl
  have nd := sc_order_of.nd
  exact (q_last (q_ret (q_order (j := 1) (x := "order_of") rfl (hu2 hr) hr.rm.depth rfl T.m_sorted rfl T.m_range (q_callB call_len len_v rfl T.m_len PySem.boot_len (q_cons (q_var 0) q_nil)) rfl rfl B rfl)))
theorem ok_in_order {k : Nat} {cl : Fn → FF} (T : Txt K w.params mg) (C : ∀ g : Fn, g ≠ .f_law → calOf P w K mg base k g (cl g)) (f : Addr) (cdv : Value) (A : Around) (outer : List Env) (s : Shared) (H : Hp) (E : XK) (hr : RoomG k (A.deeper (envOfC "in_order" (defScope s_in_order) s.heap.objs.size f cdv))) :
    PSs (cxOf (L2.CX P w) P w K mg base ["things", "place"] "in_order" (defScope s_in_order) f cdv A outer s H E) (defBody s_in_order) (tS (cxOf (L2.CX P w) P w K mg base ["things", "place"] "in_order" (defScope s_in_order) f cdv A outer s H E) (fun c d _ H => E c d H) (b_in_order cl)) := by
  have tk : Takes (cxOf (L2.CX P w) P w K mg base ["things", "place"] "in_order" (defScope s_in_order) f cdv A outer s H E) (fun c d _ H => E c d H) := takes_of rfl rfl rfl rfl
  have nd := sc_in_order.nd
  exact (q_last (q_ret (q_lc (own := [("place", 1)]) rfl nd (qi_list (q_call (C .f_order_of (fun z => nomatch z)) hr tk rfl (q_cons (q_var 0) q_nil))) (blkOk_by (own := [("place", 1)]) (by rfl)) (by decide) (fun _ _ _ _ _ => (q_gn (i := 1) nd rfl (by first | exact Or.inl rfl | exact Or.inr rfl))) (fun _ _ _ _ _ => qts_nil) (fun _ _ _ _ _ => (q_ix (q_var 0) (q_var 1))))))
theorem ok_wants_with {k : Nat} {cl : Fn → FF} (T : Txt K w.params mg) (C : ∀ g : Fn, g ≠ .f_law → calOf P w K mg base k g (cl g)) (f : Addr) (cdv : Value) (A : Around) (outer : List Env) (s : Shared) (H : Hp) (E : XK) (hr : RoomG k (A.deeper (envOfC "wants_with" (defScope s_wants_with) s.heap.objs.size f cdv))) :
    PSs (cxOf (L2.CX P w) P w K mg base ["factor", "first"] "wants_with" (defScope s_wants_with) f cdv A outer s H E) (defBody s_wants_with) (tS (cxOf (L2.CX P w) P w K mg base ["factor", "first"] "wants_with" (defScope s_wants_with) f cdv A outer s H E) (fun c d _ H => E c d H) (b_wants_with cl)) := by
  have tk : Takes (cxOf (L2.CX P w) P w K mg base ["factor", "first"] "wants_with" (defScope s_wants_with) f cdv A outer s H E) (fun c d _ H => E c d H) := takes_of rfl rfl rfl rfl
  have nd := sc_wants_with.nd
  exact (q_last (q_ret (q_op op_addU addU_v (q_callTy call_list_of list_v rfl T.m_list (by decide +kernel) (q_cons (q_ix (q_var 0) q_int) q_nil)) (q_var 1))))
theorem ok_plain_form {k : Nat} {cl : Fn → FF} (T : Txt K w.params mg) (C : ∀ g : Fn, g ≠ .f_law → calOf P w K mg base k g (cl g)) (f : Addr) (cdv : Value) (A : Around) (outer : List Env) (s : Shared) (H : Hp) (E : XK) (hr : RoomG k (A.deeper (envOfC "plain_form" (defScope s_plain_form) s.heap.objs.size f cdv))) :
    PSs (cxOf (L2.CX P w) P w K mg base ["kind", "first", "second", "factor"] "plain_form" (defScope s_plain_form) f cdv A outer s H E) (defBody s_plain_form) (tS (cxOf (L2.CX P w) P w K mg base ["kind", "first", "second", "factor"] "plain_form" (defScope s_plain_form) f cdv A outer s H E) (fun c d _ H => E c d H) (b_plain_form cl)) := by
  have tk : Takes (cxOf (L2.CX P w) P w K mg base ["kind", "first", "second", "factor"] "plain_form" (defScope s_plain_form) f cdv A outer s H E) (fun c d _ H => E c d H) := takes_of rfl rfl rfl rfl
  have nd := sc_plain_form.nd
  exact (q_seq (q_ifS (qt_cmp (op_eqU (by have z := hu2 hr; exact z)) eqP_v (q_ix (q_var 0) q_int) q_str (nomark _)) (q_last (q_ret (q_lst (q_cons (q_tup (q_cons (q_tup q_nil) (q_cons (q_ix (q_var 0) q_int) q_nil))) q_nil)))) q_snil)
    (q_seq (q_ifS (qt_cmp (op_eqU (by have z := hu2 hr; exact z)) eqP_v (q_ix (q_var 0) q_int) q_str (nomark _)) (q_last (q_ret (q_lst q_nil))) q_snil)
    (q_seq (q_set (i := 1) nd rfl (by first | exact Or.inl rfl | exact Or.inr rfl) (q_call (C .f_plain_form (fun z => nomatch z)) hr tk rfl (q_cons (q_ix (q_var 0) q_int) q_nil)))
    (q_seq (q_set (i := 2) nd rfl (by first | exact Or.inl rfl | exact Or.inr rfl) (q_call (C .f_plain_form (fun z => nomatch z)) hr tk rfl (q_cons (q_ix (q_var 0) q_int) q_nil)))
    (q_seq (q_ifS (qt_cmp (op_eqU (by have z := hu2 hr; exact z)) eqP_v (q_ix (q_var 0) q_int) q_str (nomark _)) (q_last (q_ret (q_call (C .f_in_order (fun z => nomatch z)) hr tk rfl (q_cons (q_op op_addU addU_v (q_var 1) (q_var 2)) q_nil)))) q_snil)
    (q_last (q_ret (q_call (C .f_in_order (fun z => nomatch z)) hr tk rfl (q_cons (q_lc (own := [("factor", 3)]) rfl nd (qi_list (q_var 2)) (blkOk_by (own := [("factor", 3)]) (by rfl)) (by decide) (fun _ _ _ _ _ => (q_gn (i := 3) nd rfl (by first | exact Or.inl rfl | exact Or.inr rfl))) (fun _ _ _ _ _ => qts_nil) (fun _ _ _ _ _ => (q_tup (q_cons (q_callTy call_tuple_of tuple_v rfl T.m_tuple (by decide +kernel) (q_cons (q_call (C .f_in_order (fun z => nomatch z)) hr takes0 rfl (q_cons (q_call (C .f_wants_with (fun z => nomatch z)) hr takes0 rfl (q_cons (q_var 3) (q_cons (q_var 1) q_nil))) q_nil)) q_nil)) (q_cons (q_ix (q_var 3) q_int) q_nil))))) q_nil)))))))))
theorem ok_form {k : Nat} {cl : Fn → FF} (T : Txt K w.params mg) (C : ∀ g : Fn, g ≠ .f_law → calOf P w K mg base k g (cl g)) (f : Addr) (cdv : Value) (A : Around) (outer : List Env) (s : Shared) (H : Hp) (E : XK) (hr : RoomG k (A.deeper (envOfC "form" (defScope s_form) s.heap.objs.size f cdv))) :
    PSs (cxOf (L2.CX P w) P w K mg base ["kind"] "form" (defScope s_form) f cdv A outer s H E) (defBody s_form) (tS (cxOf (L2.CX P w) P w K mg base ["kind"] "form" (defScope s_form) f cdv A outer s H E) (fun c d _ H => E c d H) (b_form cl)) := by
  have tk : Takes (cxOf (L2.CX P w) P w K mg base ["kind"] "form" (defScope s_form) f cdv A outer s H E) (fun c d _ H => E c d H) := takes_of rfl rfl rfl rfl
  have nd := sc_form.nd
  exact (q_seq (q_expr (q_call (C .f_sure_kind (fun z => nomatch z)) hr tk rfl (q_cons (q_var 0) q_nil)))
    (q_last (q_ret (q_call (C .f_plain_form (fun z => nomatch z)) hr tk rfl (q_cons (q_var 0) q_nil)))))
theorem ok_alike {k : Nat} {cl : Fn → FF} (T : Txt K w.params mg) (C : ∀ g : Fn, g ≠ .f_law → calOf P w K mg base k g (cl g)) (f : Addr) (cdv : Value) (A : Around) (outer : List Env) (s : Shared) (H : Hp) (E : XK) (hr : RoomG k (A.deeper (envOfC "alike" (defScope s_alike) s.heap.objs.size f cdv))) :
    PSs (cxOf (L2.CX P w) P w K mg base ["one", "other"] "alike" (defScope s_alike) f cdv A outer s H E) (defBody s_alike) (tS (cxOf (L2.CX P w) P w K mg base ["one", "other"] "alike" (defScope s_alike) f cdv A outer s H E) (fun c d _ H => E c d H) (b_alike cl)) := by
  have tk : Takes (cxOf (L2.CX P w) P w K mg base ["one", "other"] "alike" (defScope s_alike) f cdv A outer s H E) (fun c d _ H => E c d H) := takes_of rfl rfl rfl rfl
  have nd := sc_alike.nd
  exact (q_last (q_ret (q_cmp (op_eqU (by have z := hu2 hr; exact z)) eqP_v (q_call (C .f_form (fun z => nomatch z)) hr tk rfl (q_cons (q_var 0) q_nil)) (q_call (C .f_form (fun z => nomatch z)) hr tk rfl (q_cons (q_var 1) q_nil)) (nomark _))))
theorem ok_is_base {k : Nat} {cl : Fn → FF} (T : Txt K w.params mg) (C : ∀ g : Fn, g ≠ .f_law → calOf P w K mg base k g (cl g)) (f : Addr) (cdv : Value) (A : Around) (outer : List Env) (s : Shared) (H : Hp) (E : XK) (hr : RoomG k (A.deeper (envOfC "is_base" (defScope s_is_base) s.heap.objs.size f cdv))) :
    PSs (cxOf (L2.CX P w) P w K mg base ["thing"] "is_base" (defScope s_is_base) f cdv A outer s H E) (defBody s_is_base) (tS (cxOf (L2.CX P w) P w K mg base ["thing"] "is_base" (defScope s_is_base) f cdv A outer s H E) (fun c d _ H => E c d H) (b_is_base cl)) := by
  have tk : Takes (cxOf (L2.CX P w) P w K mg base ["thing"] "is_base" (defScope s_is_base) f cdv A outer s H E) (fun c d _ H => E c d H) := takes_of rfl rfl rfl rfl
  have nd := sc_is_base.nd
  exact (q_last (q_ret (q_and (q_isi rfl T.m_isinstance rfl T.m_int (by decide +kernel) (by decide) (q_var 0)) (q_and (q_not (q_isi rfl T.m_isinstance rfl T.m_bool (by decide +kernel) (by decide) (q_var 0))) (q_one (q_chain op_le (cmp_v _) op_le (cmp_v _) q_int (q_var 0) (q_gc T.c_MOST_BASE rfl)))))))
theorem ok_is_factor {k : Nat} {cl : Fn → FF} (T : Txt K w.params mg) (C : ∀ g : Fn, g ≠ .f_law → calOf P w K mg base k g (cl g)) (f : Addr) (cdv : Value) (A : Around) (outer : List Env) (s : Shared) (H : Hp) (E : XK) (hr : RoomG k (A.deeper (envOfC "is_factor" (defScope s_is_factor) s.heap.objs.size f cdv))) :
    PSs (cxOf (L2.CX P w) P w K mg base ["thing", "want"] "is_factor" (defScope s_is_factor) f cdv A outer s H E) (defBody s_is_factor) (tS (cxOf (L2.CX P w) P w K mg base ["thing", "want"] "is_factor" (defScope s_is_factor) f cdv A outer s H E) (fun c d _ H => E c d H) (b_is_factor cl)) := by
  have tk : Takes (cxOf (L2.CX P w) P w K mg base ["thing", "want"] "is_factor" (defScope s_is_factor) f cdv A outer s H E) (fun c d _ H => E c d H) := takes_of rfl rfl rfl rfl
  have nd := sc_is_factor.nd
  exact (q_seq (q_ifS (PW.pt (qw_or (qt_not (qt_tru (q_isi rfl T.m_isinstance rfl T.m_tuple (by decide +kernel) (by decide) (q_var 0)))) (qw_or (qt_cmp (op_neU (by have z := hu2 hr; exact z)) neP_v (q_callB call_len len_v rfl T.m_len PySem.boot_len (q_cons (q_var 0) q_nil)) q_int (nomark _)) (qw_or (qt_not (qt_tru (q_call (C .f_is_base (fun z => nomatch z)) hr tk rfl (q_cons (q_ix (q_var 0) q_int) q_nil)))) (qw_one (qt_not (qt_tru (q_isi rfl T.m_isinstance rfl T.m_tuple (by decide +kernel) (by decide) (q_ix (q_var 0) q_int))))))))) (q_last (q_ret q_bl)) q_snil)
    (q_last (q_ret (q_and (q_callB (cr_all rfl) all_v rfl T.m_all (by decide +kernel) (q_cons (q_lc (own := [("want", 1)]) rfl nd (qi_tup (q_ix (q_var 0) q_int)) (blkOk_by (own := [("want", 1)]) (by rfl)) (by decide) (fun _ _ _ _ _ => (q_gn (i := 1) nd rfl (by first | exact Or.inl rfl | exact Or.inr rfl))) (fun _ _ _ _ _ => qts_nil) (fun _ _ _ _ _ => (q_call (C .f_is_factor (fun z => nomatch z)) hr takes0 rfl (q_cons (q_var 1) q_nil)))) q_nil)) (q_one (q_cmp (op_eqU (by have z := hu2 hr; exact z)) eqP_v (q_callTy call_list_of list_v rfl T.m_list (by decide +kernel) (q_cons (q_ix (q_var 0) q_int) q_nil)) (q_call (C .f_in_order (fun z => nomatch z)) hr tk rfl (q_cons (q_ix (q_var 0) q_int) q_nil)) (nomark _)))))))
theorem ok_is_form {k : Nat} {cl : Fn → FF} (T : Txt K w.params mg) (C : ∀ g : Fn, g ≠ .f_law → calOf P w K mg base k g (cl g)) (f : Addr) (cdv : Value) (A : Around) (outer : List Env) (s : Shared) (H : Hp) (E : XK) (hr : RoomG k (A.deeper (envOfC "is_form" (defScope s_is_form) s.heap.objs.size f cdv))) :
    PSs (cxOf (L2.CX P w) P w K mg base ["thing", "factor"] "is_form" (defScope s_is_form) f cdv A outer s H E) (defBody s_is_form) (tS (cxOf (L2.CX P w) P w K mg base ["thing", "factor"] "is_form" (defScope s_is_form) f cdv A outer s H E) (fun c d _ H => E c d H) (b_is_form cl)) := by
  have tk : Takes (cxOf (L2.CX P w) P w K mg base ["thing", "factor"] "is_form" (defScope s_is_form) f cdv A outer s H E) (fun c d _ H => E c d H) := takes_of rfl rfl rfl rfl
  have nd := sc_is_form.nd
  exact (q_last (q_ret (q_and (q_isi rfl T.m_isinstance rfl T.m_list (by decide +kernel) (by decide) (q_var 0)) (q_and (q_callB (cr_all rfl) all_v rfl T.m_all (by decide +kernel) (q_cons (q_lc (own := [("factor", 1)]) rfl nd (qi_list (q_var 0)) (blkOk_by (own := [("factor", 1)]) (by rfl)) (by decide) (fun _ _ _ _ _ => (q_gn (i := 1) nd rfl (by first | exact Or.inl rfl | exact Or.inr rfl))) (fun _ _ _ _ _ => qts_nil) (fun _ _ _ _ _ => (q_call (C .f_is_factor (fun z => nomatch z)) hr takes0 rfl (q_cons (q_var 1) q_nil)))) q_nil)) (q_one (q_cmp (op_eqU (by have z := hu2 hr; exact z)) eqP_v (q_var 0) (q_call (C .f_in_order (fun z => nomatch z)) hr tk rfl (q_cons (q_var 0) q_nil)) (nomark _)))))))
theorem ok_kind_by {k : Nat} {cl : Fn → FF} (T : Txt K w.params mg) (C : ∀ g : Fn, g ≠ .f_law → calOf P w K mg base k g (cl g)) (f : Addr) (cdv : Value) (A : Around) (outer : List Env) (s : Shared) (H : Hp) (E : XK) (hr : RoomG k (A.deeper (envOfC "kind_by" (defScope s_kind_by) s.heap.objs.size f cdv))) :
    PSs (cxOf (L2.CX P w) P w K mg base ["factors", "wants", "base", "first"] "kind_by" (defScope s_kind_by) f cdv A outer s H E) (defBody s_kind_by) (tS (cxOf (L2.CX P w) P w K mg base ["factors", "wants", "base", "first"] "kind_by" (defScope s_kind_by) f cdv A outer s H E) (fun c d _ H => E c d H) (b_kind_by cl)) := by
  have tk : Takes (cxOf (L2.CX P w) P w K mg base ["factors", "wants", "base", "first"] "kind_by" (defScope s_kind_by) f cdv A outer s H E) (fun c d _ H => E c d H) := takes_of rfl rfl rfl rfl
  have nd := sc_kind_by.nd
  exact (q_seq (q_ifS (qt_cmp (op_eqU (by have z := hu2 hr; exact z)) eqP_v (q_callB call_len len_v rfl T.m_len PySem.boot_len (q_cons (q_var 0) q_nil)) q_int (nomark _)) (q_last (q_ret (q_tup (q_cons q_str q_nil)))) q_snil)
    (q_seq (q_asg (q_ix (q_var 0) q_int) (q_gtu rfl (q_gscons (q_gn (i := 1) nd rfl (by first | exact Or.inl rfl | exact Or.inr rfl)) (q_gscons (q_gn (i := 2) nd rfl (by first | exact Or.inl rfl | exact Or.inr rfl)) q_gsnil))))
    (q_seq (q_set (i := 3) nd rfl (by first | exact Or.inl rfl | exact Or.inr rfl) (q_if (qt_cmp (op_eqU (by have z := hu2 hr; exact z)) eqP_v (q_var 1) (q_tup q_nil) (nomark _)) (q_tup (q_cons q_str (q_cons (q_var 2) q_nil))) (q_tup (q_cons q_str (q_cons (q_call (C .f_kind_by (fun z => nomatch z)) hr tk rfl (q_cons (q_var 1) q_nil)) (q_cons (q_tup (q_cons q_str (q_cons (q_var 2) q_nil))) q_nil))))))
    (q_last (q_ret (q_if (qt_cmp (op_eqU (by have z := hu2 hr; exact z)) eqP_v (q_callB call_len len_v rfl T.m_len PySem.boot_len (q_cons (q_var 0) q_nil)) q_int (nomark _)) (q_var 3) (q_tup (q_cons q_str (q_cons (q_var 3) (q_cons (q_call (C .f_kind_by (fun z => nomatch z)) hr tk rfl (q_cons (q_slice (q_var 0) (q_some q_int) q_none) q_nil)) q_nil))))))))))
theorem ok_kind_of {k : Nat} {cl : Fn → FF} (T : Txt K w.params mg) (C : ∀ g : Fn, g ≠ .f_law → calOf P w K mg base k g (cl g)) (f : Addr) (cdv : Value) (A : Around) (outer : List Env) (s : Shared) (H : Hp) (E : XK) (hr : RoomG k (A.deeper (envOfC "kind_of" (defScope s_kind_of) s.heap.objs.size f cdv))) :
    PSs (cxOf (L2.CX P w) P w K mg base ["form"] "kind_of" (defScope s_kind_of) f cdv A outer s H E) (defBody s_kind_of) (tS (cxOf (L2.CX P w) P w K mg base ["form"] "kind_of" (defScope s_kind_of) f cdv A outer s H E) (fun c d _ H => E c d H) (b_kind_of cl)) := by
  have tk : Takes (cxOf (L2.CX P w) P w K mg base ["form"] "kind_of" (defScope s_kind_of) f cdv A outer s H E) (fun c d _ H => E c d H) := takes_of rfl rfl rfl rfl
  have nd := sc_kind_of.nd
  exact (q_seq (q_ifS (qt_not (qt_tru (q_call (C .f_is_form (fun z => nomatch z)) hr tk rfl (q_cons (q_var 0) q_nil)))) (q_last (q_raise rfl tk T.x_NoForm rfl)) q_snil)
    (q_last (q_ret (q_call (C .f_kind_by (fun z => nomatch z)) hr tk rfl (q_cons (q_var 0) q_nil)))))
theorem ok_sure_given {k : Nat} {cl : Fn → FF} (T : Txt K w.params mg) (C : ∀ g : Fn, g ≠ .f_law → calOf P w K mg base k g (cl g)) (f : Addr) (cdv : Value) (A : Around) (outer : List Env) (s : Shared) (H : Hp) (E : XK) (hr : RoomG k (A.deeper (envOfC "sure_given" (defScope s_sure_given) s.heap.objs.size f cdv))) :
    PSs (cxOf (L2.CX P w) P w K mg base ["given", "kind"] "sure_given" (defScope s_sure_given) f cdv A outer s H E) (defBody s_sure_given) (tS (cxOf (L2.CX P w) P w K mg base ["given", "kind"] "sure_given" (defScope s_sure_given) f cdv A outer s H E) (fun c d _ H => E c d H) (b_sure_given cl)) := by
  have tk : Takes (cxOf (L2.CX P w) P w K mg base ["given", "kind"] "sure_given" (defScope s_sure_given) f cdv A outer s H E) (fun c d _ H => E c d H) := takes_of rfl rfl rfl rfl
  have nd := sc_sure_given.nd
  exact (q_last (q_ifS (PW.pt (qw_or (qt_not (qt_tru (q_isi rfl T.m_isinstance rfl T.m_list (by decide +kernel) (by decide) (q_var 0)))) (qw_one (qt_not (qt_tru (q_callB (cr_all rfl) all_v rfl T.m_all (by decide +kernel) (q_cons (q_lc (own := [("kind", 1)]) rfl nd (qi_list (q_var 0)) (blkOk_by (own := [("kind", 1)]) (by rfl)) (by decide) (fun _ _ _ _ _ => (q_gn (i := 1) nd rfl (by first | exact Or.inl rfl | exact Or.inr rfl))) (fun _ _ _ _ _ => qts_nil) (fun _ _ _ _ _ => (q_call (C .f_is_kind (fun z => nomatch z)) hr takes0 rfl (q_cons (q_var 1) q_nil)))) q_nil))))))) (q_last (q_raise rfl tk T.x_NoKind rfl)) q_snil))
theorem ok_is_shape {k : Nat} {cl : Fn → FF} (T : Txt K w.params mg) (C : ∀ g : Fn, g ≠ .f_law → calOf P w K mg base k g (cl g)) (f : Addr) (cdv : Value) (A : Around) (outer : List Env) (s : Shared) (H : Hp) (E : XK) (hr : RoomG k (A.deeper (envOfC "is_shape" (defScope s_is_shape) s.heap.objs.size f cdv))) :
    PSs (cxOf (L2.CX P w) P w K mg base ["thing"] "is_shape" (defScope s_is_shape) f cdv A outer s H E) (defBody s_is_shape) (tS (cxOf (L2.CX P w) P w K mg base ["thing"] "is_shape" (defScope s_is_shape) f cdv A outer s H E) (fun c d _ H => E c d H) (b_is_shape cl)) := by
  have tk : Takes (cxOf (L2.CX P w) P w K mg base ["thing"] "is_shape" (defScope s_is_shape) f cdv A outer s H E) (fun c d _ H => E c d H) := takes_of rfl rfl rfl rfl
  have nd := sc_is_shape.nd
  exact (q_seq (q_ifS (PW.pt (qw_or (qt_not (qt_tru (q_isi rfl T.m_isinstance rfl T.m_tuple (by decide +kernel) (by decide) (q_var 0)))) (qw_or (qt_cmp (op_eqU (by have z := hu2 hr; exact z)) eqP_v (q_callB call_len len_v rfl T.m_len PySem.boot_len (q_cons (q_var 0) q_nil)) q_int (nomark _)) (qw_one (qt_not (qt_tru (q_isi rfl T.m_isinstance rfl T.m_str (by decide +kernel) (by decide) (q_ix (q_var 0) q_int)))))))) (q_last (q_ret q_bl)) q_snil)
    (q_last (q_ret (q_cmp (op_eqU (by have z := hu2 hr; exact z)) eqP_v (q_getG T.c_PARTS (q_gd T.c_PARTS rfl) (q_ix (q_var 0) q_int)) (q_callB call_len len_v rfl T.m_len PySem.boot_len (q_cons (q_var 0) q_nil)) (nomark _)))))
theorem ok_kind_of_given {k : Nat} {cl : Fn → FF} (T : Txt K w.params mg) (C : ∀ g : Fn, g ≠ .f_law → calOf P w K mg base k g (cl g)) (f : Addr) (cdv : Value) (A : Around) (outer : List Env) (s : Shared) (H : Hp) (E : XK) (hr : RoomG k (A.deeper (envOfC "kind_of_given" (defScope s_kind_of_given) s.heap.objs.size f cdv))) :
    PSs (cxOf (L2.CX P w) P w K mg base ["k", "given"] "kind_of_given" (defScope s_kind_of_given) f cdv A outer s H E) (defBody s_kind_of_given) (tS (cxOf (L2.CX P w) P w K mg base ["k", "given"] "kind_of_given" (defScope s_kind_of_given) f cdv A outer s H E) (fun c d _ H => E c d H) (b_kind_of_given cl)) := by
  have tk : Takes (cxOf (L2.CX P w) P w K mg base ["k", "given"] "kind_of_given" (defScope s_kind_of_given) f cdv A outer s H E) (fun c d _ H => E c d H) := takes_of rfl rfl rfl rfl
  have nd := sc_kind_of_given.nd
  exact (q_seq (q_ifS (PW.pt (qw_or (qt_not (qt_tru (q_isi rfl T.m_isinstance rfl T.m_int (by decide +kernel) (by decide) (q_var 0)))) (qw_or (qt_tru (q_isi rfl T.m_isinstance rfl T.m_bool (by decide +kernel) (by decide) (q_var 0))) (qw_one (qt_not (qt_chain op_le (cmp_v _) op_lt (cmp_v _) q_int (q_var 0) (q_callB call_len len_v rfl T.m_len PySem.boot_len (q_cons (q_var 1) q_nil)))))))) (q_last (q_ret q_non)) q_snil)
    (q_last (q_ret (q_ix (q_var 1) (q_var 0)))))
theorem ok_kind_of_two {k : Nat} {cl : Fn → FF} (T : Txt K w.params mg) (C : ∀ g : Fn, g ≠ .f_law → calOf P w K mg base k g (cl g)) (f : Addr) (cdv : Value) (A : Around) (outer : List Env) (s : Shared) (H : Hp) (E : XK) (hr : RoomG k (A.deeper (envOfC "kind_of_two" (defScope s_kind_of_two) s.heap.objs.size f cdv))) :
    PSs (cxOf (L2.CX P w) P w K mg base ["word", "one", "other"] "kind_of_two" (defScope s_kind_of_two) f cdv A outer s H E) (defBody s_kind_of_two) (tS (cxOf (L2.CX P w) P w K mg base ["word", "one", "other"] "kind_of_two" (defScope s_kind_of_two) f cdv A outer s H E) (fun c d _ H => E c d H) (b_kind_of_two cl)) := by
  have tk : Takes (cxOf (L2.CX P w) P w K mg base ["word", "one", "other"] "kind_of_two" (defScope s_kind_of_two) f cdv A outer s H E) (fun c d _ H => E c d H) := takes_of rfl rfl rfl rfl
  have nd := sc_kind_of_two.nd
  exact (q_seq (q_ifS (PW.pt (qw_or (qt_cmp op_isU isU_v (q_var 1) q_non (nomark _)) (qw_one (qt_cmp op_isU isU_v (q_var 2) q_non (nomark _))))) (q_last (q_ret q_non)) q_snil)
    (q_seq (q_ifS (qt_cmp (op_eqU (by have z := hu2 hr; exact z)) eqP_v (q_var 0) q_str (nomark _)) (q_last (q_ret (q_tup (q_cons q_str (q_cons (q_var 1) (q_cons (q_var 2) q_nil)))))) q_snil)
    (q_last (q_ret (q_if (PW.pt (qw_and (qt_cmp (op_eqU (by have z := hu2 hr; exact z)) eqP_v (q_ix (q_var 1) q_int) q_str (nomark _)) (qw_one (qt_cmp (op_eqU (by have z := hu2 hr; exact z)) eqP_v (q_ix (q_var 1) q_int) (q_var 2) (nomark _))))) (q_ix (q_var 1) q_int) q_non)))))
theorem ok_kind_in {k : Nat} {cl : Fn → FF} (T : Txt K w.params mg) (C : ∀ g : Fn, g ≠ .f_law → calOf P w K mg base k g (cl g)) (f : Addr) (cdv : Value) (A : Around) (outer : List Env) (s : Shared) (H : Hp) (E : XK) (hr : RoomG k (A.deeper (envOfC "kind_in" (defScope s_kind_in) s.heap.objs.size f cdv))) :
    PSs (cxOf (L2.CX P w) P w K mg base ["term", "given", "word", "one", "body"] "kind_in" (defScope s_kind_in) f cdv A outer s H E) (defBody s_kind_in) (tS (cxOf (L2.CX P w) P w K mg base ["term", "given", "word", "one", "body"] "kind_in" (defScope s_kind_in) f cdv A outer s H E) (fun c d _ H => E c d H) (b_kind_in cl)) := by
  have tk : Takes (cxOf (L2.CX P w) P w K mg base ["term", "given", "word", "one", "body"] "kind_in" (defScope s_kind_in) f cdv A outer s H E) (fun c d _ H => E c d H) := takes_of rfl rfl rfl rfl
  have nd := sc_kind_in.nd
  exact (q_seq (q_ifS (qt_not (qt_tru (q_call (C .f_is_shape (fun z => nomatch z)) hr tk rfl (q_cons (q_var 0) q_nil)))) (q_last (q_ret q_non)) q_snil)
    (q_seq (q_set (i := 2) nd rfl (by first | exact Or.inl rfl | exact Or.inr rfl) (q_ix (q_var 0) q_int))
    (q_seq (q_ifS (qt_cmp (op_eqU (by have z := hu2 hr; exact z)) eqP_v (q_var 2) q_str (nomark _)) (q_last (q_ret (q_tup (q_cons q_str q_nil)))) q_snil)
    (q_seq (q_ifS (qt_cmp (op_eqU (by have z := hu2 hr; exact z)) eqP_v (q_var 2) q_str (nomark _)) (q_last (q_ret (q_call (C .f_kind_of_given (fun z => nomatch z)) hr tk rfl (q_cons (q_ix (q_var 0) q_int) (q_cons (q_var 1) q_nil))))) q_snil)
    (q_seq (q_ifS (qt_cmp (op_eqU (by have z := hu2 hr; exact z)) eqP_v (q_var 2) q_str (nomark _)) (q_seq (q_set (i := 4) nd rfl (by first | exact Or.inl rfl | exact Or.inr rfl) (q_if (qt_tru (q_call (C .f_is_kind (fun z => nomatch z)) hr tk rfl (q_cons (q_ix (q_var 0) q_int) q_nil))) (q_call (C .f_kind_in (fun z => nomatch z)) hr tk rfl (q_cons (q_ix (q_var 0) q_int) (q_cons (q_op op_addU addU_v (q_var 1) (q_lst (q_cons (q_ix (q_var 0) q_int) q_nil))) q_nil))) q_non))
    (q_last (q_ret (q_if (qt_cmp op_isU isU_v (q_var 4) q_non (nomark _)) q_non (q_tup (q_cons q_str (q_cons (q_ix (q_var 0) q_int) (q_cons (q_var 4) q_nil)))))))) q_snil)
    (q_seq (q_set (i := 3) nd rfl (by first | exact Or.inl rfl | exact Or.inr rfl) (q_call (C .f_kind_in (fun z => nomatch z)) hr tk rfl (q_cons (q_ix (q_var 0) q_int) (q_cons (q_var 1) q_nil))))
    (q_seq (q_ifS (qt_cmp (op_inU (by have z := hu2 hr; exact z)) inU_v (q_var 2) (q_tup (q_cons q_str (q_cons q_str q_nil))) (by rfl)) (q_last (q_ret (q_call (C .f_kind_of_two (fun z => nomatch z)) hr tk rfl (q_cons (q_var 2) (q_cons (q_var 3) (q_cons (q_call (C .f_kind_in (fun z => nomatch z)) hr tk rfl (q_cons (q_ix (q_var 0) q_int) (q_cons (q_var 1) q_nil))) q_nil)))))) q_snil)
    (q_seq (q_ifS (PW.pt (qw_or (qt_cmp op_isU isU_v (q_var 3) q_non (nomark _)) (qw_one (qt_cmp (op_neU (by have z := hu2 hr; exact z)) neP_v (q_ix (q_var 3) q_int) q_str (nomark _))))) (q_last (q_ret q_non)) q_snil)
    (q_last (q_ret (q_if (qt_cmp (op_eqU (by have z := hu2 hr; exact z)) eqP_v (q_var 2) q_str (nomark _)) (q_ix (q_var 3) q_int) (q_ix (q_var 3) q_int))))))))))))
theorem ok_sure_kind_in {k : Nat} {cl : Fn → FF} (T : Txt K w.params mg) (C : ∀ g : Fn, g ≠ .f_law → calOf P w K mg base k g (cl g)) (f : Addr) (cdv : Value) (A : Around) (outer : List Env) (s : Shared) (H : Hp) (E : XK) (hr : RoomG k (A.deeper (envOfC "sure_kind_in" (defScope s_sure_kind_in) s.heap.objs.size f cdv))) :
    PSs (cxOf (L2.CX P w) P w K mg base ["term", "given", "found"] "sure_kind_in" (defScope s_sure_kind_in) f cdv A outer s H E) (defBody s_sure_kind_in) (tS (cxOf (L2.CX P w) P w K mg base ["term", "given", "found"] "sure_kind_in" (defScope s_sure_kind_in) f cdv A outer s H E) (fun c d _ H => E c d H) (b_sure_kind_in cl)) := by
  have tk : Takes (cxOf (L2.CX P w) P w K mg base ["term", "given", "found"] "sure_kind_in" (defScope s_sure_kind_in) f cdv A outer s H E) (fun c d _ H => E c d H) := takes_of rfl rfl rfl rfl
  have nd := sc_sure_kind_in.nd
  exact (q_seq (q_set (i := 2) nd rfl (by first | exact Or.inl rfl | exact Or.inr rfl) (q_call (C .f_kind_in (fun z => nomatch z)) hr tk rfl (q_cons (q_var 0) (q_cons (q_var 1) q_nil))))
    (q_seq (q_ifS (qt_cmp op_isU isU_v (q_var 2) q_non (nomark _)) (q_last (q_raise rfl tk T.x_NoTerm rfl)) q_snil)
    (q_last (q_ret (q_var 2)))))
theorem ok_term_kind {k : Nat} {cl : Fn → FF} (T : Txt K w.params mg) (C : ∀ g : Fn, g ≠ .f_law → calOf P w K mg base k g (cl g)) (f : Addr) (cdv : Value) (A : Around) (outer : List Env) (s : Shared) (H : Hp) (E : XK) (hr : RoomG k (A.deeper (envOfC "term_kind" (defScope s_term_kind) s.heap.objs.size f cdv))) :
    PSs (cxOf (L2.CX P w) P w K mg base ["term", "given"] "term_kind" (defScope s_term_kind) f cdv A outer s H E) (defBody s_term_kind) (tS (cxOf (L2.CX P w) P w K mg base ["term", "given"] "term_kind" (defScope s_term_kind) f cdv A outer s H E) (fun c d _ H => E c d H) (b_term_kind cl)) := by
  have tk : Takes (cxOf (L2.CX P w) P w K mg base ["term", "given"] "term_kind" (defScope s_term_kind) f cdv A outer s H E) (fun c d _ H => E c d H) := takes_of rfl rfl rfl rfl
  have nd := sc_term_kind.nd
  exact (q_seq (q_expr (q_call (C .f_sure_given (fun z => nomatch z)) hr tk rfl (q_cons (q_var 1) q_nil)))
    (q_last (q_ret (q_call (C .f_sure_kind_in (fun z => nomatch z)) hr tk rfl (q_cons (q_var 0) (q_cons (q_var 1) q_nil))))))
theorem ok_opened {k : Nat} {cl cl2 : Fn → FF} (T : Txt K w.params mg) (C : ∀ g : Fn, g ≠ .f_law → calOf P w K mg base (k + 1) g (cl g)) (C2 : ∀ g : Fn, g ≠ .f_law → calOf P w K mg base k g (cl2 g)) (f : Addr) (cdv : Value) (A : Around) (outer : List Env) (s : Shared) (H : Hp) (E : XK) (hr : RoomG (k + 1) (A.deeper (envOfC "opened" (defScope s_opened) s.heap.objs.size f cdv))) :
    PSs (cxOf (L2.CX P w) P w K mg base ["kind", "chain"] "opened" (defScope s_opened) f cdv A outer s H E) (defBody s_opened) (tS (cxOf (L2.CX P w) P w K mg base ["kind", "chain"] "opened" (defScope s_opened) f cdv A outer s H E) (fun c d _ H => E c d H) (b_opened cl cl2)) := by
  have tk : Takes (cxOf (L2.CX P w) P w K mg base ["kind", "chain"] "opened" (defScope s_opened) f cdv A outer s H E) (fun c d _ H => E c d H) := takes_of rfl rfl rfl rfl
  have nd := sc_opened.nd
  exact (q_seq (q_ifS (qt_cmp (op_eqU (by have z := hu2 hr; exact z)) eqP_v (q_ix (q_var 0) q_int) q_str (nomark _)) (q_last (q_ret (q_tup q_nil))) q_snil)
    (q_seq (q_ifS (qt_cmp (op_eqU (by have z := hu2 hr; exact z)) eqP_v (q_ix (q_var 0) q_int) q_str (nomark _)) (q_last (q_ret (q_tup (q_cons (q_call (C .f_opened (fun z => nomatch z)) hr tk rfl (q_cons (q_ix (q_var 0) q_int) (q_cons (q_tup (q_cons q_str (q_cons (q_var 1) q_nil))) q_nil))) (q_cons (q_call (C .f_opened (fun z => nomatch z)) hr tk rfl (q_cons (q_ix (q_var 0) q_int) (q_cons (q_tup (q_cons q_str (q_cons (q_var 1) q_nil))) q_nil))) q_nil))))) q_snil)
    (q_seq (q_ifS (qt_cmp (op_eqU (by have z := hu2 hr; exact z)) eqP_v (q_ix (q_var 0) q_int) q_str (nomark _)) (q_last (q_ret (q_make (C2 .f_Loose___init__ (fun z => nomatch z)) T.k_Loose hr tk rfl (q_cons (q_var 0) (q_cons (q_var 1) q_nil))))) q_snil)
    (q_last (q_ret (q_var 1))))))
theorem ok_meant {k : Nat} {cl cl2 : Fn → FF} (T : Txt K w.params mg) (C : ∀ g : Fn, g ≠ .f_law → calOf P w K mg base (k + 1) g (cl g)) (C2 : ∀ g : Fn, g ≠ .f_law → calOf P w K mg base k g (cl2 g)) (f : Addr) (cdv : Value) (A : Around) (outer : List Env) (s : Shared) (H : Hp) (E : XK) (hr : RoomG (k + 1) (A.deeper (envOfC "meant" (defScope s_meant) s.heap.objs.size f cdv))) :
    PSs (cxOf (L2.CX P w) P w K mg base ["term", "things", "word", "one"] "meant" (defScope s_meant) f cdv A outer s H E) (defBody s_meant) (tS (cxOf (L2.CX P w) P w K mg base ["term", "things", "word", "one"] "meant" (defScope s_meant) f cdv A outer s H E) (fun c d _ H => E c d H) (b_meant cl cl2)) := by
  have tk : Takes (cxOf (L2.CX P w) P w K mg base ["term", "things", "word", "one"] "meant" (defScope s_meant) f cdv A outer s H E) (fun c d _ H => E c d H) := takes_of rfl rfl rfl rfl
  have nd := sc_meant.nd
  exact (q_seq (q_set (i := 2) nd rfl (by first | exact Or.inl rfl | exact Or.inr rfl) (q_ix (q_var 0) q_int))
    (q_seq (q_ifS (qt_cmp (op_eqU (by have z := hu2 hr; exact z)) eqP_v (q_var 2) q_str (nomark _)) (q_last (q_ret (q_ix (q_var 1) (q_ix (q_var 0) q_int)))) q_snil)
    (q_seq (q_ifS (qt_cmp (op_eqU (by have z := hu2 hr; exact z)) eqP_v (q_var 2) q_str (nomark _)) (q_last (q_ret (q_tup q_nil))) q_snil)
    (q_seq (q_ifS (qt_cmp (op_eqU (by have z := hu2 hr; exact z)) eqP_v (q_var 2) q_str (nomark _)) (q_last (q_ret (q_make (C2 .f_Bound___init__ (fun z => nomatch z)) T.k_Bound hr tk rfl (q_cons (q_ix (q_var 0) q_int) (q_cons (q_var 1) q_nil))))) q_snil)
    (q_seq (q_set (i := 3) nd rfl (by first | exact Or.inl rfl | exact Or.inr rfl) (q_call (C .f_meant (fun z => nomatch z)) hr tk rfl (q_cons (q_ix (q_var 0) q_int) (q_cons (q_var 1) q_nil))))
    (q_seq (q_ifS (qt_cmp (op_eqU (by have z := hu2 hr; exact z)) eqP_v (q_var 2) q_str (nomark _)) (q_last (q_ret (q_me (q_var 3) (dm_cons (C .f_Loose_handed (fun z => nomatch z)) (dm_cons (C .f_Bound_handed (fun z => nomatch z)) dm_nil)) hr tk (q_cons (q_call (C .f_meant (fun z => nomatch z)) hr tk rfl (q_cons (q_ix (q_var 0) q_int) (q_cons (q_var 1) q_nil))) q_nil)))) q_snil)
    (q_seq (q_ifS (qt_cmp (op_eqU (by have z := hu2 hr; exact z)) eqP_v (q_var 2) q_str (nomark _)) (q_last (q_ret (q_tup (q_cons (q_var 3) (q_cons (q_call (C .f_meant (fun z => nomatch z)) hr tk rfl (q_cons (q_ix (q_var 0) q_int) (q_cons (q_var 1) q_nil))) q_nil))))) q_snil)
    (q_last (q_ret (q_ix (q_var 3) (q_callTy call_int1 int_v rfl T.m_int (by decide +kernel) (q_cons (q_cmp (op_eqU (by have z := hu2 hr; exact z)) eqP_v (q_var 2) q_str (nomark _)) q_nil))))))))))))
theorem ok_said {k : Nat} {cl : Fn → FF} (T : Txt K w.params mg) (C : ∀ g : Fn, g ≠ .f_law → calOf P w K mg base k g (cl g)) (f : Addr) (cdv : Value) (A : Around) (outer : List Env) (s : Shared) (H : Hp) (E : XK) (hr : RoomG k (A.deeper (envOfC "said" (defScope s_said) s.heap.objs.size f cdv))) :
    PSs (cxOf (L2.CX P w) P w K mg base ["kind", "thing", "many"] "said" (defScope s_said) f cdv A outer s H E) (defBody s_said) (tS (cxOf (L2.CX P w) P w K mg base ["kind", "thing", "many"] "said" (defScope s_said) f cdv A outer s H E) (fun c d _ H => E c d H) (b_said cl)) := by
  have tk : Takes (cxOf (L2.CX P w) P w K mg base ["kind", "thing", "many"] "said" (defScope s_said) f cdv A outer s H E) (fun c d _ H => E c d H) := takes_of rfl rfl rfl rfl
  have nd := sc_said.nd
  exact (q_seq (q_ifS (qt_cmp (op_eqU (by have z := hu2 hr; exact z)) eqP_v (q_ix (q_var 0) q_int) q_str (nomark _)) (q_last (q_ret (q_tup (q_cons q_str q_nil)))) q_snil)
    (q_seq (q_ifS (qt_cmp (op_eqU (by have z := hu2 hr; exact z)) eqP_v (q_ix (q_var 0) q_int) q_str (nomark _)) (q_last (q_ret (q_tup (q_cons q_str (q_cons (q_call (C .f_said (fun z => nomatch z)) hr tk rfl (q_cons (q_ix (q_var 0) q_int) (q_cons (q_ix (q_var 1) q_int) (q_cons (q_var 2) q_nil)))) (q_cons (q_call (C .f_said (fun z => nomatch z)) hr tk rfl (q_cons (q_ix (q_var 0) q_int) (q_cons (q_ix (q_var 1) q_int) (q_cons (q_var 2) q_nil)))) q_nil)))))) q_snil)
    (q_seq (q_ifS (qt_cmp (op_eqU (by have z := hu2 hr; exact z)) eqP_v (q_ix (q_var 0) q_int) q_str (nomark _)) (q_last (q_ret (q_tup (q_cons q_str (q_cons (q_ix (q_var 0) q_int) (q_cons (q_call (C .f_said (fun z => nomatch z)) hr tk rfl (q_cons (q_ix (q_var 0) q_int) (q_cons (q_me (q_var 1) (dm_cons (C .f_Loose_handed (fun z => nomatch z)) (dm_cons (C .f_Bound_handed (fun z => nomatch z)) dm_nil)) hr tk (q_cons (q_call (C .f_opened (fun z => nomatch z)) hr tk rfl (q_cons (q_ix (q_var 0) q_int) (q_cons (q_tup (q_cons q_str (q_cons (q_var 2) q_nil))) q_nil))) q_nil)) (q_cons (q_op op_addU addU_v (q_var 2) q_int) q_nil)))) q_nil)))))) q_snil)
    (q_last (q_ret (q_call (C .f_chain_said (fun z => nomatch z)) hr tk rfl (q_cons (q_var 1) (q_cons (q_var 2) q_nil))))))))
theorem ok_chain_said {k : Nat} {cl : Fn → FF} (T : Txt K w.params mg) (C : ∀ g : Fn, g ≠ .f_law → calOf P w K mg base k g (cl g)) (f : Addr) (cdv : Value) (A : Around) (outer : List Env) (s : Shared) (H : Hp) (E : XK) (hr : RoomG k (A.deeper (envOfC "chain_said" (defScope s_chain_said) s.heap.objs.size f cdv))) :
    PSs (cxOf (L2.CX P w) P w K mg base ["chain", "many", "word", "before", "kind", "thing"] "chain_said" (defScope s_chain_said) f cdv A outer s H E) (defBody s_chain_said) (tS (cxOf (L2.CX P w) P w K mg base ["chain", "many", "word", "before", "kind", "thing"] "chain_said" (defScope s_chain_said) f cdv A outer s H E) (fun c d _ H => E c d H) (b_chain_said cl)) := by
  have tk : Takes (cxOf (L2.CX P w) P w K mg base ["chain", "many", "word", "before", "kind", "thing"] "chain_said" (defScope s_chain_said) f cdv A outer s H E) (fun c d _ H => E c d H) := takes_of rfl rfl rfl rfl
  have nd := sc_chain_said.nd
  exact (q_seq (q_ifS (qt_cmp (op_eqU (by have z := hu2 hr; exact z)) eqP_v (q_ix (q_var 0) q_int) q_str (nomark _)) (q_last (q_ret (q_var 0))) q_snil)
    (q_seq (q_ifS (qt_cmp (op_eqU (by have z := hu2 hr; exact z)) eqP_v (q_ix (q_var 0) q_int) q_str (nomark _)) (q_seq (q_asg (q_var 0) (q_gtu rfl (q_gscons (q_gn (i := 2) nd rfl (by first | exact Or.inl rfl | exact Or.inr rfl)) (q_gscons (q_gn (i := 3) nd rfl (by first | exact Or.inl rfl | exact Or.inr rfl)) (q_gscons (q_gn (i := 4) nd rfl (by first | exact Or.inl rfl | exact Or.inr rfl)) (q_gscons (q_gn (i := 5) nd rfl (by first | exact Or.inl rfl | exact Or.inr rfl)) q_gsnil))))))
    (q_last (q_ret (q_tup (q_cons q_str (q_cons (q_call (C .f_chain_said (fun z => nomatch z)) hr tk rfl (q_cons (q_var 3) (q_cons (q_var 1) q_nil))) (q_cons (q_call (C .f_said (fun z => nomatch z)) hr tk rfl (q_cons (q_var 4) (q_cons (q_var 5) (q_cons (q_var 1) q_nil)))) q_nil))))))) q_snil)
    (q_last (q_ret (q_tup (q_cons (q_ix (q_var 0) q_int) (q_cons (q_call (C .f_chain_said (fun z => nomatch z)) hr tk rfl (q_cons (q_ix (q_var 0) q_int) (q_cons (q_var 1) q_nil))) q_nil)))))))
theorem ok_plain_in {k : Nat} {cl : Fn → FF} (T : Txt K w.params mg) (C : ∀ g : Fn, g ≠ .f_law → calOf P w K mg base k g (cl g)) (f : Addr) (cdv : Value) (A : Around) (outer : List Env) (s : Shared) (H : Hp) (E : XK) (hr : RoomG k (A.deeper (envOfC "plain_in" (defScope s_plain_in) s.heap.objs.size f cdv))) :
    PSs (cxOf (L2.CX P w) P w K mg base ["term", "kind", "given", "things", "k", "one"] "plain_in" (defScope s_plain_in) f cdv A outer s H E) (defBody s_plain_in) (tS (cxOf (L2.CX P w) P w K mg base ["term", "kind", "given", "things", "k", "one"] "plain_in" (defScope s_plain_in) f cdv A outer s H E) (fun c d _ H => E c d H) (b_plain_in cl)) := by
  have tk : Takes (cxOf (L2.CX P w) P w K mg base ["term", "kind", "given", "things", "k", "one"] "plain_in" (defScope s_plain_in) f cdv A outer s H E) (fun c d _ H => E c d H) := takes_of rfl rfl rfl rfl
  have nd := sc_plain_in.nd
  exact (q_seq (by first | exact (q_setLc (i := 3) (own := [("k", 4), ("one", 5)]) rfl nd rfl rfl (sw_true rfl rfl rfl (by decide +kernel)) (qi_enum rfl T.m_enumerate (q_cons (q_var 2) q_nil)) (blkOk_by (own := [("k", 4), ("one", 5)]) (by rfl)) (by decide) (fun _ _ _ _ _ => (q_gtu rfl (q_gscons (q_gn (i := 4) nd rfl (by first | exact Or.inl rfl | exact Or.inr rfl)) (q_gscons (q_gn (i := 5) nd rfl (by first | exact Or.inl rfl | exact Or.inr rfl)) q_gsnil)))) (fun _ _ _ _ _ => qts_nil) (fun _ _ _ _ _ => (q_call (C .f_opened (fun z => nomatch z)) hr takes0 rfl (q_cons (q_var 5) (q_cons (q_tup (q_cons q_str (q_cons (q_var 4) q_nil))) q_nil))))) | exact (q_set (i := 3) nd rfl (by first | exact Or.inl rfl | exact Or.inr rfl) (q_lc (own := [("k", 4), ("one", 5)]) rfl nd (qi_enum rfl T.m_enumerate (q_cons (q_var 2) q_nil)) (blkOk_by (own := [("k", 4), ("one", 5)]) (by rfl)) (by decide) (fun _ _ _ _ _ => (q_gtu rfl (q_gscons (q_gn (i := 4) nd rfl (by first | exact Or.inl rfl | exact Or.inr rfl)) (q_gscons (q_gn (i := 5) nd rfl (by first | exact Or.inl rfl | exact Or.inr rfl)) q_gsnil)))) (fun _ _ _ _ _ => qts_nil) (fun _ _ _ _ _ => (q_call (C .f_opened (fun z => nomatch z)) hr takes0 rfl (q_cons (q_var 5) (q_cons (q_tup (q_cons q_str (q_cons (q_var 4) q_nil))) q_nil)))))))
    (q_last (q_ret (q_call (C .f_said (fun z => nomatch z)) hr tk rfl (q_cons (q_var 1) (q_cons (q_call (C .f_meant (fun z => nomatch z)) hr tk rfl (q_cons (q_var 0) (q_cons (q_var 3) q_nil))) (q_cons (q_callB call_len len_v rfl T.m_len PySem.boot_len (q_cons (q_var 2) q_nil)) q_nil)))))))
theorem ok_same {k : Nat} {cl : Fn → FF} (T : Txt K w.params mg) (C : ∀ g : Fn, g ≠ .f_law → calOf P w K mg base k g (cl g)) (f : Addr) (cdv : Value) (A : Around) (outer : List Env) (s : Shared) (H : Hp) (E : XK) (hr : RoomG k (A.deeper (envOfC "same" (defScope s_same) s.heap.objs.size f cdv))) :
    PSs (cxOf (L2.CX P w) P w K mg base ["one", "other", "given", "kinds", "term"] "same" (defScope s_same) f cdv A outer s H E) (defBody s_same) (tS (cxOf (L2.CX P w) P w K mg base ["one", "other", "given", "kinds", "term"] "same" (defScope s_same) f cdv A outer s H E) (fun c d _ H => E c d H) (b_same cl)) := by
  have tk : Takes (cxOf (L2.CX P w) P w K mg base ["one", "other", "given", "kinds", "term"] "same" (defScope s_same) f cdv A outer s H E) (fun c d _ H => E c d H) := takes_of rfl rfl rfl rfl
  have nd := sc_same.nd
  exact (q_seq (q_expr (q_call (C .f_sure_given (fun z => nomatch z)) hr tk rfl (q_cons (q_var 2) q_nil)))
    (q_seq (by first | exact (q_setLc (i := 3) (own := [("term", 4)]) rfl nd rfl rfl (sw_true rfl rfl rfl (by decide +kernel)) (qi_tup (q_tup (q_cons (q_var 0) (q_cons (q_var 1) q_nil)))) (blkOk_by (own := [("term", 4)]) (by rfl)) (by decide) (fun _ _ _ _ _ => (q_gn (i := 4) nd rfl (by first | exact Or.inl rfl | exact Or.inr rfl))) (fun _ _ _ _ _ => qts_nil) (fun _ _ _ _ _ => (q_call (C .f_sure_kind_in (fun z => nomatch z)) hr takes0 rfl (q_cons (q_var 4) (q_cons (q_var 2) q_nil))))) | exact (q_set (i := 3) nd rfl (by first | exact Or.inl rfl | exact Or.inr rfl) (q_lc (own := [("term", 4)]) rfl nd (qi_tup (q_tup (q_cons (q_var 0) (q_cons (q_var 1) q_nil)))) (blkOk_by (own := [("term", 4)]) (by rfl)) (by decide) (fun _ _ _ _ _ => (q_gn (i := 4) nd rfl (by first | exact Or.inl rfl | exact Or.inr rfl))) (fun _ _ _ _ _ => qts_nil) (fun _ _ _ _ _ => (q_call (C .f_sure_kind_in (fun z => nomatch z)) hr takes0 rfl (q_cons (q_var 4) (q_cons (q_var 2) q_nil)))))))
    (q_last (q_ret (q_and (q_cmp (op_eqU (by have z := hu2 hr; exact z)) eqP_v (q_ix (q_var 3) q_int) (q_ix (q_var 3) q_int) (nomark _)) (q_one (q_cmp (op_eqU (by have z := hu2 hr; exact z)) eqP_v (q_call (C .f_plain_in (fun z => nomatch z)) hr tk rfl (q_cons (q_var 0) (q_cons (q_ix (q_var 3) q_int) (q_cons (q_var 2) q_nil)))) (q_call (C .f_plain_in (fun z => nomatch z)) hr tk rfl (q_cons (q_var 1) (q_cons (q_ix (q_var 3) q_int) (q_cons (q_var 2) q_nil)))) (nomark _))))))))
theorem ok_put_back {k : Nat} {cl : Fn → FF} (T : Txt K w.params mg) (C : ∀ g : Fn, g ≠ .f_law → calOf P w K mg base k g (cl g)) (f : Addr) (cdv : Value) (A : Around) (outer : List Env) (s : Shared) (H : Hp) (E : XK) (hr : RoomG k (A.deeper (envOfC "put_back" (defScope s_put_back) s.heap.objs.size f cdv))) :
    PSs (cxOf (L2.CX P w) P w K mg base ["things", "order", "found", "thing", "place"] "put_back" (defScope s_put_back) f cdv A outer s H E) (defBody s_put_back) (tS (cxOf (L2.CX P w) P w K mg base ["things", "order", "found", "thing", "place"] "put_back" (defScope s_put_back) f cdv A outer s H E) (fun c d _ H => E c d H) (b_put_back cl)) := by
  have tk : Takes (cxOf (L2.CX P w) P w K mg base ["things", "order", "found", "thing", "place"] "put_back" (defScope s_put_back) f cdv A outer s H E) (fun c d _ H => E c d H) := takes_of rfl rfl rfl rfl
  have nd := sc_put_back.nd
  exact (q_seq (q_set (i := 2) nd rfl (by first | exact Or.inl rfl | exact Or.inr rfl) (q_callTy call_list_of list_v rfl T.m_list (by decide +kernel) (q_cons (q_var 0) q_nil)))
    (q_seq (q_for (passes_of rfl) rfl (qi_zip rfl T.m_zip (q_cons (q_var 0) (q_cons (q_var 1) q_nil))) (q_gtu rfl (q_gscons (q_gn (i := 3) nd rfl (by first | exact Or.inl rfl | exact Or.inr rfl)) (q_gscons (q_gn (i := 4) nd rfl (by first | exact Or.inl rfl | exact Or.inr rfl)) q_gsnil))) (q_last (q_asg (q_var 3) (q_gsb (W := W0) (q_var 2) (q_var 4)))))
    (q_last (q_ret (q_fz (q_var 2))))))
theorem ok_factors_from {k : Nat} {cl : Fn → FF} (T : Txt K w.params mg) (C : ∀ g : Fn, g ≠ .f_law → calOf P w K mg base k g (cl g)) (f : Addr) (cdv : Value) (A : Around) (outer : List Env) (s : Shared) (H : Hp) (E : XK) (hr : RoomG k (A.deeper (envOfC "factors_from" (defScope s_factors_from) s.heap.objs.size f cdv))) :
    PSs (cxOf (L2.CX P w) P w K mg base ["kind", "first", "found", "factor", "wants", "place"] "factors_from" (defScope s_factors_from) f cdv A outer s H E) (defBody s_factors_from) (tS (cxOf (L2.CX P w) P w K mg base ["kind", "first", "found", "factor", "wants", "place"] "factors_from" (defScope s_factors_from) f cdv A outer s H E) (fun c d _ H => E c d H) (b_factors_from cl)) := by
  have tk : Takes (cxOf (L2.CX P w) P w K mg base ["kind", "first", "found", "factor", "wants", "place"] "factors_from" (defScope s_factors_from) f cdv A outer s H E) (fun c d _ H => E c d H) := takes_of rfl rfl rfl rfl
  have nd := sc_factors_from.nd
  exact (q_seq (q_set (i := 1) nd rfl (by first | exact Or.inl rfl | exact Or.inr rfl) (q_call (C .f_plain_form (fun z => nomatch z)) hr tk rfl (q_cons (q_ix (q_var 0) q_int) q_nil)))
    (q_seq (q_set (i := 2) nd rfl (by first | exact Or.inl rfl | exact Or.inr rfl) (q_cel q_nil))
    (q_seq (q_for (passes_of rfl) rfl (qi_list (q_call (C .f_plain_form (fun z => nomatch z)) hr tk rfl (q_cons (q_ix (q_var 0) q_int) q_nil))) (q_gn (i := 3) nd rfl (by first | exact Or.inl rfl | exact Or.inr rfl)) (q_seq (q_set (i := 4) nd rfl (by first | exact Or.inl rfl | exact Or.inr rfl) (q_call (C .f_wants_with (fun z => nomatch z)) hr tk rfl (q_cons (q_var 3) (q_cons (q_var 1) q_nil))))
    (q_last (q_expr (q_mth PySem.F.slot_list_append PySem.F.type_list_append mt_append append_v (q_var 2) (q_cons (q_tup (q_cons (q_callTy call_tuple_of tuple_v rfl T.m_tuple (by decide +kernel) (q_cons (q_lc (own := [("place", 5)]) rfl nd (qi_list (q_call (C .f_order_of (fun z => nomatch z)) hr tk rfl (q_cons (q_var 4) q_nil))) (blkOk_by (own := [("place", 5)]) (by rfl)) (by decide) (fun _ _ _ _ _ => (q_gn (i := 5) nd rfl (by first | exact Or.inl rfl | exact Or.inr rfl))) (fun _ _ _ _ _ => qts_nil) (fun _ _ _ _ _ => (q_ix (q_var 4) (q_var 5)))) q_nil)) (q_cons (q_ix (q_var 3) q_int) q_nil))) q_nil))))))
    (q_last (q_ret (q_fz (q_var 2)))))))
theorem ok_parts {k : Nat} {cl cl2 : Fn → FF} (T : Txt K w.params mg) (C : ∀ g : Fn, g ≠ .f_law → calOf P w K mg base (k + 1) g (cl g)) (C2 : ∀ g : Fn, g ≠ .f_law → calOf P w K mg base k g (cl2 g)) (f : Addr) (cdv : Value) (A : Around) (outer : List Env) (s : Shared) (H : Hp) (E : XK) (hr : RoomG (k + 1) (A.deeper (envOfC "parts" (defScope s_parts) s.heap.objs.size f cdv))) :
    PSs (cxOf (L2.CX P w) P w K mg base ["kind", "term", "some", "order", "place"] "parts" (defScope s_parts) f cdv A outer s H E) (defBody s_parts) (tS (cxOf (L2.CX P w) P w K mg base ["kind", "term", "some", "order", "place"] "parts" (defScope s_parts) f cdv A outer s H E) (fun c d _ H => E c d H) (b_parts cl cl2)) := by
  have tk : Takes (cxOf (L2.CX P w) P w K mg base ["kind", "term", "some", "order", "place"] "parts" (defScope s_parts) f cdv A outer s H E) (fun c d _ H => E c d H) := takes_of rfl rfl rfl rfl
  have nd := sc_parts.nd
  exact (q_seq (q_ifS (qt_cmp (op_eqU (by have z := hu2 hr; exact z)) eqP_v (q_ix (q_var 0) q_int) q_str (nomark _)) (q_last (q_ret (q_lst (q_cons (q_make (C2 .f_Leaf___init__ (fun z => nomatch z)) T.k_Leaf hr tk rfl (q_cons (q_var 1) q_nil)) q_nil)))) q_snil)
    (q_seq (q_ifS (qt_cmp (op_eqU (by have z := hu2 hr; exact z)) eqP_v (q_ix (q_var 0) q_int) q_str (nomark _)) (q_last (q_ret (q_lst q_nil))) q_snil)
    (q_seq (q_ifS (qt_cmp (op_eqU (by have z := hu2 hr; exact z)) eqP_v (q_ix (q_var 0) q_int) q_str (nomark _)) (q_seq (q_set (i := 2) nd rfl (by first | exact Or.inl rfl | exact Or.inr rfl) (q_op op_addU addU_v (q_call (C .f_parts (fun z => nomatch z)) hr tk rfl (q_cons (q_ix (q_var 0) q_int) (q_cons (q_tup (q_cons q_str (q_cons (q_var 1) q_nil))) q_nil))) (q_call (C .f_parts (fun z => nomatch z)) hr tk rfl (q_cons (q_ix (q_var 0) q_int) (q_cons (q_tup (q_cons q_str (q_cons (q_var 1) q_nil))) q_nil)))))
    (q_last (q_set (i := 3) nd rfl (by first | exact Or.inl rfl | exact Or.inr rfl) (q_call (C .f_order_of (fun z => nomatch z)) hr tk rfl (q_cons (q_op op_addU addU_v (q_call (C .f_plain_form (fun z => nomatch z)) hr tk rfl (q_cons (q_ix (q_var 0) q_int) q_nil)) (q_call (C .f_plain_form (fun z => nomatch z)) hr tk rfl (q_cons (q_ix (q_var 0) q_int) q_nil))) q_nil))))) (q_seq (q_set (i := 3) nd rfl (by first | exact Or.inl rfl | exact Or.inr rfl) (q_call (C .f_order_of (fun z => nomatch z)) hr tk rfl (q_cons (q_call (C .f_factors_from (fun z => nomatch z)) hr tk rfl (q_cons (q_var 0) q_nil)) q_nil)))
    (q_last (by first | exact (q_setLc (i := 2) (own := [("place", 4)]) rfl nd rfl rfl (sw_true rfl rfl rfl (by decide +kernel)) (qi_range1 rfl T.m_range (q_cons (q_callB call_len len_v rfl T.m_len PySem.boot_len (q_cons (q_var 3) q_nil)) q_nil)) (blkOk_by (own := [("place", 4)]) (by rfl)) (by decide) (fun _ _ _ _ _ => (q_gn (i := 4) nd rfl (by first | exact Or.inl rfl | exact Or.inr rfl))) (fun _ _ _ _ _ => qts_nil) (fun _ _ _ _ _ => (q_make (C2 .f_Result___init__ (fun z => nomatch z)) T.k_Result hr takes0 rfl (q_cons (q_var 1) (q_cons (q_var 0) (q_cons (q_var 4) q_nil)))))) | exact (q_set (i := 2) nd rfl (by first | exact Or.inl rfl | exact Or.inr rfl) (q_lc (own := [("place", 4)]) rfl nd (qi_range1 rfl T.m_range (q_cons (q_callB call_len len_v rfl T.m_len PySem.boot_len (q_cons (q_var 3) q_nil)) q_nil)) (blkOk_by (own := [("place", 4)]) (by rfl)) (by decide) (fun _ _ _ _ _ => (q_gn (i := 4) nd rfl (by first | exact Or.inl rfl | exact Or.inr rfl))) (fun _ _ _ _ _ => qts_nil) (fun _ _ _ _ _ => (q_make (C2 .f_Result___init__ (fun z => nomatch z)) T.k_Result hr takes0 rfl (q_cons (q_var 1) (q_cons (q_var 0) (q_cons (q_var 4) q_nil)))))))))))
    (q_last (q_ret (q_lc (own := [("place", 4)]) rfl nd (qi_list (q_var 3)) (blkOk_by (own := [("place", 4)]) (by rfl)) (by decide) (fun _ _ _ _ _ => (q_gn (i := 4) nd rfl (by first | exact Or.inl rfl | exact Or.inr rfl))) (fun _ _ _ _ _ => qts_nil) (fun _ _ _ _ _ => (q_ix (q_var 2) (q_var 4)))))))))
theorem ok_built {k : Nat} {cl cl2 : Fn → FF} (T : Txt K w.params mg) (C : ∀ g : Fn, g ≠ .f_law → calOf P w K mg base (k + 1) g (cl g)) (C2 : ∀ g : Fn, g ≠ .f_law → calOf P w K mg base k g (cl2 g)) (f : Addr) (cdv : Value) (A : Around) (outer : List Env) (s : Shared) (H : Hp) (E : XK) (hr : RoomG (k + 1) (A.deeper (envOfC "built" (defScope s_built) s.heap.objs.size f cdv))) :
    PSs (cxOf (L2.CX P w) P w K mg base ["kind", "some", "depth", "first", "back", "taken", "bodies", "part", "factor"] "built" (defScope s_built) f cdv A outer s H E) (defBody s_built) (tS (cxOf (L2.CX P w) P w K mg base ["kind", "some", "depth", "first", "back", "taken", "bodies", "part", "factor"] "built" (defScope s_built) f cdv A outer s H E) (fun c d _ H => E c d H) (b_built cl cl2)) := by
  have tk : Takes (cxOf (L2.CX P w) P w K mg base ["kind", "some", "depth", "first", "back", "taken", "bodies", "part", "factor"] "built" (defScope s_built) f cdv A outer s H E) (fun c d _ H => E c d H) := takes_of rfl rfl rfl rfl
  have nd := sc_built.nd
  exact (q_seq (q_ifS (qt_cmp (op_eqU (by have z := hu2 hr; exact z)) eqP_v (q_ix (q_var 0) q_int) q_str (nomark _)) (q_last (q_ret (q_me (q_ix (q_var 1) q_int) (dm_cons (C .f_Leaf_got (fun z => nomatch z)) (dm_cons (C .f_Result_got (fun z => nomatch z)) (dm_cons (C .f_Body_got (fun z => nomatch z)) dm_nil))) hr tk (q_cons (q_var 2) (q_cons (q_lst q_nil) q_nil))))) q_snil)
    (q_seq (q_ifS (qt_cmp (op_eqU (by have z := hu2 hr; exact z)) eqP_v (q_ix (q_var 0) q_int) q_str (nomark _)) (q_last (q_ret (q_tup (q_cons q_str q_nil)))) q_snil)
    (q_seq (q_ifS (qt_cmp (op_eqU (by have z := hu2 hr; exact z)) eqP_v (q_ix (q_var 0) q_int) q_str (nomark _)) (q_seq (q_set (i := 3) nd rfl (by first | exact Or.inl rfl | exact Or.inr rfl) (q_call (C .f_plain_form (fun z => nomatch z)) hr tk rfl (q_cons (q_ix (q_var 0) q_int) q_nil)))
    (q_seq (q_set (i := 4) nd rfl (by first | exact Or.inl rfl | exact Or.inr rfl) (q_call (C .f_put_back (fun z => nomatch z)) hr tk rfl (q_cons (q_var 1) (q_cons (q_call (C .f_order_of (fun z => nomatch z)) hr tk rfl (q_cons (q_op op_addU addU_v (q_var 3) (q_call (C .f_plain_form (fun z => nomatch z)) hr tk rfl (q_cons (q_ix (q_var 0) q_int) q_nil))) q_nil)) q_nil))))
    (q_last (q_ret (q_tup (q_cons q_str (q_cons (q_call (C .f_built (fun z => nomatch z)) hr tk rfl (q_cons (q_ix (q_var 0) q_int) (q_cons (q_slice (q_var 4) q_none (q_some (q_callB call_len len_v rfl T.m_len PySem.boot_len (q_cons (q_var 3) q_nil)))) (q_cons (q_var 2) q_nil)))) (q_cons (q_call (C .f_built (fun z => nomatch z)) hr tk rfl (q_cons (q_ix (q_var 0) q_int) (q_cons (q_slice (q_var 4) (q_some (q_callB call_len len_v rfl T.m_len PySem.boot_len (q_cons (q_var 3) q_nil))) q_none) (q_cons (q_var 2) q_nil)))) q_nil)))))))) q_snil)
    (q_seq (q_set (i := 3) nd rfl (by first | exact Or.inl rfl | exact Or.inr rfl) (q_call (C .f_plain_form (fun z => nomatch z)) hr tk rfl (q_cons (q_ix (q_var 0) q_int) q_nil)))
    (q_seq (q_set (i := 4) nd rfl (by first | exact Or.inl rfl | exact Or.inr rfl) (q_call (C .f_put_back (fun z => nomatch z)) hr tk rfl (q_cons (q_var 1) (q_cons (q_call (C .f_order_of (fun z => nomatch z)) hr tk rfl (q_cons (q_call (C .f_factors_from (fun z => nomatch z)) hr tk rfl (q_cons (q_var 0) q_nil)) q_nil)) q_nil))))
    (q_seq (q_set (i := 5) nd rfl (by first | exact Or.inl rfl | exact Or.inr rfl) (q_call (C .f_parts (fun z => nomatch z)) hr tk rfl (q_cons (q_ix (q_var 0) q_int) (q_cons (q_tup (q_cons q_str (q_cons (q_var 2) q_nil))) q_nil))))
    (q_seq (q_set (i := 6) nd rfl (by first | exact Or.inl rfl | exact Or.inr rfl) (q_cel q_nil))
    (q_seq (q_for (passes_of rfl) rfl (qi_zip rfl T.m_zip (q_cons (q_var 4) (q_cons (q_call (C .f_plain_form (fun z => nomatch z)) hr tk rfl (q_cons (q_ix (q_var 0) q_int) q_nil)) q_nil))) (q_gtu rfl (q_gscons (q_gn (i := 7) nd rfl (by first | exact Or.inl rfl | exact Or.inr rfl)) (q_gscons (q_gn (i := 8) nd rfl (by first | exact Or.inl rfl | exact Or.inr rfl)) q_gsnil))) (q_last (q_expr (q_mth PySem.F.slot_list_append PySem.F.type_list_append mt_append append_v (q_var 6) (q_cons (q_make (C2 .f_Body___init__ (fun z => nomatch z)) T.k_Body hr tk rfl (q_cons (q_var 7) (q_cons (q_call (C .f_order_of (fun z => nomatch z)) hr tk rfl (q_cons (q_call (C .f_wants_with (fun z => nomatch z)) hr tk rfl (q_cons (q_var 8) (q_cons (q_var 3) q_nil))) q_nil)) (q_cons (q_var 5) q_nil)))) q_nil)))))
    (q_last (q_ret (q_tup (q_cons q_str (q_cons (q_ix (q_var 0) q_int) (q_cons (q_call (C .f_built (fun z => nomatch z)) hr tk rfl (q_cons (q_ix (q_var 0) q_int) (q_cons (q_var 6) (q_cons (q_op op_addU addU_v (q_var 2) q_int) q_nil)))) q_nil))))))))))))))
theorem ok_turner {k : Nat} {cl : Fn → FF} (T : Txt K w.params mg) (C : ∀ g : Fn, g ≠ .f_law → calOf P w K mg base k g (cl g)) (f : Addr) (cdv : Value) (A : Around) (outer : List Env) (s : Shared) (H : Hp) (E : XK) (hr : RoomG k (A.deeper (envOfC "turner" (defScope s_turner) s.heap.objs.size f cdv))) :
    PSs (cxOf (L2.CX P w) P w K mg base ["one", "other"] "turner" (defScope s_turner) f cdv A outer s H E) (defBody s_turner) (tS (cxOf (L2.CX P w) P w K mg base ["one", "other"] "turner" (defScope s_turner) f cdv A outer s H E) (fun c d _ H => E c d H) (b_turner cl)) := by
  have tk : Takes (cxOf (L2.CX P w) P w K mg base ["one", "other"] "turner" (defScope s_turner) f cdv A outer s H E) (fun c d _ H => E c d H) := takes_of rfl rfl rfl rfl
  have nd := sc_turner.nd
  exact (q_seq (q_ifS (qt_not (qt_tru (q_call (C .f_alike (fun z => nomatch z)) hr tk rfl (q_cons (q_var 0) (q_cons (q_var 1) q_nil))))) (q_last q_sno) q_snil)
    (q_last (q_ret (q_tup (q_cons q_str (q_cons (q_var 0) (q_cons (q_call (C .f_built (fun z => nomatch z)) hr tk rfl (q_cons (q_var 1) (q_cons (q_call (C .f_parts (fun z => nomatch z)) hr tk rfl (q_cons (q_var 0) (q_cons (q_tup (q_cons q_str (q_cons q_int q_nil))) q_nil))) (q_cons q_int q_nil)))) q_nil)))))))
theorem ok_lifted {k : Nat} {cl : Fn → FF} (T : Txt K w.params mg) (C : ∀ g : Fn, g ≠ .f_law → calOf P w K mg base k g (cl g)) (f : Addr) (cdv : Value) (A : Around) (outer : List Env) (s : Shared) (H : Hp) (E : XK) (hr : RoomG k (A.deeper (envOfC "lifted" (defScope s_lifted) s.heap.objs.size f cdv))) :
    PSs (cxOf (L2.CX P w) P w K mg base ["term", "by", "part"] "lifted" (defScope s_lifted) f cdv A outer s H E) (defBody s_lifted) (tS (cxOf (L2.CX P w) P w K mg base ["term", "by", "part"] "lifted" (defScope s_lifted) f cdv A outer s H E) (fun c d _ H => E c d H) (b_lifted cl)) := by
  have tk : Takes (cxOf (L2.CX P w) P w K mg base ["term", "by", "part"] "lifted" (defScope s_lifted) f cdv A outer s H E) (fun c d _ H => E c d H) := takes_of rfl rfl rfl rfl
  have nd := sc_lifted.nd
  exact (q_seq (q_ifS (qt_cmp (op_eqU (by have z := hu2 hr; exact z)) eqP_v (q_ix (q_var 0) q_int) q_str (nomark _)) (q_last (q_ret (q_tup (q_cons q_str (q_cons (q_op op_addU addU_v (q_ix (q_var 0) q_int) (q_var 1)) q_nil))))) q_snil)
    (q_seq (q_ifS (qt_cmp (op_eqU (by have z := hu2 hr; exact z)) eqP_v (q_ix (q_var 0) q_int) q_str (nomark _)) (q_last (q_ret (q_tup (q_cons q_str (q_cons (q_ix (q_var 0) q_int) (q_cons (q_call (C .f_lifted (fun z => nomatch z)) hr tk rfl (q_cons (q_ix (q_var 0) q_int) (q_cons (q_var 1) q_nil))) q_nil)))))) q_snil)
    (q_last (q_ret (q_op op_addU addU_v (q_slice (q_var 0) q_none (q_some q_int)) (q_callTy call_tuple_of tuple_v rfl T.m_tuple (by decide +kernel) (q_cons (q_lc (own := [("part", 2)]) rfl nd (qi_tup (q_slice (q_var 0) (q_some q_int) q_none)) (blkOk_by (own := [("part", 2)]) (by rfl)) (by decide) (fun _ _ _ _ _ => (q_gn (i := 2) nd rfl (by first | exact Or.inl rfl | exact Or.inr rfl))) (fun _ _ _ _ _ => qts_nil) (fun _ _ _ _ _ => (q_call (C .f_lifted (fun z => nomatch z)) hr takes0 rfl (q_cons (q_var 2) (q_cons (q_var 1) q_nil))))) q_nil)))))))
theorem ok_is_of {k : Nat} {cl : Fn → FF} (T : Txt K w.params mg) (C : ∀ g : Fn, g ≠ .f_law → calOf P w K mg base k g (cl g)) (f : Addr) (cdv : Value) (A : Around) (outer : List Env) (s : Shared) (H : Hp) (E : XK) (hr : RoomG k (A.deeper (envOfC "is_of" (defScope s_is_of) s.heap.objs.size f cdv))) :
    PSs (cxOf (L2.CX P w) P w K mg base ["term", "kind"] "is_of" (defScope s_is_of) f cdv A outer s H E) (defBody s_is_of) (tS (cxOf (L2.CX P w) P w K mg base ["term", "kind"] "is_of" (defScope s_is_of) f cdv A outer s H E) (fun c d _ H => E c d H) (b_is_of cl)) := by
  have tk : Takes (cxOf (L2.CX P w) P w K mg base ["term", "kind"] "is_of" (defScope s_is_of) f cdv A outer s H E) (fun c d _ H => E c d H) := takes_of rfl rfl rfl rfl
  have nd := sc_is_of.nd
  exact (q_last (q_tryO T.c_NoTerm rfl rfl rfl tk (fun W' pn xe tk' po' => (q_last (q_ret (q_cmp (op_eqU (by have z := hu2 hr; exact z)) eqP_v (q_call (C .f_term_kind (fun z => nomatch z)) hr tk' rfl (q_cons (q_var 0) (q_cons (q_lst q_nil) q_nil))) (q_var 1) (nomark _))))) (fun a pn => (q_last (q_ret q_bl)))))
theorem ok_goes_round {k : Nat} {cl : Fn → FF} (T : Txt K w.params mg) (C : ∀ g : Fn, g ≠ .f_law → calOf P w K mg base k g (cl g)) (f : Addr) (cdv : Value) (A : Around) (outer : List Env) (s : Shared) (H : Hp) (E : XK) (hr : RoomG k (A.deeper (envOfC "goes_round" (defScope s_goes_round) s.heap.objs.size f cdv))) :
    PSs (cxOf (L2.CX P w) P w K mg base ["kind", "there", "back", "done"] "goes_round" (defScope s_goes_round) f cdv A outer s H E) (defBody s_goes_round) (tS (cxOf (L2.CX P w) P w K mg base ["kind", "there", "back", "done"] "goes_round" (defScope s_goes_round) f cdv A outer s H E) (fun c d _ H => E c d H) (b_goes_round cl)) := by
  have tk : Takes (cxOf (L2.CX P w) P w K mg base ["kind", "there", "back", "done"] "goes_round" (defScope s_goes_round) f cdv A outer s H E) (fun c d _ H => E c d H) := takes_of rfl rfl rfl rfl
  have nd := sc_goes_round.nd
  exact (q_seq (q_set (i := 3) nd rfl (by first | exact Or.inl rfl | exact Or.inr rfl) (q_tup (q_cons q_str (q_cons (q_call (C .f_lifted (fun z => nomatch z)) hr tk rfl (q_cons (q_var 2) (q_cons q_int q_nil))) (q_cons (q_tup (q_cons q_str (q_cons (q_call (C .f_lifted (fun z => nomatch z)) hr tk rfl (q_cons (q_var 1) (q_cons q_int q_nil))) (q_cons (q_tup (q_cons q_str (q_cons q_int q_nil))) q_nil)))) q_nil)))))
    (q_last (q_ret (q_call (C .f_same (fun z => nomatch z)) hr tk rfl (q_cons (q_var 3) (q_cons (q_tup (q_cons q_str (q_cons q_int q_nil))) (q_cons (q_lst (q_cons (q_var 0) q_nil)) q_nil)))))))
theorem ok_turn_fault {k : Nat} {cl : Fn → FF} (T : Txt K w.params mg) (C : ∀ g : Fn, g ≠ .f_law → calOf P w K mg base k g (cl g)) (f : Addr) (cdv : Value) (A : Around) (outer : List Env) (s : Shared) (H : Hp) (E : XK) (hr : RoomG k (A.deeper (envOfC "turn_fault" (defScope s_turn_fault) s.heap.objs.size f cdv))) :
    PSs (cxOf (L2.CX P w) P w K mg base ["one", "other", "there", "back"] "turn_fault" (defScope s_turn_fault) f cdv A outer s H E) (defBody s_turn_fault) (tS (cxOf (L2.CX P w) P w K mg base ["one", "other", "there", "back"] "turn_fault" (defScope s_turn_fault) f cdv A outer s H E) (fun c d _ H => E c d H) (b_turn_fault cl)) := by
  have tk : Takes (cxOf (L2.CX P w) P w K mg base ["one", "other", "there", "back"] "turn_fault" (defScope s_turn_fault) f cdv A outer s H E) (fun c d _ H => E c d H) := takes_of rfl rfl rfl rfl
  have nd := sc_turn_fault.nd
  exact (q_seq (q_expr (q_call (C .f_sure_kind (fun z => nomatch z)) hr tk rfl (q_cons (q_var 0) q_nil)))
    (q_seq (q_expr (q_call (C .f_sure_kind (fun z => nomatch z)) hr tk rfl (q_cons (q_var 1) q_nil)))
    (q_seq (q_ifS (qt_not (qt_tru (q_call (C .f_is_of (fun z => nomatch z)) hr tk rfl (q_cons (q_var 2) (q_cons (q_tup (q_cons q_str (q_cons (q_var 0) (q_cons (q_var 1) q_nil)))) q_nil))))) (q_last (q_ret (q_tup (q_cons q_str (q_cons q_int q_nil))))) q_snil)
    (q_seq (q_ifS (qt_not (qt_tru (q_call (C .f_is_of (fun z => nomatch z)) hr tk rfl (q_cons (q_var 3) (q_cons (q_tup (q_cons q_str (q_cons (q_var 1) (q_cons (q_var 0) q_nil)))) q_nil))))) (q_last (q_ret (q_tup (q_cons q_str (q_cons q_int q_nil))))) q_snil)
    (q_seq (q_ifS (qt_not (qt_tru (q_call (C .f_goes_round (fun z => nomatch z)) hr tk rfl (q_cons (q_var 0) (q_cons (q_var 2) (q_cons (q_var 3) q_nil)))))) (q_last (q_ret (q_tup (q_cons q_str (q_cons q_int q_nil))))) q_snil)
    (q_last (q_ret (q_if (qt_tru (q_call (C .f_goes_round (fun z => nomatch z)) hr tk rfl (q_cons (q_var 1) (q_cons (q_var 3) (q_cons (q_var 2) q_nil))))) q_non (q_tup (q_cons q_str (q_cons q_int q_nil)))))))))))
theorem ok_is_library {k : Nat} {cl : Fn → FF} (T : Txt K w.params mg) (C : ∀ g : Fn, g ≠ .f_law → calOf P w K mg base k g (cl g)) (f : Addr) (cdv : Value) (A : Around) (outer : List Env) (s : Shared) (H : Hp) (E : XK) (hr : RoomG k (A.deeper (envOfC "is_library" (defScope s_is_library) s.heap.objs.size f cdv))) :
    PSs (cxOf (L2.CX P w) P w K mg base ["thing", "row", "names", "name", "kind"] "is_library" (defScope s_is_library) f cdv A outer s H E) (defBody s_is_library) (tS (cxOf (L2.CX P w) P w K mg base ["thing", "row", "names", "name", "kind"] "is_library" (defScope s_is_library) f cdv A outer s H E) (fun c d _ H => E c d H) (b_is_library cl)) := by
  have tk : Takes (cxOf (L2.CX P w) P w K mg base ["thing", "row", "names", "name", "kind"] "is_library" (defScope s_is_library) f cdv A outer s H E) (fun c d _ H => E c d H) := takes_of rfl rfl rfl rfl
  have nd := sc_is_library.nd
  exact (q_seq (q_ifS (qt_not (qt_tru (q_isi rfl T.m_isinstance rfl T.m_list (by decide +kernel) (by decide) (q_var 0)))) (q_last (q_ret q_bl)) q_snil)
    (q_seq (q_for (passes_of rfl) rfl (qi_list (q_var 0)) (q_gn (i := 1) nd rfl (by first | exact Or.inl rfl | exact Or.inr rfl)) (q_last (q_ifS (PW.pt (qw_or (qt_not (qt_tru (q_isi rfl T.m_isinstance rfl T.m_tuple (by decide +kernel) (by decide) (q_var 1)))) (qw_or (qt_cmp (op_neU (by have z := hu2 hr; exact z)) neP_v (q_callB call_len len_v rfl T.m_len PySem.boot_len (q_cons (q_var 1) q_nil)) q_int (nomark _)) (qw_or (qt_not (qt_tru (q_isi rfl T.m_isinstance rfl T.m_str (by decide +kernel) (by decide) (q_ix (q_var 1) q_int)))) (qw_one (qt_not (qt_tru (q_call (C .f_is_kind (fun z => nomatch z)) hr tk rfl (q_cons (q_ix (q_var 1) q_int) q_nil))))))))) (q_last (q_ret q_bl)) q_snil)))
    (q_seq (by first | exact (q_setLc (i := 2) (own := [("name", 3), ("kind", 4)]) rfl nd rfl rfl (sw_true rfl rfl rfl (by decide +kernel)) (qi_list (q_var 0)) (blkOk_by (own := [("name", 3), ("kind", 4)]) (by rfl)) (by decide) (fun _ _ _ _ _ => (q_gtu rfl (q_gscons (q_gn (i := 3) nd rfl (by first | exact Or.inl rfl | exact Or.inr rfl)) (q_gscons (q_gn (i := 4) nd rfl (by first | exact Or.inl rfl | exact Or.inr rfl)) q_gsnil)))) (fun _ _ _ _ _ => qts_nil) (fun _ _ _ _ _ => (q_var 3))) | exact (q_set (i := 2) nd rfl (by first | exact Or.inl rfl | exact Or.inr rfl) (q_lc (own := [("name", 3), ("kind", 4)]) rfl nd (qi_list (q_var 0)) (blkOk_by (own := [("name", 3), ("kind", 4)]) (by rfl)) (by decide) (fun _ _ _ _ _ => (q_gtu rfl (q_gscons (q_gn (i := 3) nd rfl (by first | exact Or.inl rfl | exact Or.inr rfl)) (q_gscons (q_gn (i := 4) nd rfl (by first | exact Or.inl rfl | exact Or.inr rfl)) q_gsnil)))) (fun _ _ _ _ _ => qts_nil) (fun _ _ _ _ _ => (q_var 3)))))
    (q_last (q_ret (q_cmp (op_eqU (by have z := hu2 hr; exact z)) eqP_v (q_lenSet rfl rfl T.m_len rfl T.m_set (q_var 2)) (q_callB call_len len_v rfl T.m_len PySem.boot_len (q_cons (q_var 2) q_nil)) (nomark _)))))))
theorem ok_sure_library {k : Nat} {cl : Fn → FF} (T : Txt K w.params mg) (C : ∀ g : Fn, g ≠ .f_law → calOf P w K mg base k g (cl g)) (f : Addr) (cdv : Value) (A : Around) (outer : List Env) (s : Shared) (H : Hp) (E : XK) (hr : RoomG k (A.deeper (envOfC "sure_library" (defScope s_sure_library) s.heap.objs.size f cdv))) :
    PSs (cxOf (L2.CX P w) P w K mg base ["library"] "sure_library" (defScope s_sure_library) f cdv A outer s H E) (defBody s_sure_library) (tS (cxOf (L2.CX P w) P w K mg base ["library"] "sure_library" (defScope s_sure_library) f cdv A outer s H E) (fun c d _ H => E c d H) (b_sure_library cl)) := by
  have tk : Takes (cxOf (L2.CX P w) P w K mg base ["library"] "sure_library" (defScope s_sure_library) f cdv A outer s H E) (fun c d _ H => E c d H) := takes_of rfl rfl rfl rfl
  have nd := sc_sure_library.nd
  exact (q_last (q_ifS (qt_not (qt_tru (q_call (C .f_is_library (fun z => nomatch z)) hr tk rfl (q_cons (q_var 0) q_nil)))) (q_last (q_raise rfl tk T.x_NoLibrary rfl)) q_snil))
theorem ok_without {k : Nat} {cl : Fn → FF} (T : Txt K w.params mg) (C : ∀ g : Fn, g ≠ .f_law → calOf P w K mg base k g (cl g)) (f : Addr) (cdv : Value) (A : Around) (outer : List Env) (s : Shared) (H : Hp) (E : XK) (hr : RoomG k (A.deeper (envOfC "without" (defScope s_without) s.heap.objs.size f cdv))) :
    PSs (cxOf (L2.CX P w) P w K mg base ["things", "fewer", "left", "thing"] "without" (defScope s_without) f cdv A outer s H E) (defBody s_without) (tS (cxOf (L2.CX P w) P w K mg base ["things", "fewer", "left", "thing"] "without" (defScope s_without) f cdv A outer s H E) (fun c d _ H => E c d H) (b_without cl)) := by
  have tk : Takes (cxOf (L2.CX P w) P w K mg base ["things", "fewer", "left", "thing"] "without" (defScope s_without) f cdv A outer s H E) (fun c d _ H => E c d H) := takes_of rfl rfl rfl rfl
  have nd := sc_without.nd
  exact (q_seq (q_set (i := 2) nd rfl (by first | exact Or.inl rfl | exact Or.inr rfl) (q_callTy call_list_of list_v rfl T.m_list (by decide +kernel) (q_cons (q_var 0) q_nil)))
    (q_seq (q_for (passes_of rfl) rfl (qi_tup (q_var 1)) (q_gn (i := 3) nd rfl (by first | exact Or.inl rfl | exact Or.inr rfl)) (q_seq (q_ifS (qt_cmp (op_notInU (by have z := hu2 hr; exact z)) inU_v (q_var 3) (q_var 2) (by rfl)) (q_last (q_ret q_non)) q_snil)
    (q_last (q_expr (q_mth PySem.F.slot_list_remove PySem.F.type_list_remove (mt_remD (by have z := hu2 hr; exact z)) rem_v (q_var 2) (q_cons (q_var 3) q_nil))))))
    (q_last (q_ret (q_fz (q_var 2))))))
theorem ok_with_more {k : Nat} {cl : Fn → FF} (T : Txt K w.params mg) (C : ∀ g : Fn, g ≠ .f_law → calOf P w K mg base k g (cl g)) (f : Addr) (cdv : Value) (A : Around) (outer : List Env) (s : Shared) (H : Hp) (E : XK) (hr : RoomG k (A.deeper (envOfC "with_more" (defScope s_with_more) s.heap.objs.size f cdv))) :
    PSs (cxOf (L2.CX P w) P w K mg base ["factors", "more", "wants", "base"] "with_more" (defScope s_with_more) f cdv A outer s H E) (defBody s_with_more) (tS (cxOf (L2.CX P w) P w K mg base ["factors", "more", "wants", "base"] "with_more" (defScope s_with_more) f cdv A outer s H E) (fun c d _ H => E c d H) (b_with_more cl)) := by
  have tk : Takes (cxOf (L2.CX P w) P w K mg base ["factors", "more", "wants", "base"] "with_more" (defScope s_with_more) f cdv A outer s H E) (fun c d _ H => E c d H) := takes_of rfl rfl rfl rfl
  have nd := sc_with_more.nd
  exact (q_last (q_ret (q_call (C .f_in_order (fun z => nomatch z)) hr tk rfl (q_cons (q_lc (own := [("wants", 2), ("base", 3)]) rfl nd (qi_list (q_var 0)) (blkOk_by (own := [("wants", 2), ("base", 3)]) (by rfl)) (by decide) (fun _ _ _ _ _ => (q_gtu rfl (q_gscons (q_gn (i := 2) nd rfl (by first | exact Or.inl rfl | exact Or.inr rfl)) (q_gscons (q_gn (i := 3) nd rfl (by first | exact Or.inl rfl | exact Or.inr rfl)) q_gsnil)))) (fun _ _ _ _ _ => qts_nil) (fun _ _ _ _ _ => (q_tup (q_cons (q_callTy call_tuple_of tuple_v rfl T.m_tuple (by decide +kernel) (q_cons (q_call (C .f_in_order (fun z => nomatch z)) hr takes0 rfl (q_cons (q_op op_addU addU_v (q_callTy call_list_of list_v rfl T.m_list (by decide +kernel) (q_cons (q_var 2) q_nil)) (q_var 1)) q_nil)) q_nil)) (q_cons (q_var 3) q_nil))))) q_nil))))
theorem ok_left_to_hand_in {k : Nat} {cl : Fn → FF} (T : Txt K w.params mg) (C : ∀ g : Fn, g ≠ .f_law → calOf P w K mg base k g (cl g)) (f : Addr) (cdv : Value) (A : Around) (outer : List Env) (s : Shared) (H : Hp) (E : XK) (hr : RoomG k (A.deeper (envOfC "left_to_hand_in" (defScope s_left_to_hand_in) s.heap.objs.size f cdv))) :
    PSs (cxOf (L2.CX P w) P w K mg base ["there", "wished", "some", "wants", "base", "more"] "left_to_hand_in" (defScope s_left_to_hand_in) f cdv A outer s H E) (defBody s_left_to_hand_in) (tS (cxOf (L2.CX P w) P w K mg base ["there", "wished", "some", "wants", "base", "more"] "left_to_hand_in" (defScope s_left_to_hand_in) f cdv A outer s H E) (fun c d _ H => E c d H) (b_left_to_hand_in cl)) := by
  have tk : Takes (cxOf (L2.CX P w) P w K mg base ["there", "wished", "some", "wants", "base", "more"] "left_to_hand_in" (defScope s_left_to_hand_in) f cdv A outer s H E) (fun c d _ H => E c d H) := takes_of rfl rfl rfl rfl
  have nd := sc_left_to_hand_in.nd
  exact (q_seq (q_ifS (qt_cmp (op_eqU (by have z := hu2 hr; exact z)) eqP_v (q_var 0) (q_var 1) (nomark _)) (q_last (q_ret (q_lst q_nil))) q_snil)
    (q_seq (q_set (i := 2) nd rfl (by first | exact Or.inl rfl | exact Or.inr rfl) (q_cel q_nil))
    (q_seq (q_for (passes_of rfl) rfl (qi_list (q_var 0)) (q_gtu rfl (q_gscons (q_gn (i := 3) nd rfl (by first | exact Or.inl rfl | exact Or.inr rfl)) (q_gscons (q_gn (i := 4) nd rfl (by first | exact Or.inl rfl | exact Or.inr rfl)) q_gsnil))) (q_last (q_ifS (PW.pt (qw_and (qt_cmp (op_neU (by have z := hu2 hr; exact z)) neP_v (q_var 1) (q_lst q_nil) (nomark _)) (qw_one (qt_cmp (op_eqU (by have z := hu2 hr; exact z)) eqP_v (q_var 4) (q_ix (q_ix (q_var 1) q_int) q_int) (nomark _))))) (q_seq (q_set (i := 5) nd rfl (by first | exact Or.inl rfl | exact Or.inr rfl) (q_call (C .f_without (fun z => nomatch z)) hr tk rfl (q_cons (q_var 3) (q_cons (q_ix (q_ix (q_var 1) q_int) q_int) q_nil))))
    (q_last (q_ifS (PW.pt (qw_and (qt_cmp op_isNotU isU_v (q_var 5) q_non (nomark _)) (qw_one (qt_cmp (op_eqU (by have z := hu2 hr; exact z)) eqP_v (q_call (C .f_with_more (fun z => nomatch z)) hr tk rfl (q_cons (q_var 1) (q_cons (q_var 5) q_nil))) (q_var 0) (nomark _))))) (q_last (q_expr (q_mth PySem.F.slot_list_append PySem.F.type_list_append mt_append append_v (q_var 2) (q_cons (q_var 5) q_nil)))) q_snil))) q_snil)))
    (q_last (q_ret (q_if (qt_cmp (op_neU (by have z := hu2 hr; exact z)) neP_v (q_var 2) (q_lst q_nil) (nomark _)) (q_ix (q_call (C .f_in_order (fun z => nomatch z)) hr tk rfl (q_cons (q_var 2) q_nil)) q_int) q_non))))))
theorem ok_wished_from {k : Nat} {cl : Fn → FF} (T : Txt K w.params mg) (C : ∀ g : Fn, g ≠ .f_law → calOf P w K mg base k g (cl g)) (f : Addr) (cdv : Value) (A : Around) (outer : List Env) (s : Shared) (H : Hp) (E : XK) (hr : RoomG k (A.deeper (envOfC "wished_from" (defScope s_wished_from) s.heap.objs.size f cdv))) :
    PSs (cxOf (L2.CX P w) P w K mg base ["wants", "kind"] "wished_from" (defScope s_wished_from) f cdv A outer s H E) (defBody s_wished_from) (tS (cxOf (L2.CX P w) P w K mg base ["wants", "kind"] "wished_from" (defScope s_wished_from) f cdv A outer s H E) (fun c d _ H => E c d H) (b_wished_from cl)) := by
  have tk : Takes (cxOf (L2.CX P w) P w K mg base ["wants", "kind"] "wished_from" (defScope s_wished_from) f cdv A outer s H E) (fun c d _ H => E c d H) := takes_of rfl rfl rfl rfl
  have nd := sc_wished_from.nd
  exact (q_last (q_ret (q_if (qt_cmp (op_eqU (by have z := hu2 hr; exact z)) eqP_v (q_var 0) (q_lst q_nil) (nomark _)) (q_var 1) (q_tup (q_cons q_str (q_cons (q_call (C .f_kind_of (fun z => nomatch z)) hr tk rfl (q_cons (q_var 0) q_nil)) (q_cons (q_var 1) q_nil)))))))
theorem ok_search {k : Nat} {cl : Fn → FF} (T : Txt K w.params mg) (C : ∀ g : Fn, g ≠ .f_law → calOf P w K mg base k g (cl g)) (f : Addr) (cdv : Value) (A : Around) (outer : List Env) (s : Shared) (H : Hp) (E : XK) (hr : RoomG k (A.deeper (envOfC "search" (defScope s_search) s.heap.objs.size f cdv))) :
    PSs (cxOf (L2.CX P w) P w K mg base ["library", "kind", "some", "name", "there", "wants", "goal"] "search" (defScope s_search) f cdv A outer s H E) (defBody s_search) (tS (cxOf (L2.CX P w) P w K mg base ["library", "kind", "some", "name", "there", "wants", "goal"] "search" (defScope s_search) f cdv A outer s H E) (fun c d _ H => E c d H) (b_search cl)) := by
  have tk : Takes (cxOf (L2.CX P w) P w K mg base ["library", "kind", "some", "name", "there", "wants", "goal"] "search" (defScope s_search) f cdv A outer s H E) (fun c d _ H => E c d H) := takes_of rfl rfl rfl rfl
  have nd := sc_search.nd
  exact (q_seq (q_expr (q_call (C .f_sure_kind (fun z => nomatch z)) hr tk rfl (q_cons (q_var 1) q_nil)))
    (q_seq (q_expr (q_call (C .f_sure_library (fun z => nomatch z)) hr tk rfl (q_cons (q_var 0) q_nil)))
    (q_seq (q_set (i := 2) nd rfl (by first | exact Or.inl rfl | exact Or.inr rfl) (q_cel q_nil))
    (q_seq (q_for (passes_of rfl) rfl (qi_list (q_var 0)) (q_gtu rfl (q_gscons (q_gn (i := 3) nd rfl (by first | exact Or.inl rfl | exact Or.inr rfl)) (q_gscons (q_gn (i := 4) nd rfl (by first | exact Or.inl rfl | exact Or.inr rfl)) q_gsnil))) (q_seq (q_set (i := 5) nd rfl (by first | exact Or.inl rfl | exact Or.inr rfl) (q_call (C .f_left_to_hand_in (fun z => nomatch z)) hr tk rfl (q_cons (q_call (C .f_plain_form (fun z => nomatch z)) hr tk rfl (q_cons (q_var 4) q_nil)) (q_cons (q_call (C .f_plain_form (fun z => nomatch z)) hr tk rfl (q_cons (q_var 1) q_nil)) q_nil))))
    (q_last (q_ifS (qt_cmp op_isNotU isU_v (q_var 5) q_non (nomark _)) (q_seq (q_set (i := 6) nd rfl (by first | exact Or.inl rfl | exact Or.inr rfl) (q_call (C .f_wished_from (fun z => nomatch z)) hr tk rfl (q_cons (q_var 5) (q_cons (q_var 1) q_nil))))
    (q_last (q_expr (q_mth PySem.F.slot_list_append PySem.F.type_list_append mt_append append_v (q_var 2) (q_cons (q_tup (q_cons (q_var 3) (q_cons (q_var 5) (q_cons (q_call (C .f_turner (fun z => nomatch z)) hr tk rfl (q_cons (q_var 4) (q_cons (q_var 6) q_nil))) (q_cons (q_call (C .f_turner (fun z => nomatch z)) hr tk rfl (q_cons (q_var 6) (q_cons (q_var 4) q_nil))) q_nil))))) q_nil))))) q_snil))))
    (q_last (q_ret (q_fz (q_var 2))))))))
theorem ok_search_fault {k : Nat} {cl : Fn → FF} (T : Txt K w.params mg) (C : ∀ g : Fn, g ≠ .f_law → calOf P w K mg base k g (cl g)) (f : Addr) (cdv : Value) (A : Around) (outer : List Env) (s : Shared) (H : Hp) (E : XK) (hr : RoomG k (A.deeper (envOfC "search_fault" (defScope s_search_fault) s.heap.objs.size f cdv))) :
    PSs (cxOf (L2.CX P w) P w K mg base ["library", "kind", "name", "thing", "some", "wants", "there", "back", "title"] "search_fault" (defScope s_search_fault) f cdv A outer s H E) (defBody s_search_fault) (tS (cxOf (L2.CX P w) P w K mg base ["library", "kind", "name", "thing", "some", "wants", "there", "back", "title"] "search_fault" (defScope s_search_fault) f cdv A outer s H E) (fun c d _ H => E c d H) (b_search_fault cl)) := by
  have tk : Takes (cxOf (L2.CX P w) P w K mg base ["library", "kind", "name", "thing", "some", "wants", "there", "back", "title"] "search_fault" (defScope s_search_fault) f cdv A outer s H E) (fun c d _ H => E c d H) := takes_of rfl rfl rfl rfl
  have nd := sc_search_fault.nd
  exact (q_seq (q_expr (q_call (C .f_sure_kind (fun z => nomatch z)) hr tk rfl (q_cons (q_var 1) q_nil)))
    (q_seq (q_expr (q_call (C .f_sure_library (fun z => nomatch z)) hr tk rfl (q_cons (q_var 0) q_nil)))
    (q_seq (by first | exact (q_setLc (i := 4) (own := [("title", 8), ("there", 6)]) rfl nd rfl rfl (sw_true rfl rfl rfl (by decide +kernel)) (qi_list (q_var 0)) (blkOk_by (own := [("title", 8), ("there", 6)]) (by rfl)) (by decide) (fun _ _ _ _ _ => (q_gtu rfl (q_gscons (q_gn (i := 8) nd rfl (by first | exact Or.inl rfl | exact Or.inr rfl)) (q_gscons (q_gn (i := 6) nd rfl (by first | exact Or.inl rfl | exact Or.inr rfl)) q_gsnil)))) (fun _ _ _ _ _ => (qts_one (PW.pt (qw_and (qt_tru (q_isi rfl T.m_isinstance rfl T.m_str (by decide +kernel) (by decide) (q_var 2))) (qw_one (qt_cmp (op_eqU (by have z := hu2 hr; exact z)) eqP_v (q_var 8) (q_var 2) (nomark _))))))) (fun _ _ _ _ _ => (q_var 6))) | exact (q_set (i := 4) nd rfl (by first | exact Or.inl rfl | exact Or.inr rfl) (q_lc (own := [("title", 8), ("there", 6)]) rfl nd (qi_list (q_var 0)) (blkOk_by (own := [("title", 8), ("there", 6)]) (by rfl)) (by decide) (fun _ _ _ _ _ => (q_gtu rfl (q_gscons (q_gn (i := 8) nd rfl (by first | exact Or.inl rfl | exact Or.inr rfl)) (q_gscons (q_gn (i := 6) nd rfl (by first | exact Or.inl rfl | exact Or.inr rfl)) q_gsnil)))) (fun _ _ _ _ _ => (qts_one (PW.pt (qw_and (qt_tru (q_isi rfl T.m_isinstance rfl T.m_str (by decide +kernel) (by decide) (q_var 2))) (qw_one (qt_cmp (op_eqU (by have z := hu2 hr; exact z)) eqP_v (q_var 8) (q_var 2) (nomark _))))))) (fun _ _ _ _ _ => (q_var 6)))))
    (q_seq (q_ifS (qt_cmp (op_eqU (by have z := hu2 hr; exact z)) eqP_v (q_var 4) (q_lst q_nil) (nomark _)) (q_last (q_raise rfl tk T.x_NoName rfl)) q_snil)
    (q_seq (q_ifS (PW.pt (qw_or (qt_not (qt_tru (q_isi rfl T.m_isinstance rfl T.m_tuple (by decide +kernel) (by decide) (q_var 3)))) (qw_or (qt_cmp (op_neU (by have z := hu2 hr; exact z)) neP_v (q_callB call_len len_v rfl T.m_len PySem.boot_len (q_cons (q_var 3) q_nil)) q_int (nomark _)) (qw_one (qt_not (qt_tru (q_call (C .f_is_form (fun z => nomatch z)) hr tk rfl (q_cons (q_ix (q_var 3) q_int) q_nil)))))))) (q_last (q_ret (q_tup (q_cons q_str q_nil)))) q_snil)
    (q_seq (q_asg (q_var 3) (q_gtu rfl (q_gscons (q_gn (i := 5) nd rfl (by first | exact Or.inl rfl | exact Or.inr rfl)) (q_gscons (q_gn (i := 6) nd rfl (by first | exact Or.inl rfl | exact Or.inr rfl)) (q_gscons (q_gn (i := 7) nd rfl (by first | exact Or.inl rfl | exact Or.inr rfl)) q_gsnil)))))
    (q_last (q_ret (q_call (C .f_turn_fault (fun z => nomatch z)) hr tk rfl (q_cons (q_ix (q_var 4) q_int) (q_cons (q_call (C .f_wished_from (fun z => nomatch z)) hr tk rfl (q_cons (q_var 5) (q_cons (q_var 1) q_nil))) (q_cons (q_var 6) (q_cons (q_var 7) q_nil)))))))))))))
theorem ok__law_well {k : Nat} {cl : Fn → FF} (T : Txt K w.params mg) (C : ∀ g : Fn, g ≠ .f_law → calOf P w K mg base k g (cl g)) (f : Addr) (cdv : Value) (A : Around) (outer : List Env) (s : Shared) (H : Hp) (E : XK) (hr : RoomG k (A.deeper (envOfC "_law_well" (defScope s__law_well) s.heap.objs.size f cdv))) :
    PSs (cxOf (L2.CX P w) P w K mg base ["_law_cell"] "_law_well" (defScope s__law_well) f cdv A outer s H E) (defBody s__law_well) (tS (cxOf (L2.CX P w) P w K mg base ["_law_cell"] "_law_well" (defScope s__law_well) f cdv A outer s H E) (fun c d _ H => E c d H) (b__law_well cl)) := by
  have tk : Takes (cxOf (L2.CX P w) P w K mg base ["_law_cell"] "_law_well" (defScope s__law_well) f cdv A outer s H E) (fun c d _ H => E c d H) := takes_of rfl rfl rfl rfl
  have nd := sc__law_well.nd
  exact (q_last (q_ret (q_cel (q_cons (q_op op_mulU mulU_v (q_var 0) (q_callTy call_int1 int_v rfl T.m_int (by decide +kernel) (q_cons (q_cmp op_ge (cmp_v _) (q_var 0) (q_op op_pow pow_v q_int q_int) (nomark _)) q_nil))) (q_cons (q_var 0) (q_cons q_int q_nil))))))
theorem ok__law_draw {k : Nat} {cl : Fn → FF} (T : Txt K w.params mg) (C : ∀ g : Fn, g ≠ .f_law → calOf P w K mg base k g (cl g)) (f : Addr) (cdv : Value) (A : Around) (outer : List Env) (s : Shared) (H : Hp) (E : XK) (hr : RoomG k (A.deeper (envOfC "_law_draw" (defScope s__law_draw) s.heap.objs.size f cdv))) :
    PSs (cxOf (L2.CX P w) P w K mg base ["_law_well_here", "_law_width", "_law_low", "_law_digit_told"] "_law_draw" (defScope s__law_draw) f cdv A outer s H E) (defBody s__law_draw) (tS (cxOf (L2.CX P w) P w K mg base ["_law_well_here", "_law_width", "_law_low", "_law_digit_told"] "_law_draw" (defScope s__law_draw) f cdv A outer s H E) (fun c d _ H => E c d H) (b__law_draw cl)) := by
  have tk : Takes (cxOf (L2.CX P w) P w K mg base ["_law_well_here", "_law_width", "_law_low", "_law_digit_told"] "_law_draw" (defScope s__law_draw) f cdv A outer s H E) (fun c d _ H => E c d H) := takes_of rfl rfl rfl rfl
  have nd := sc__law_draw.nd
  exact (q_seq (q_ifS (qt_cmp op_gt (cmp_v _) (q_ix (q_var 0) q_int) q_int (nomark _)) (q_seq (q_set (i := 3) nd rfl (by first | exact Or.inl rfl | exact Or.inr rfl) (q_op op_mod mod_v (q_ix (q_var 0) q_int) (q_var 1)))
    (q_seq (q_asg (q_op op_fdivW div_v (q_ix (q_var 0) q_int) (q_var 1)) (q_gsb (W := W0) (q_var 0) q_int))
    (q_last (q_ret (q_var 3))))) q_snil)
    (q_seq (q_asg (q_op op_addU addU_v (q_ix (q_var 0) q_int) q_int) (q_gsb (W := W0) (q_var 0) q_int))
    (q_seq (q_set (i := 2) nd rfl (by first | exact Or.inl rfl | exact Or.inr rfl) (q_op op_addU addU_v (q_op op_mod mod_v (q_ix (q_var 0) q_int) q_int) (q_op op_mulU mulU_v (q_op op_fdivW div_v (q_ix (q_var 0) q_int) q_int) q_int)))
    (q_seq (q_set (i := 2) nd rfl (by first | exact Or.inl rfl | exact Or.inr rfl) (q_op op_mod mod_v (q_op op_mulU mulU_v (q_op op_addU addU_v (q_op op_addU addU_v (q_var 2) (q_op op_mulU mulU_v q_int (q_ix (q_var 0) q_int))) q_int) q_int) q_int))
    (q_seq (q_set (i := 2) nd rfl (by first | exact Or.inl rfl | exact Or.inr rfl) (q_op op_mod mod_v (q_op op_mulU mulU_v (q_var 2) (q_op op_addU addU_v (q_op op_addU addU_v (q_op op_fdivW div_v (q_var 2) q_int) q_int) (q_ix (q_var 0) q_int))) q_int))
    (q_last (q_ret (q_op op_mod mod_v (q_op op_mod mod_v (q_op op_mulU mulU_v (q_var 2) (q_op op_addU addU_v (q_op op_fdivW div_v (q_var 2) q_int) q_int)) q_int) (q_var 1)))))))))
theorem ok__law_word {k : Nat} (T : Txt K w.params mg) (act : FE) (f : Addr) (cdv : Value) (A : Around) (outer : List Env) (s : Shared) (H : Hp) (E : XK) (hr : RoomG k (A.deeper (envOfC "_law_word" (defScope s__law_word) s.heap.objs.size f cdv)))
    (hask : ∀ (pn : List (Addr × Obj)) (xe : Value → Shared → Prop) (W : WX) (p1 p2 : Pos), Takes ((cxOf (L2.CX P w) P w K mg base ["_law_ask", "_law_found"] "_law_word" (defScope s__law_word) f cdv A outer s H E).tr pn xe) W → PE ((cxOf (L2.CX P w) P w K mg base ["_law_ask", "_law_found"] "_law_word" (defScope s__law_word) f cdv A outer s H E).tr pn xe) (.Call (.Name "_law_ask" p1) [] [] p2) (tF ((cxOf (L2.CX P w) P w K mg base ["_law_ask", "_law_found"] "_law_word" (defScope s__law_word) f cdv A outer s H E).tr pn xe) W act)) :
    PSs (cxOf (L2.CX P w) P w K mg base ["_law_ask", "_law_found"] "_law_word" (defScope s__law_word) f cdv A outer s H E) (defBody s__law_word) (tS (cxOf (L2.CX P w) P w K mg base ["_law_ask", "_law_found"] "_law_word" (defScope s__law_word) f cdv A outer s H E) (fun c d _ H => E c d H) (b__law_word act)) := by
  have tk : Takes (cxOf (L2.CX P w) P w K mg base ["_law_ask", "_law_found"] "_law_word" (defScope s__law_word) f cdv A outer s H E) (fun c d _ H => E c d H) := takes_of rfl rfl rfl rfl
  have nd := sc__law_word.nd
  exact (q_seq (q_set (i := 1) nd rfl (by first | exact Or.inl rfl | exact Or.inr rfl) q_str)
    (q_seq (q_tryC rfl rfl nd tk T.xk (fun W' pn xe tk' po' => (q_last (q_expr (hask _ _ _ _ _ tk')))) (ClsF.plain T.c_NoLibrary rfl (fun y hy a oe pn C hyC hz hfz => (q_last (q_set (i := 1) nd rfl (by first | exact Or.inl rfl | exact Or.inr rfl) q_str))) (ClsF.plain T.c_SwapError rfl (fun y hy a oe pn C hyC hz hfz => (q_last (q_set (i := 1) nd rfl (by first | exact Or.inl rfl | exact Or.inr rfl) q_str))) ClsF.nil)))
    (q_last (q_ret (q_var 1)))))
theorem ok__law_library {k : Nat} {cl : Fn → FF} (T : Txt K w.params mg) (C : ∀ g : Fn, g ≠ .f_law → calOf P w K mg base k g (cl g)) (f : Addr) (cdv : Value) (A : Around) (outer : List Env) (s : Shared) (H : Hp) (E : XK) (hr : RoomG k (A.deeper (envOfC "_law_library" (defScope s__law_library) s.heap.objs.size f cdv))) :
    PSs (cxOf (L2.CX P w) P w K mg base ["_law_well_here", "_law_names", "_law_turn", "_law_one", "_law_other", "_law_some", "_law_name"] "_law_library" (defScope s__law_library) f cdv A outer s H E) (defBody s__law_library) (tS (cxOf (L2.CX P w) P w K mg base ["_law_well_here", "_law_names", "_law_turn", "_law_one", "_law_other", "_law_some", "_law_name"] "_law_library" (defScope s__law_library) f cdv A outer s H E) (fun c d _ H => E c d H) (b__law_library cl)) := by
  have tk : Takes (cxOf (L2.CX P w) P w K mg base ["_law_well_here", "_law_names", "_law_turn", "_law_one", "_law_other", "_law_some", "_law_name"] "_law_library" (defScope s__law_library) f cdv A outer s H E) (fun c d _ H => E c d H) := takes_of rfl rfl rfl rfl
  have nd := sc__law_library.nd
  exact (q_seq (q_set (i := 1) nd rfl (by first | exact Or.inl rfl | exact Or.inr rfl) (q_lst (q_cons q_str (q_cons q_str (q_cons q_str (q_cons q_str (q_cons q_str (q_cons q_str (q_cons q_str (q_cons q_str (q_cons q_str (q_cons q_str q_nil))))))))))))
    (q_seq (q_set (i := 2) nd rfl (by first | exact Or.inl rfl | exact Or.inr rfl) (q_call (C .f__law_draw (fun z => nomatch z)) hr tk rfl (q_cons (q_var 0) (q_cons q_int q_nil))))
    (q_seq (q_set (i := 1) nd rfl (by first | exact Or.inl rfl | exact Or.inr rfl) (q_slice (q_op op_addU addU_v (q_slice (q_var 1) (q_some (q_var 2)) q_none) (q_slice (q_var 1) q_none (q_some (q_var 2)))) q_none (q_some (q_op op_addU addU_v q_int (q_call (C .f__law_draw (fun z => nomatch z)) hr tk rfl (q_cons (q_var 0) (q_cons q_int q_nil)))))))
    (q_seq (q_par (i := 3) (j := 4) rfl nd rfl rfl (by decide) rfl rfl (q_cons (q_tup (q_cons q_str (q_cons (q_call (C .f__law_draw (fun z => nomatch z)) hr tk rfl (q_cons (q_var 0) (q_cons q_int q_nil))) q_nil))) (q_cons (q_tup (q_cons q_str (q_cons (q_call (C .f__law_draw (fun z => nomatch z)) hr tk rfl (q_cons (q_var 0) (q_cons q_int q_nil))) q_nil))) q_nil)) (by rfl))
    (q_seq (q_set (i := 5) nd rfl (by first | exact Or.inl rfl | exact Or.inr rfl) (q_lst (q_cons (q_var 3) (q_cons (q_var 4) (q_cons (q_tup (q_cons q_str (q_cons (q_var 3) (q_cons (q_var 4) q_nil)))) (q_cons (q_tup (q_cons q_str (q_cons (q_var 4) (q_cons (q_var 3) q_nil)))) (q_cons (q_tup (q_cons q_str (q_cons (q_var 3) (q_cons (q_var 4) q_nil)))) (q_cons (q_tup (q_cons q_str q_nil)) (q_cons (q_var 3) q_nil)))))))))
    (q_last (q_ret (q_lc (own := [("_law_name", 6)]) rfl nd (qi_list (q_var 1)) (blkOk_by (own := [("_law_name", 6)]) (by rfl)) (by decide) (fun _ _ _ _ _ => (q_gn (i := 6) nd rfl (by first | exact Or.inl rfl | exact Or.inr rfl))) (fun _ _ _ _ _ => qts_nil) (fun _ _ _ _ _ => (q_tup (q_cons (q_var 6) (q_cons (q_ix (q_var 5) (q_call (C .f__law_draw (fun z => nomatch z)) hr takes0 rfl (q_cons (q_var 0) (q_cons q_int q_nil)))) q_nil))))))))))))
theorem ok__law_twice {k : Nat} {cl : Fn → FF} (T : Txt K w.params mg) (C : ∀ g : Fn, g ≠ .f_law → calOf P w K mg base k g (cl g)) (f : Addr) (cdv : Value) (A : Around) (outer : List Env) (s : Shared) (H : Hp) (E : XK) (hr : RoomG k (A.deeper (envOfC "_law_twice" (defScope s__law_twice) s.heap.objs.size f cdv))) :
    PSs (cxOf (L2.CX P w) P w K mg base ["_law_well_here", "_law_library_here", "_law_spot", "_law_other", "_law_name", "_law_found"] "_law_twice" (defScope s__law_twice) f cdv A outer s H E) (defBody s__law_twice) (tS (cxOf (L2.CX P w) P w K mg base ["_law_well_here", "_law_library_here", "_law_spot", "_law_other", "_law_name", "_law_found"] "_law_twice" (defScope s__law_twice) f cdv A outer s H E) (fun c d _ H => E c d H) (b__law_twice cl)) := by
  have tk : Takes (cxOf (L2.CX P w) P w K mg base ["_law_well_here", "_law_library_here", "_law_spot", "_law_other", "_law_name", "_law_found"] "_law_twice" (defScope s__law_twice) f cdv A outer s H E) (fun c d _ H => E c d H) := takes_of rfl rfl rfl rfl
  have nd := sc__law_twice.nd
  exact (q_seq (q_set (i := 2) nd rfl (by first | exact Or.inl rfl | exact Or.inr rfl) (q_call (C .f__law_draw (fun z => nomatch z)) hr tk rfl (q_cons (q_var 0) (q_cons (q_callB call_len len_v rfl T.m_len PySem.boot_len (q_cons (q_var 1) q_nil)) q_nil))))
    (q_seq (q_set (i := 3) nd rfl (by first | exact Or.inl rfl | exact Or.inr rfl) (q_lst (q_cons (q_op op_mod mod_v (q_op op_addU addU_v (q_op op_addU addU_v (q_var 2) q_int) (q_call (C .f__law_draw (fun z => nomatch z)) hr tk rfl (q_cons (q_var 0) (q_cons (q_op op_sub sub_v (q_callB call_len len_v rfl T.m_len PySem.boot_len (q_cons (q_var 1) q_nil)) q_int) q_nil)))) (q_callB call_len len_v rfl T.m_len PySem.boot_len (q_cons (q_var 1) q_nil))) (q_cons (q_op op_mod mod_v (q_op op_addU addU_v (q_var 2) q_int) (q_callB call_len len_v rfl T.m_len PySem.boot_len (q_cons (q_var 1) q_nil))) q_nil))))
    (q_seq (q_set (i := 3) nd rfl (by first | exact Or.inl rfl | exact Or.inr rfl) (q_ix (q_var 3) (q_call (C .f__law_draw (fun z => nomatch z)) hr tk rfl (q_cons (q_var 0) (q_cons q_int q_nil)))))
    (q_seq (q_set (i := 4) nd rfl (by first | exact Or.inl rfl | exact Or.inr rfl) (q_ix (q_ix (q_var 1) (q_var 2)) q_int))
    (q_seq (q_set (i := 5) nd rfl (by first | exact Or.inl rfl | exact Or.inr rfl) (q_callTy call_list_of list_v rfl T.m_list (by decide +kernel) (q_cons (q_var 1) q_nil)))
    (q_seq (q_asg (q_tup (q_cons (q_var 4) (q_cons (q_ix (q_lst (q_cons (q_ix (q_ix (q_var 1) (q_var 3)) q_int) (q_cons (q_ix (q_ix (q_var 1) (q_var 2)) q_int) q_nil))) (q_call (C .f__law_draw (fun z => nomatch z)) hr tk rfl (q_cons (q_var 0) (q_cons q_int q_nil)))) q_nil))) (q_gsb (W := W0) (q_var 5) (q_var 3)))
    (q_last (q_ret (q_tup (q_cons (q_fz (q_var 5)) (q_cons (q_var 4) q_nil)))))))))))
theorem ok_law {k : Nat} {cl cl2 : Fn → FF} (T : Txt K w.params mg) (C : ∀ g : Fn, g ≠ .f_law → calOf P w K mg base (k + 2) g (cl g)) (C2 : ∀ g : Fn, g ≠ .f_law → calOf P w K mg base k g (cl2 g)) (f : Addr) (cdv : Value) (A : Around) (outer : List Env) (s : Shared) (H : Hp) (E : XK) (B : TbF K mg base "law" cdv) (hr : RoomG (k + 2) (A.deeper (envOfC "law" (defScope s_law) s.heap.objs.size f cdv))) :
    PSs (cxOf (L2.CX P w) P w K mg base ["_law_script", "_law_cell", "_law_well_here", "_law_library_here", "_law_wished", "_law_name", "_law_found", "_law_turn", "_law_bad", "_law_kept", "_law_thing", "_law_asks", "_law_ask"] "law" (defScope s_law) f cdv A outer s H E) (defBody s_law) (tS (cxOf (L2.CX P w) P w K mg base ["_law_script", "_law_cell", "_law_well_here", "_law_library_here", "_law_wished", "_law_name", "_law_found", "_law_turn", "_law_bad", "_law_kept", "_law_thing", "_law_asks", "_law_ask"] "law" (defScope s_law) f cdv A outer s H E) (fun c d _ H => E c d H) (b_law cl cl2)) := by
  have tk : Takes (cxOf (L2.CX P w) P w K mg base ["_law_script", "_law_cell", "_law_well_here", "_law_library_here", "_law_wished", "_law_name", "_law_found", "_law_turn", "_law_bad", "_law_kept", "_law_thing", "_law_asks", "_law_ask"] "law" (defScope s_law) f cdv A outer s H E) (fun c d _ H => E c d H) := takes_of rfl rfl rfl rfl
  have nd := sc_law.nd
  exact pss_obs (o0 := _) (o1 := _) (F := fun o0 o1 => b0_law o0 o1 cl cl2) (q_seq (q_for (passes_of rfl) rfl (qi_list (q_op op_addU addU_v (q_lst (q_cons q_int (q_cons q_int q_nil))) (q_slice (q_var 0) q_none (q_some q_int)))) (q_gn (i := 1) nd rfl (by first | exact Or.inl rfl | exact Or.inr rfl)) (q_seq (q_set (i := 2) nd rfl (by first | exact Or.inl rfl | exact Or.inr rfl) (q_call (C .f__law_well (fun z => nomatch z)) hr tk rfl (q_cons (q_var 1) q_nil)))
    (q_seq (q_set (i := 3) nd rfl (by first | exact Or.inl rfl | exact Or.inr rfl) (q_call (C .f__law_library (fun z => nomatch z)) hr tk rfl (q_cons (q_var 2) q_nil)))
    (q_seq (q_set (i := 4) nd rfl (by first | exact Or.inl rfl | exact Or.inr rfl) (q_ix (q_ix (q_var 3) (q_call (C .f__law_draw (fun z => nomatch z)) hr tk rfl (q_cons (q_var 2) (q_cons (q_callB call_len len_v rfl T.m_len PySem.boot_len (q_cons (q_var 3) q_nil)) q_nil)))) q_int))
    (q_seq (q_set (i := 5) nd rfl (by first | exact Or.inl rfl | exact Or.inr rfl) (q_ix (q_ix (q_var 3) (q_call (C .f__law_draw (fun z => nomatch z)) hr tk rfl (q_cons (q_var 2) (q_cons (q_callB call_len len_v rfl T.m_len PySem.boot_len (q_cons (q_var 3) q_nil)) q_nil)))) q_int))
    (q_seq (q_set (i := 6) nd rfl (by first | exact Or.inl rfl | exact Or.inr rfl) (q_call (C .f_search (fun z => nomatch z)) hr tk rfl (q_cons (q_var 3) (q_cons (q_var 4) q_nil))))
    (q_seq (q_ifS (PW.pt (qw_or (qt_not (qt_tru (q_isi rfl T.m_isinstance rfl T.m_list (by decide +kernel) (by decide) (q_var 6)))) (qw_one (qt_cmp (op_neU (by have z := hu2 hr; exact z)) neP_v (q_call (C .f_search_fault (fun z => nomatch z)) hr tk rfl (q_cons (q_var 3) (q_cons (q_var 4) (q_cons (q_var 5) (q_cons q_non q_nil))))) (q_tup (q_cons q_str q_nil)) (nomark _))))) (q_last (q_ret q_bl)) q_snil)
    (q_last (q_for (passes_of rfl) rfl (qi_range1 rfl T.m_range (q_cons q_int q_nil)) (q_gn (i := 7) nd rfl (by first | exact Or.inl rfl | exact Or.inr rfl)) (q_seq (q_asg (q_call (C .f__law_twice (fun z => nomatch z)) hr tk rfl (q_cons (q_var 2) (q_cons (q_var 3) q_nil))) (q_gtu rfl (q_gscons (q_gn (i := 8) nd rfl (by first | exact Or.inl rfl | exact Or.inr rfl)) (q_gscons (q_gn (i := 5) nd rfl (by first | exact Or.inl rfl | exact Or.inr rfl)) q_gsnil))))
    (q_seq (q_set (i := 9) nd rfl (by first | exact Or.inl rfl | exact Or.inr rfl) (q_callTy call_list_of list_v rfl T.m_list (by decide +kernel) (q_cons (q_var 8) q_nil)))
    (q_seq (q_set (i := 5) nd rfl (by first | exact Or.inl rfl | exact Or.inr rfl) (q_ix (q_lst (q_cons (q_var 5) (q_cons (q_var 5) (q_cons (q_ix (q_ix (q_var 3) q_int) q_int) (q_cons (q_ix (q_ix (q_var 3) (q_neg q_int)) q_int) (q_cons q_str (q_cons q_non (q_cons q_int q_nil)))))))) (q_call (C .f__law_draw (fun z => nomatch z)) hr tk rfl (q_cons (q_var 2) (q_cons q_int q_nil)))))
    (q_seq (q_set (i := 10) nd rfl (by first | exact Or.inl rfl | exact Or.inr rfl) (q_ix (q_lst (q_cons q_non (q_cons (q_tup (q_cons (q_lst q_nil) (q_cons (q_tup (q_cons q_str q_nil)) (q_cons (q_tup (q_cons q_str q_nil)) q_nil)))) (q_cons (q_lst q_nil) (q_cons q_int q_nil))))) (q_call (C .f__law_draw (fun z => nomatch z)) hr tk rfl (q_cons (q_var 2) (q_cons q_int q_nil)))))
    (q_seq (q_set (i := 11) nd rfl (by first | exact Or.inl rfl | exact Or.inr rfl) (q_cel (q_cons (q_lamv (j := 2) (i := 0) (xq := "law") B rfl (LamX.lamS_by (by show LamX.lamSB (defScope s_law) _ = true; decide +kernel)) lam_def0) q_nil)))
    (q_seq (q_expr (q_mth PySem.F.slot_list_append PySem.F.type_list_append mt_append append_v (q_var 11) (q_cons (q_lamv (j := 2) (i := 1) (xq := "law") B rfl (LamX.lamS_by (by show LamX.lamSB (defScope s_law) _ = true; decide +kernel)) lam_def0) q_nil)))
    (q_last (q_ifS (PW.pt (qw_or (qt_cmp (op_neU (by have z := hu2 hr; exact z)) neP_v (q_lcV (c := false) (own := [("_law_ask", 12)]) (st := s__law_word) (Ng := ["_law_ask", "_law_found"]) (a := "_law_ask") (bg := b__law_word) T.t__law_word sc__law_word rfl (Or.inl rfl) (fun act g cdv A outer s H E hr' hask => ok__law_word T act g cdv A outer s H E hr' hask) hr rfl (lamVs_cons (lamV_mk (LamX.lamS_by (by show LamX.lamSB (defScope s_law) _ = true; decide +kernel)) (fun A outer s H E f c' hr2 tkL => (q_call (C2 .f_search (fun z => nomatch z)) hr2 tkL rfl (q_cons (q_var 8) (q_cons (q_var 4) q_nil))))) (lamVs_cons (lamV_mk (LamX.lamS_by (by show LamX.lamSB (defScope s_law) _ = true; decide +kernel)) (fun A outer s H E f c' hr2 tkL => (q_call (C2 .f_search_fault (fun z => nomatch z)) hr2 tkL rfl (q_cons (q_var 8) (q_cons (q_var 4) (q_cons (q_var 5) (q_cons (q_var 10) q_nil))))))) lamVs_nil)) rfl nd (qi_list (q_var 11)) (blkOk_by (own := [("_law_ask", 12)]) (by rfl)) (by decide) (fun _ _ _ _ _ => (q_gn (i := 12) nd rfl (by first | exact Or.inl rfl | exact Or.inr rfl))) (fun _ _ _ _ _ => qts_nil) (fun _ _ _ _ _ => q_var 12) (fun _ _ _ _ _ => rfl)) (q_op op_mulU mulU_v (q_lst (q_cons q_str q_nil)) q_int) (nomark _)) (qw_one (qt_cmp (op_neU (by have z := hu2 hr; exact z)) neP_v (q_var 8) (q_var 9) (nomark _))))) (q_last (q_ret q_bl)) q_snil)))))))))))))))))
    (q_last (q_ret q_bl)))
theorem all_ok (T : Txt K w.params mg) (Kb : K.In base) (Gb : base.Ns mainGlobals mg) (B_order_of : TbK K mg base "order_of") : ∀ (n : Nat) (g : Fn), g ≠ .f_law → calOf P w K mg base n g (ev n g)
  | 0, .f_Loose___init__, _ => calM_zero T.t_Loose___init__
  | 0, .f_Loose_handed, _ => calM_zero T.t_Loose_handed
  | 0, .f_Bound___init__, _ => calM_zero T.t_Bound___init__
  | 0, .f_Bound_handed, _ => calM_zero T.t_Bound_handed
  | 0, .f_Leaf___init__, _ => calM_zero T.t_Leaf___init__
  | 0, .f_Leaf_got, _ => calM_zero T.t_Leaf_got
  | 0, .f_Result___init__, _ => calM_zero T.t_Result___init__
  | 0, .f_Result_got, _ => calM_zero T.t_Result_got
  | 0, .f_Body___init__, _ => calM_zero T.t_Body___init__
  | 0, .f_Body_got, _ => calM_zero T.t_Body_got
  | 0, .f_is_from, _ => cal_zero T.t_is_from
  | 0, .f_inner_of, _ => cal_zero T.t_inner_of
  | 0, .f_is_kind, _ => cal_zero T.t_is_kind
  | 0, .f_sure_kind, _ => cal_zero T.t_sure_kind
  | 0, .f_order_of, _ => cal_zero T.t_order_of
  | 0, .f_in_order, _ => cal_zero T.t_in_order
  | 0, .f_wants_with, _ => cal_zero T.t_wants_with
  | 0, .f_plain_form, _ => cal_zero T.t_plain_form
  | 0, .f_form, _ => cal_zero T.t_form
  | 0, .f_alike, _ => cal_zero T.t_alike
  | 0, .f_is_base, _ => cal_zero T.t_is_base
  | 0, .f_is_factor, _ => cal_zero T.t_is_factor
  | 0, .f_is_form, _ => cal_zero T.t_is_form
  | 0, .f_kind_by, _ => cal_zero T.t_kind_by
  | 0, .f_kind_of, _ => cal_zero T.t_kind_of
  | 0, .f_sure_given, _ => cal_zero T.t_sure_given
  | 0, .f_is_shape, _ => cal_zero T.t_is_shape
  | 0, .f_kind_of_given, _ => cal_zero T.t_kind_of_given
  | 0, .f_kind_of_two, _ => cal_zero T.t_kind_of_two
  | 0, .f_kind_in, _ => cal_zero T.t_kind_in
  | 0, .f_sure_kind_in, _ => cal_zero T.t_sure_kind_in
  | 0, .f_term_kind, _ => cal_zero T.t_term_kind
  | 0, .f_opened, _ => cal_zero T.t_opened
  | 0, .f_meant, _ => cal_zero T.t_meant
  | 0, .f_said, _ => cal_zero T.t_said
  | 0, .f_chain_said, _ => cal_zero T.t_chain_said
  | 0, .f_plain_in, _ => cal_zero T.t_plain_in
  | 0, .f_same, _ => cal_zero T.t_same
  | 0, .f_put_back, _ => cal_zero T.t_put_back
  | 0, .f_factors_from, _ => cal_zero T.t_factors_from
  | 0, .f_parts, _ => cal_zero T.t_parts
  | 0, .f_built, _ => cal_zero T.t_built
  | 0, .f_turner, _ => cal_zero T.t_turner
  | 0, .f_lifted, _ => cal_zero T.t_lifted
  | 0, .f_is_of, _ => cal_zero T.t_is_of
  | 0, .f_goes_round, _ => cal_zero T.t_goes_round
  | 0, .f_turn_fault, _ => cal_zero T.t_turn_fault
  | 0, .f_is_library, _ => cal_zero T.t_is_library
  | 0, .f_sure_library, _ => cal_zero T.t_sure_library
  | 0, .f_without, _ => cal_zero T.t_without
  | 0, .f_with_more, _ => cal_zero T.t_with_more
  | 0, .f_left_to_hand_in, _ => cal_zero T.t_left_to_hand_in
  | 0, .f_wished_from, _ => cal_zero T.t_wished_from
  | 0, .f_search, _ => cal_zero T.t_search
  | 0, .f_search_fault, _ => cal_zero T.t_search_fault
  | 0, .f__law_well, _ => cal_zero T.t__law_well
  | 0, .f__law_draw, _ => cal_zero T.t__law_draw
  | 0, .f__law_library, _ => cal_zero T.t__law_library
  | 0, .f__law_twice, _ => cal_zero T.t__law_twice
  | n + 1, .f_Loose___init__, _ => calMB T.t_Loose___init__ sc_Loose___init__ (ok_Loose___init__ T (all_ok T Kb Gb B_order_of n))
  | n + 1, .f_Loose_handed, _ => calMB T.t_Loose_handed sc_Loose_handed (ok_Loose_handed T (all_ok T Kb Gb B_order_of n))
  | n + 1, .f_Bound___init__, _ => calMB T.t_Bound___init__ sc_Bound___init__ (ok_Bound___init__ T (all_ok T Kb Gb B_order_of n))
  | n + 1, .f_Bound_handed, _ => calMB T.t_Bound_handed sc_Bound_handed (ok_Bound_handed T (all_ok T Kb Gb B_order_of n))
  | n + 1, .f_Leaf___init__, _ => calMB T.t_Leaf___init__ sc_Leaf___init__ (ok_Leaf___init__ T (all_ok T Kb Gb B_order_of n))
  | n + 1, .f_Leaf_got, _ => calMB T.t_Leaf_got sc_Leaf_got (ok_Leaf_got T (all_ok T Kb Gb B_order_of n))
  | n + 1, .f_Result___init__, _ => calMB T.t_Result___init__ sc_Result___init__ (ok_Result___init__ T (all_ok T Kb Gb B_order_of n))
  | n + 1, .f_Result_got, _ => calMB T.t_Result_got sc_Result_got (ok_Result_got T (all_ok T Kb Gb B_order_of n))
  | n + 1, .f_Body___init__, _ => calMB T.t_Body___init__ sc_Body___init__ (ok_Body___init__ T (all_ok T Kb Gb B_order_of n))
  | n + 1, .f_Body_got, _ => calMB T.t_Body_got sc_Body_got (ok_Body_got T (all_ok T Kb Gb B_order_of n))
  | n + 1, .f_is_from, _ => calB T.t_is_from sc_is_from (ok_is_from T (all_ok T Kb Gb B_order_of n))
  | n + 1, .f_inner_of, _ => calB T.t_inner_of sc_inner_of (ok_inner_of T (all_ok T Kb Gb B_order_of n))
  | n + 1, .f_is_kind, _ => calC T.t_is_kind sc_is_kind (ok_is_kind T (all_ok T Kb Gb B_order_of n))
  | n + 1, .f_sure_kind, _ => calB T.t_sure_kind sc_sure_kind (ok_sure_kind T (all_ok T Kb Gb B_order_of n))
  | n + 1, .f_order_of, _ => calLB T.t_order_of sc_order_of Kb Gb B_order_of (ok_order_of T (all_ok T Kb Gb B_order_of n))
  | n + 1, .f_in_order, _ => calB T.t_in_order sc_in_order (ok_in_order T (all_ok T Kb Gb B_order_of n))
  | n + 1, .f_wants_with, _ => calB T.t_wants_with sc_wants_with (ok_wants_with T (all_ok T Kb Gb B_order_of n))
  | n + 1, .f_plain_form, _ => calB T.t_plain_form sc_plain_form (ok_plain_form T (all_ok T Kb Gb B_order_of n))
  | n + 1, .f_form, _ => calB T.t_form sc_form (ok_form T (all_ok T Kb Gb B_order_of n))
  | n + 1, .f_alike, _ => calB T.t_alike sc_alike (ok_alike T (all_ok T Kb Gb B_order_of n))
  | n + 1, .f_is_base, _ => calB T.t_is_base sc_is_base (ok_is_base T (all_ok T Kb Gb B_order_of n))
  | n + 1, .f_is_factor, _ => calB T.t_is_factor sc_is_factor (ok_is_factor T (all_ok T Kb Gb B_order_of n))
  | n + 1, .f_is_form, _ => calB T.t_is_form sc_is_form (ok_is_form T (all_ok T Kb Gb B_order_of n))
  | n + 1, .f_kind_by, _ => calB T.t_kind_by sc_kind_by (ok_kind_by T (all_ok T Kb Gb B_order_of n))
  | n + 1, .f_kind_of, _ => calB T.t_kind_of sc_kind_of (ok_kind_of T (all_ok T Kb Gb B_order_of n))
  | n + 1, .f_sure_given, _ => calB T.t_sure_given sc_sure_given (ok_sure_given T (all_ok T Kb Gb B_order_of n))
  | n + 1, .f_is_shape, _ => calB T.t_is_shape sc_is_shape (ok_is_shape T (all_ok T Kb Gb B_order_of n))
  | n + 1, .f_kind_of_given, _ => calB T.t_kind_of_given sc_kind_of_given (ok_kind_of_given T (all_ok T Kb Gb B_order_of n))
  | n + 1, .f_kind_of_two, _ => calB T.t_kind_of_two sc_kind_of_two (ok_kind_of_two T (all_ok T Kb Gb B_order_of n))
  | n + 1, .f_kind_in, _ => calB T.t_kind_in sc_kind_in (ok_kind_in T (all_ok T Kb Gb B_order_of n))
  | n + 1, .f_sure_kind_in, _ => calB T.t_sure_kind_in sc_sure_kind_in (ok_sure_kind_in T (all_ok T Kb Gb B_order_of n))
  | n + 1, .f_term_kind, _ => calB T.t_term_kind sc_term_kind (ok_term_kind T (all_ok T Kb Gb B_order_of n))
  | 1, .f_opened, _ => cal_no T.t_opened
  | n + 2, .f_opened, _ => calB T.t_opened sc_opened (ok_opened T (all_ok T Kb Gb B_order_of (n + 1)) (all_ok T Kb Gb B_order_of n))
  | 1, .f_meant, _ => cal_no T.t_meant
  | n + 2, .f_meant, _ => calB T.t_meant sc_meant (ok_meant T (all_ok T Kb Gb B_order_of (n + 1)) (all_ok T Kb Gb B_order_of n))
  | n + 1, .f_said, _ => calB T.t_said sc_said (ok_said T (all_ok T Kb Gb B_order_of n))
  | n + 1, .f_chain_said, _ => calB T.t_chain_said sc_chain_said (ok_chain_said T (all_ok T Kb Gb B_order_of n))
  | n + 1, .f_plain_in, _ => calB T.t_plain_in sc_plain_in (ok_plain_in T (all_ok T Kb Gb B_order_of n))
  | n + 1, .f_same, _ => calB T.t_same sc_same (ok_same T (all_ok T Kb Gb B_order_of n))
  | n + 1, .f_put_back, _ => calC T.t_put_back sc_put_back (ok_put_back T (all_ok T Kb Gb B_order_of n))
  | n + 1, .f_factors_from, _ => calC T.t_factors_from sc_factors_from (ok_factors_from T (all_ok T Kb Gb B_order_of n))
  | 1, .f_parts, _ => cal_no T.t_parts
  | n + 2, .f_parts, _ => calB T.t_parts sc_parts (ok_parts T (all_ok T Kb Gb B_order_of (n + 1)) (all_ok T Kb Gb B_order_of n))
  | 1, .f_built, _ => cal_no T.t_built
  | n + 2, .f_built, _ => calC T.t_built sc_built (ok_built T (all_ok T Kb Gb B_order_of (n + 1)) (all_ok T Kb Gb B_order_of n))
  | n + 1, .f_turner, _ => calB T.t_turner sc_turner (ok_turner T (all_ok T Kb Gb B_order_of n))
  | n + 1, .f_lifted, _ => calB T.t_lifted sc_lifted (ok_lifted T (all_ok T Kb Gb B_order_of n))
  | n + 1, .f_is_of, _ => calB T.t_is_of sc_is_of (ok_is_of T (all_ok T Kb Gb B_order_of n))
  | n + 1, .f_goes_round, _ => calB T.t_goes_round sc_goes_round (ok_goes_round T (all_ok T Kb Gb B_order_of n))
  | n + 1, .f_turn_fault, _ => calB T.t_turn_fault sc_turn_fault (ok_turn_fault T (all_ok T Kb Gb B_order_of n))
  | n + 1, .f_is_library, _ => calB T.t_is_library sc_is_library (ok_is_library T (all_ok T Kb Gb B_order_of n))
  | n + 1, .f_sure_library, _ => calB T.t_sure_library sc_sure_library (ok_sure_library T (all_ok T Kb Gb B_order_of n))
  | n + 1, .f_without, _ => calC T.t_without sc_without (ok_without T (all_ok T Kb Gb B_order_of n))
  | n + 1, .f_with_more, _ => calB T.t_with_more sc_with_more (ok_with_more T (all_ok T Kb Gb B_order_of n))
  | n + 1, .f_left_to_hand_in, _ => calC T.t_left_to_hand_in sc_left_to_hand_in (ok_left_to_hand_in T (all_ok T Kb Gb B_order_of n))
  | n + 1, .f_wished_from, _ => calB T.t_wished_from sc_wished_from (ok_wished_from T (all_ok T Kb Gb B_order_of n))
  | n + 1, .f_search, _ => calC T.t_search sc_search (ok_search T (all_ok T Kb Gb B_order_of n))
  | n + 1, .f_search_fault, _ => calB T.t_search_fault sc_search_fault (ok_search_fault T (all_ok T Kb Gb B_order_of n))
  | n + 1, .f__law_well, _ => calB T.t__law_well sc__law_well (ok__law_well T (all_ok T Kb Gb B_order_of n))
  | n + 1, .f__law_draw, _ => calB T.t__law_draw sc__law_draw (ok__law_draw T (all_ok T Kb Gb B_order_of n))
  | n + 1, .f__law_library, _ => calB T.t__law_library sc__law_library (ok__law_library T (all_ok T Kb Gb B_order_of n))
  | n + 1, .f__law_twice, _ => calC T.t__law_twice sc__law_twice (ok__law_twice T (all_ok T Kb Gb B_order_of n))
  | _, .f_law, h => absurd rfl h
end
end Kz
namespace Kz
open PySem PySem.Spec PyProof.Rows L2 Kw
theorem up {n d : Nat} (h : d + 1 ≤ n) : ∃ m, n = m + 1 ∧ d ≤ m := ⟨n - 1, by omega, by omega⟩
theorem is_from_int {n : Nat} {i lo hi : Int} {S : Store} (h : 1 ≤ n) : ev n .f_is_from [.int i, .int lo, .int hi] S = .ok (.bl (decide (lo ≤ i) && decide (i ≤ hi))) S := by
  obtain ⟨m, rfl, h'⟩ := up h
  rw [ev, b_is_from]
  simp
  by_cases h : lo ≤ i <;> simp [h]
mutual
/-- data whose sort is known, whose texts are good; no cells -/
def pl : D → Bool
  | .non | .bl _ | .int _ | .fls _ | .lst _ | .dic _ _ => true
  | .str s => PyData.strOk s
  | .tup ds => plL ds
  | _ => false
def plL : List D → Bool
  | [] => true
  | d :: ds => pl d && plL ds
end
abbrev lay (d : D) : Prop := pl d = true
abbrev layL (ds : List D) : Prop := plL ds = true
theorem layL_nil : layL [] := rfl
theorem layL_cons {d : D} {ds : List D} : layL (d :: ds) ↔ lay d ∧ layL ds := by simp [layL, lay, plL]
theorem layL_app {ds es : List D} : layL (ds ++ es) ↔ layL ds ∧ layL es := by
  induction ds with
  | nil => simp [layL, plL]
  | cons d ds ih => rw [List.cons_append, layL_cons, layL_cons, ih, and_assoc]
theorem lay_tup {ds : List D} (h : lay (.tup ds)) : layL ds := by simpa [lay, pl] using h
theorem isi_notup {d : D} {S : Store} (h : lay d) (hn : ∀ ds, d ≠ .tup ds) : isiR "tuple" d S = .ok (.bl false) S := by
  cases d with
  | tup ds => exact absurd rfl (hn ds)
  | fls b => rfl
  | loc _ => simp [lay, pl] at h
  | ins _ _ _ => simp [lay, pl] at h
  | glo _ => simp [lay, pl] at h
  | exn _ => simp [lay, pl] at h
  | exo _ _ _ => simp [lay, pl] at h
  | lam _ _ _ => simp [lay, pl] at h
  | _ => simp
theorem isi_nostr {d : D} {S : Store} (h : lay d) (hn : ∀ ds, d ≠ .str ds) : isiR "str" d S = .ok (.bl false) S := by
  cases d with
  | str ds => exact absurd rfl (hn ds)
  | fls b => rfl
  | loc _ => simp [lay, pl] at h
  | ins _ _ _ => simp [lay, pl] at h
  | glo _ => simp [lay, pl] at h
  | exn _ => simp [lay, pl] at h
  | exo _ _ _ => simp [lay, pl] at h
  | lam _ _ _ => simp [lay, pl] at h
  | _ => simp
theorem is_from_else {n : Nat} {d : D} {lo hi : Int} {S : Store} (h : 1 ≤ n) (l : lay d) (hn : ∀ i, d ≠ .int i) : ev n .f_is_from [d, .int lo, .int hi] S = .ok (.bl false) S := by
  obtain ⟨m, rfl, h'⟩ := up h
  rw [ev, b_is_from]
  cases d with
  | int i => exact absurd rfl (hn i)
  | fls b => simp; rfl
  | loc _ => simp [lay, pl] at l
  | ins _ _ _ => simp [lay, pl] at l
  | glo _ => simp [lay, pl] at l
  | exn _ => simp [lay, pl] at l
  | exo _ _ _ => simp [lay, pl] at l
  | lam _ _ _ => simp [lay, pl] at l
  | _ => simp
def innR (s : Str) (r : List D) : Option (List D) :=
  if s = "base" then (match r with
    | [.int i] => if 0 ≤ i ∧ i ≤ 7 then some [] else none
    | _ => none)
  else if s = "unit" then (match r with
    | [] => some []
    | _ => none)
  else if s = "both" ∨ s = "from" then (match r with
    | [a, b] => some [a, b]
    | _ => none)
  else none
def innD : D → Option (List D)
  | .tup (.str s :: r) => innR s r
  | _ => none
def oL (o : Option (List D)) : D := match o with
  | some ds => .lst ds
  | none => .non
theorem cutL1 {α : Type} (d : α) (r : List α) : cutL (d :: r) (some 1) none = r := by
  have e1 : HT.sIx (r.length + 1) 0 (some 1) = 1 := by
    show (if (1 : Int) < 0 then ((1 : Int) + ((r.length + 1 : Nat) : Int)).toNat else min (1 : Int).toNat (r.length + 1)) = 1
    rw [if_neg (by decide)]
    show min 1 (r.length + 1) = 1
    omega
  have e2 : HT.sIx (r.length + 1) (r.length + 1) none = r.length + 1 := rfl
  unfold cutL
  rw [List.length_cons, e1, e2]
  simp
theorem inner_str {n : Nat} {s : Str} {r : List D} {S : Store} (h : 2 ≤ n) (l : layL r) (hs : PyData.strOk s = true) : ev n .f_inner_of [.tup (.str s :: r)] S = .ok (oL (innR s r)) S := by
  obtain ⟨m, rfl, h'⟩ := up h
  rw [ev, b_inner_of]
  have h8 : sizeLine = 16777216 := rfl
  have ne : ¬ ((r.length : Int) + 1 = 0) := by omega
  by_cases h1 : s = "base"
  · subst h1
    match r, l with
    | [], l => simp [innR, oL]
    | [d], l =>
      by_cases hi : ∃ i, d = .int i
      · obtain ⟨i, rfl⟩ := hi
        simp [is_from_int h', h8, innR, oL]
        by_cases c1 : 0 ≤ i <;> by_cases c2 : i ≤ 7 <;> simp [c1, c2]
      · have hi' : ∀ i, d ≠ .int i := fun i z => hi ⟨i, z⟩
        have ld := (layL_cons.mp l).1
        have e : innR (Str.ofString "base") [d] = none := by
          unfold innR
          rw [if_pos rfl]
          split
          · rename_i i q; cases q; exact absurd rfl (hi' i)
          · rfl
        simp [is_from_else h' ld hi', h8, e, oL]
    | d :: e :: r, l =>
      have n2 : ¬ ((r.length : Int) + 1 + 1 + 1 = 2) := by omega
      have n0 : ¬ ((r.length : Int) + 1 + 1 + 1 = 0) := by omega
      simp [innR, oL, n2, n0]
  · by_cases h2 : s = "unit"
    · subst h2
      match r, l with
      | [], l => simp [innR, oL]
      | d :: r, l =>
        have n2 : ¬ ((r.length : Int) + 1 + 1 = 1) := by omega
        have n0 : ¬ ((r.length : Int) + 1 + 1 = 0) := by omega
        simp [innR, oL, n2, n0]
    · have s1 : (s == Str.ofString "base") = false := by simpa using h1
      have s2 : (s == Str.ofString "unit") = false := by simpa using h2
      by_cases h3 : s = "both" ∨ s = "from"
      · have lk : (List.lookup s kv_MARKS).isSome = true := by rcases h3 with rfl | rfl <;> simp [kv_MARKS, List.lookup]
        match r, l with
        | [a, b], l => simp [ne, s1, s2, hs, lk, innR, h1, h2, h3, oL, cutL1]
        | [], l => simp [ne, s1, s2, hs, lk, innR, h1, h2, h3, oL]
        | [a], l => simp [ne, s1, s2, hs, lk, innR, h1, h2, h3, oL]
        | a :: b :: c :: r, l =>
          have n2 : ¬ ((r.length : Int) + 1 + 1 + 1 + 1 = 3) := by omega
          have n0 : ¬ ((r.length : Int) + 1 + 1 + 1 + 1 = 0) := by omega
          simp [n0, n2, s1, s2, hs, lk, innR, h1, h2, h3, oL]
      · have h4 : ¬ s = "both" := fun z => h3 (.inl z)
        have h5 : ¬ s = "from" := fun z => h3 (.inr z)
        have b1 : (s == Str.ofString "both") = false := by simpa using h4
        have b2 : (s == Str.ofString "from") = false := by simpa using h5
        have lk : (List.lookup s kv_MARKS).isSome = false := by simp [kv_MARKS, List.lookup, b1, b2]
        simp [ne, s1, s2, hs, lk, innR, h1, h2, h3, oL]
theorem inner_gen {n : Nat} {d : D} {S : Store} (h : 2 ≤ n) (l : lay d) : ev n .f_inner_of [d] S = .ok (oL (innD d)) S := by
  by_cases ht : ∃ ds, d = .tup ds
  · obtain ⟨ds, rfl⟩ := ht
    have ll := lay_tup l
    match ds, ll with
    | [], ll =>
      obtain ⟨m, rfl, h'⟩ := up h
      rw [ev, b_inner_of]
      simp [innD, oL]
    | x :: r, ll =>
      obtain ⟨lx, lr⟩ := layL_cons.mp ll
      by_cases hx : ∃ s, x = .str s
      · obtain ⟨s, rfl⟩ := hx
        have hs : PyData.strOk s = true := by simpa [lay, pl] using lx
        exact inner_str h lr hs
      · have hx' : ∀ s, x ≠ .str s := fun s z => hx ⟨s, z⟩
        have e : innD (.tup (x :: r)) = none := by
          unfold innD
          split
          · rename_i s r' q
            injection q with q
            injection q with q1 q2
            exact absurd q1 (hx' s)
          · rfl
        obtain ⟨m, rfl, h'⟩ := up h
        rw [ev, b_inner_of]
        have n0 : ¬ ((r.length : Int) + 1 = 0) := by omega
        simp [n0, isi_nostr lx hx', e, oL]
  · have ht' : ∀ ds, d ≠ .tup ds := fun s z => ht ⟨s, z⟩
    have e : innD d = none := by
      unfold innD
      split
      · exact absurd rfl (ht' _)
      · rfl
    obtain ⟨m, rfl, h'⟩ := up h
    rw [ev, b_inner_of]
    simp [isi_notup l ht', e, oL]
mutual
/-- how many parts -/
def nd : D → Nat
  | .tup ds => ndL ds + 1
  | _ => 1
def ndL : List D → Nat
  | [] => 0
  | d :: ds => nd d + ndL ds
end
theorem nd_pos (d : D) : 0 < nd d := by cases d <;> simp [nd]
theorem ndL_app (ds es : List D) : ndL (ds ++ es) = ndL ds + ndL es := by
  induction ds with
  | nil => simp [ndL]
  | cons d ds ih => simp [ndL, ih]; omega
theorem ndL_len (ds : List D) : ds.length ≤ ndL ds := by
  induction ds with
  | nil => simp [ndL]
  | cons d ds ih => have := nd_pos d; simp [ndL]; omega
theorem inn_nd {d : D} {ds : List D} (h : innD d = some ds) : ndL ds < nd d := by
  unfold innD at h
  split at h
  · rename_i s r
    unfold innR at h
    split at h
    · split at h
      · split at h
        · cases h; simp [ndL, nd]
        · cases h
      · cases h
    · split at h
      · split at h
        · cases h; simp [ndL, nd]
        · cases h
      · split at h
        · split at h
          · cases h; simp [ndL, nd]; omega
          · cases h
        · cases h
  · cases h
theorem inn_lay {d : D} {ds : List D} (l : lay d) (h : innD d = some ds) : layL ds := by
  unfold innD at h
  split at h
  · rename_i s r
    have lr := (layL_cons.mp (lay_tup l)).2
    unfold innR at h
    split at h
    · split at h
      · split at h
        · cases h; exact layL_nil
        · cases h
      · cases h
    · split at h
      · split at h
        · cases h; exact layL_nil
        · cases h
      · split at h
        · split at h
          · cases h; exact lr
          · cases h
        · cases h
  · cases h
/-- whether it is a kind (f: enough steps) -/
def isKf : Nat → D → Bool
  | 0, _ => false
  | f + 1, d => match innD d with
    | some ds => ds.all (isKf f)
    | none => false
theorem isKf_mono : ∀ {f g : Nat} {d : D}, nd d ≤ f → f ≤ g → isKf g d = isKf f d
  | 0, _, d, h, _ => absurd (nd_pos d) (by omega)
  | f + 1, 0, _, _, h => absurd h (by omega)
  | f + 1, g + 1, d, h, l => by
    unfold isKf
    cases hd : innD d with
    | none => rfl
    | some ds =>
      have hn := inn_nd hd
      have key : ∀ es : List D, ndL es ≤ f → es.all (isKf g) = es.all (isKf f) := by
        intro es
        induction es with
        | nil => intro _; rfl
        | cons e es ih =>
          intro h1
          simp only [ndL] at h1
          simp only [List.all_cons]
          rw [isKf_mono (f := f) (g := g) (by omega) (by omega), ih (by omega)]
      exact key ds (by omega)
def isK (d : D) : Bool := isKf (nd d) d
theorem isK_eq (d : D) : isK d = match innD d with
    | some ds => ds.all isK
    | none => false := by
  have e : ∃ f, nd d = f + 1 := ⟨nd d - 1, by have := nd_pos d; omega⟩
  obtain ⟨f, hf⟩ := e
  unfold isK
  rw [hf]
  show (match innD d with
    | some ds => ds.all (isKf f)
    | none => false) = _
  cases hd : innD d with
  | none => rfl
  | some ds =>
    have hn := inn_nd hd
    have key : ∀ es : List D, ndL es ≤ f → es.all (isKf f) = es.all (fun d => isKf (nd d) d) := by
      intro es
      induction es with
      | nil => intro _; rfl
      | cons e es ih =>
        intro h1
        simp only [ndL] at h1
        simp only [List.all_cons]
        rw [isKf_mono (f := nd e) (g := f) (Nat.le_refl _) (by omega), ih (by omega)]
    exact key ds (by omega)
theorem isK_kd (k : Kd) : isK k.d = true := by
  induction k with
  | base i =>
    have : (i.val : Int) ≤ 7 := by have := i.isLt; omega
    rw [isK_eq]; simp [Kd.d, innD, innR, this]
  | unit => rw [isK_eq]; simp [Kd.d, innD, innR]
  | both a b ha hb => rw [isK_eq]; simp [Kd.d, innD, innR, ha, hb]
  | frm a b ha hb => rw [isK_eq]; simp [Kd.d, innD, innR, ha, hb]
theorem nd_kd (k : Kd) : nd k.d ≤ 4 * k.sz := by
  induction k with
  | base i => simp [Kd.d, nd, ndL, Kd.sz]
  | unit => simp [Kd.d, nd, ndL, Kd.sz]
  | both a b ha hb => simp [Kd.d, nd, ndL, Kd.sz]; omega
  | frm a b ha hb => simp [Kd.d, nd, ndL, Kd.sz]; omega
theorem lay_kd (k : Kd) : lay k.d := by
  induction k with
  | base i => simp [lay, Kd.d, pl, plL]
  | unit => simp [lay, Kd.d, pl, plL]
  | both a b ha hb =>
    have h1 : pl a.d = true := ha
    have h2 : pl b.d = true := hb
    simp [lay, Kd.d, pl, plL, h1, h2]
  | frm a b ha hb =>
    have h1 : pl a.d = true := ha
    have h2 : pl b.d = true := hb
    simp [lay, Kd.d, pl, plL, h1, h2]
theorem is_kind_loop {m : Nat} (h : 2 ≤ m) (S : Store) (x : Option D) : ∀ (N : Nat) (ds : List D) (y : Option D), ndL ds ≤ N → N ≤ 8000000 → layL ds → ∃ z T,
    sWhile (fB (f2 gNe (fVar 1) (fArg mkLst fNil))) (l_is_kind_0 (ev m)) [x, some (.loc S.length), y] (S ++ [.lst ds]) = if ds.all isK then .nx [x, some (.loc S.length), z] (S ++ [.lst []]) else .rt (.bl false) (S ++ [.lst T]) := by
  intro N
  induction N with
  | zero =>
    intro ds y hN hM hl
    cases ds with
    | nil =>
      refine ⟨y, [], ?_⟩
      have hne := gNe_nil (n := S.length) (S := S ++ [.lst []]) (ds := []) cellOf_app
      rw [sWhile_go]
      simp [hne]
    | cons d r =>
      have := nd_pos d
      simp [ndL] at hN; omega
  | succ N ih =>
    intro ds y hN hM hl
    rcases List.eq_nil_or_concat ds with rfl | ⟨r, d, rfl⟩
    · refine ⟨y, [], ?_⟩
      have hne := gNe_nil (n := S.length) (S := S ++ [.lst []]) (ds := []) cellOf_app
      rw [sWhile_go]
      simp [hne]
    · rw [List.concat_eq_append] at hN hl ⊢
      obtain ⟨lr, ld⟩ := layL_app.mp hl
      have ld := (layL_cons.mp ld).1
      rw [ndL_app] at hN
      have hN' : ndL r + nd d ≤ N + 1 := by simpa [ndL] using hN
      have hne := gNe_nil (n := S.length) (S := S ++ [.lst (r ++ [d])]) (ds := r ++ [d]) cellOf_app
      have hm := mthR_loc (n := S.length) (S := S ++ [.lst (r ++ [d])]) (ρ := [x, some (.loc S.length), y]) (xs := r ++ [d]) (g := gPop0) (a := fNil) cellOf_app
      have hp := gPop0_loc (n := S.length) (S := S ++ [.lst (r ++ [d])]) (xs := r) (d := d) cellM_app
      have hi := inner_gen (n := m) (S := S ++ [.lst r]) h ld
      cases hd : innD d with
      | none =>
        refine ⟨none, r, ?_⟩
        have hk : isK d = false := by rw [isK_eq, hd]
        rw [hd] at hi
        rw [sWhile_go]
        simp [hne, l_is_kind_0, hm, hp, hi, oL, hk]
      | some es =>
        have hn := inn_nd hd
        have hk : isK d = es.all isK := by rw [isK_eq, hd]
        rw [hd] at hi
        have hs : ndL (r ++ es) ≤ N := by rw [ndL_app]; omega
        obtain ⟨z, T, hz⟩ := ih (r ++ es) (some (.lst es)) hs (by omega) (layL_app.mpr ⟨lr, inn_lay ld hd⟩)
        refine ⟨z, T, ?_⟩
        have e2 : (r ++ [d]).all isK = (r ++ es).all isK := by simp [hk]
        rw [sWhile_go, e2, ← hz]
        have h8 : sizeLine = 16777216 := rfl
        have hl' : r.length + es.length ≤ sizeLine := by
          have := ndL_len (r ++ es)
          simp at this; omega
        have hm2 := mthR_loc (n := S.length) (S := S ++ [.lst r]) (ρ := [x, some (.loc S.length), some (.lst es)]) (xs := r) (g := gExtend) (a := fCons (fVar 2) fNil) cellOf_app
        have he := gExtend_loc (n := S.length) (S := S ++ [.lst r]) (xs := r) (ys := es) cellM_app hl'
        simp [hne, l_is_kind_0, hm, hm2, hp, he, hi, oL]
theorem is_kind_gen {n : Nat} {d : D} {S : Store} (h : 3 ≤ n) (hd : nd d ≤ 8000000) (l : lay d) : ev n .f_is_kind [d] S = .ok (.bl (isK d)) S := by
  obtain ⟨m, rfl, h'⟩ := up h
  obtain ⟨z, T, hz⟩ := is_kind_loop h' S (some d) 8000000 [d] none (by simpa [ndL] using hd) (Nat.le_refl _) (layL_cons.mpr ⟨l, layL_nil⟩)
  have e : ∃ T', fnB 1 3 (b_is_kind (ev m)) [d] S = .ok (.bl (isK d)) (S ++ [.lst T']) := by
    rw [b_is_kind]
    simp at hz ⊢
    cases hk : isK d with
    | true => rw [hk] at hz; exact ⟨[], by simp [hz]⟩
    | false => rw [hk] at hz; exact ⟨T, by simp [hz]⟩
  obtain ⟨T', e⟩ := e
  rw [ev, fnC_ap, e]
  exact cut_ok _ rfl
theorem is_kind_kd {n : Nat} {k : Kd} {S : Store} (h : 3 ≤ n) (hk : k.sz ≤ 2000000) : ev n .f_is_kind [k.d] S = .ok (.bl true) S := by
  rw [is_kind_gen h (by have := nd_kd k; omega) (lay_kd k), isK_kd]
theorem sure_kind_kd {n : Nat} {k : Kd} {S : Store} (h : 4 ≤ n) (hk : k.sz ≤ 2000000) : ev n .f_sure_kind [k.d] S = .ok .non S := by
  obtain ⟨m, rfl, h'⟩ := up h
  rw [ev, b_sure_kind]
  simp [is_kind_kd h' hk]
end Kz
namespace Kz
open PySem PySem.Spec PyProof.Rows L2 Kw
def wd (b : Bool) : Str := if b then "both" else "from"
/-- the stack that is read into: past S, at n -/
structure Stk (S0 S : Store) (n : Nat) (st : List D) : Prop where
  pre : ∃ T, S = S0 ++ T
  le : S0.length ≤ n
  at_ : S[n]? = some (.lst st)
theorem Stk.push {S0 S : Store} {n : Nat} {st : List D} {d : D} (h : Stk S0 S n st) : Stk S0 (S.set n (.lst (st ++ [d]))) n (st ++ [d]) := by
  obtain ⟨⟨T, rfl⟩, le, at_⟩ := h
  have hn : n < (S0 ++ T).length := by
    rcases Nat.lt_or_ge n (S0 ++ T).length with hh | hh
    · exact hh
    · rw [List.getElem?_eq_none hh] at at_; cases at_
  refine ⟨⟨T.set (n - S0.length) (.lst (st ++ [d])), ?_⟩, le, ?_⟩
  · rw [List.set_append, if_neg (by omega)]
  · rw [List.getElem?_set_self hn]
end Kz
namespace Kz
open PySem PySem.Spec PyProof.Rows L2 Kw
def Eqd (d : D) (q : Nat) : Prop := ∃ p : PyData, (∀ S, pyS S d = some p) ∧ p.canLay0 = true ∧ p.depth ≤ q ∧ PyData.eqv p p = true
def EqdL (ds : List D) (q : Nat) : Prop := ∃ ps : List PyData, (∀ S, pySL S ds = some ps) ∧ PyData.canLayAll0 ps = true ∧ PyData.depthAll ps ≤ q ∧ PyData.eqvAll ps ps = true
theorem EqdL.nil {q : Nat} : EqdL [] q := ⟨[], fun _ => rfl, rfl, Nat.zero_le _, Kd.eqvAll_n⟩
theorem EqdL.cons {d : D} {ds : List D} {q : Nat} (h : Eqd d q) (t : EqdL ds q) : EqdL (d :: ds) q := by
  obtain ⟨p, e, a, b, c⟩ := h
  obtain ⟨ps, e', a', b', c'⟩ := t
  refine ⟨p :: ps, fun S => ?_, by simp [PyData.canLayAll0, a, a'], by simp only [PyData.depthAll]; omega, by rw [Kd.eqvAll_c, c, c']; rfl⟩
  show (pyS S d).bind (fun a => (pySL S ds).map (a :: ·)) = _
  rw [e S, e' S]; rfl
theorem EqdL.all {ds : List D} {q : Nat} (h : ∀ d ∈ ds, Eqd d q) : EqdL ds q := by
  induction ds with
  | nil => exact .nil
  | cons d ds ih => exact .cons (h d List.mem_cons_self) (ih fun e he => h e (List.mem_cons_of_mem _ he))
theorem Eqd.tup {ds : List D} {q : Nat} (h : EqdL ds q) : Eqd (.tup ds) (q + 1) := by
  obtain ⟨ps, e, a, b, c⟩ := h
  refine ⟨.tuple ps, fun S => ?_, by simpa [PyData.canLay0] using a, by simp only [PyData.depth]; omega, by rw [Kd.eqv_t, c]⟩
  show (pySL S ds).map PyData.tuple = _
  rw [e S]; rfl
theorem Eqd.lst {ds : List D} {q : Nat} (h : EqdL ds q) : Eqd (.lst ds) (q + 1) := by
  obtain ⟨ps, e, a, b, c⟩ := h
  refine ⟨.list ps, fun S => ?_, by simpa [PyData.canLay0] using a, by simp only [PyData.depth]; omega, by simp only [PyData.eqv]; exact c⟩
  show (pySL S ds).map PyData.list = _
  rw [e S]; rfl
theorem Eqd.non {q : Nat} : Eqd .non q := ⟨.none, fun _ => rfl, by simp [PyData.canLay0], by simp [PyData.depth], by simp only [PyData.eqv]⟩
theorem Eqd.bl {b : Bool} {q : Nat} : Eqd (.bl b) q := ⟨.bool b, fun _ => rfl, by simp [PyData.canLay0], by simp [PyData.depth], by simp only [PyData.eqv]; cases b <;> rfl⟩
theorem Eqd.str {x : Str} {q : Nat} (h : PyData.strOk x = true) : Eqd (.str x) q := ⟨.str x, fun _ => rfl, by simpa [PyData.canLay0] using h, by simp [PyData.depth], by rw [Kd.eqv_s]; simp⟩
theorem Eqd.kd (k : Kd) : Eqd k.d (k.dep + 1) := ⟨k.p, fun S => Kd.pyS_d S k, by simp, by simp [Kd.depth_p], by rw [Kd.eqv_p]; simp⟩
theorem Eqd.int {i : Int} {q : Nat} : Eqd (.int i) q := ⟨.int i, fun _ => rfl, by simp [PyData.canLay0], by simp [PyData.depth], by rw [Kd.eqv_i]; simp⟩
theorem Eqd.mono {d : D} {q q' : Nat} (h : Eqd d q) (l : q ≤ q') : Eqd d q' := by
  obtain ⟨p, e, a, b, c⟩ := h; exact ⟨p, e, a, by omega, c⟩
theorem Eqd.ne {d : D} {q : Nat} {S : Store} (h : Eqd d q) (hq : q ≤ 200) : gNe d d S = .ok (.bl false) S := by
  have gen : eqE S d d = none → gNe d d S = .ok (.bl false) S := by
    intro h0
    obtain ⟨p, e, a, b, c⟩ := h
    unfold gNe
    rw [h0, e S]
    have ok : okPy p p = true := by simp [okPy, a]; omega
    show (if okPy p p then RE.ok (D.bl (!PyData.eqv p p)) S else .no) = _
    rw [if_pos ok, c]; rfl
  have som : ∀ b, eqE S d d = some b → b = true → gNe d d S = .ok (.bl false) S := by
    intro b h1 h2
    unfold gNe
    rw [h1, h2]; rfl
  cases h0 : eqE S d d with
  | none => exact gen h0
  | some b =>
    refine som b h0 ?_
    unfold eqE at h0
    split at h0
    · simp [seqL] at h0; exact h0
    · simp at h0; exact h0
    · simp at h0; exact h0
    · simp at h0; exact h0
    · cases h0
end Kz
namespace Kz
open PySem PySem.Spec PyProof.Rows L2 Kw
inductive Tm where
  | giv (k : Nat) | mk (A : Kd) (b : Tm) | app (a b : Tm) | both (a b : Tm) | fst (a : Tm) | snd (a : Tm) | unit
def Tm.d : Tm → D
  | .giv k => .tup [.str "given", .int (k : Int)]
  | .mk A b => .tup [.str "make", A.d, b.d]
  | .app a b => .tup [.str "do", a.d, b.d]
  | .both a b => .tup [.str "both", a.d, b.d]
  | .fst a => .tup [.str "first", a.d]
  | .snd a => .tup [.str "second", a.d]
  | .unit => .tup [.str "unit"]
mutual
/-- what a term means -/
inductive Vl where
  | chn (c : Ch) | unit | pair (a b : Vl) | loose (A B : Kd) (c : Ch) | bound (t : Tm) (env : Vs)
/-- a given, or what is done to one -/
inductive Ch where
  | giv (k : Nat) | app (c : Ch) (A : Kd) (v : Vl) | fst (c : Ch) | snd (c : Ch)
inductive Vs where
  | nil | snoc (r : Vs) (v : Vl)
end
mutual
def Vl.d : Vl → D
  | .chn c => c.d
  | .unit => .tup []
  | .pair a b => .tup [a.d, b.d]
  | .loose A B c => .ins "Loose" ["kind", "chain"] [(Kd.frm A B).d, c.d]
  | .bound t env => .ins "Bound" ["body", "things"] [t.d, .lst env.ds]
def Ch.d : Ch → D
  | .giv k => .tup [.str "given", .int (k : Int)]
  | .app c A v => .tup [.str "do", c.d, A.d, v.d]
  | .fst c => .tup [.str "first", c.d]
  | .snd c => .tup [.str "second", c.d]
def Vs.ds : Vs → List D
  | .nil => []
  | .snoc r v => r.ds ++ [v.d]
end
def Vs.len : Vs → Nat
  | .nil => 0
  | .snoc r _ => r.len + 1
/-- by place, the first one from outside -/
def Vs.at_ : Vs → Nat → Option Vl
  | .nil, _ => none
  | .snoc r v, k => if k = r.len then some v else r.at_ k
/-- the kind of a term -/
def tkd (Γ : List Kd) : Tm → Option Kd
  | .giv k => Γ[k]?
  | .unit => some .unit
  | .mk A b => (tkd (Γ ++ [A]) b).bind fun B => some (.frm A B)
  | .app a b => (tkd Γ a).bind fun u => (tkd Γ b).bind fun x => match u with
    | .frm A B => if A = x then some B else none
    | _ => none
  | .both a b => (tkd Γ a).bind fun u => (tkd Γ b).bind fun x => some (.both u x)
  | .fst a => (tkd Γ a).bind fun u => match u with
    | .both x _ => some x
    | _ => none
  | .snd a => (tkd Γ a).bind fun u => match u with
    | .both _ y => some y
    | _ => none
def Tm.ht : Tm → Nat
  | .giv _ => 0
  | .unit => 0
  | .mk _ b => b.ht + 1
  | .app a b => max a.ht b.ht + 1
  | .both a b => max a.ht b.ht + 1
  | .fst a => a.ht + 1
  | .snd a => a.ht + 1
end Kz
namespace Kz
open PySem PySem.Spec PyProof.Rows L2 Kw
theorem gFld_at {cs : List Str} {f c : Str} {fs : List Str} {ds : List D} {d : D} {S : Store} (hc : c ∈ cs) (h : lookF f fs ds = some d) : gFld cs f (.ins c fs ds) S = .ok d S := by
  unfold gFld obOf
  simp only
  rw [if_pos hc, h]
theorem cut_here {S : Store} {c : Str} {fs : List Str} {ds : List D} (h : underL S.length ds = true) : cutR S (.ok (.ins c fs ds) (S ++ [.dead])) = .ok (.ins c fs ds) S := cut_ok _ (by simpa [D.under] using h)
theorem und_tm (n : Nat) : ∀ t : Tm, t.d.under n = true
  | .giv k => by simp [Tm.d, D.under, underL]
  | .unit => by simp [Tm.d, D.under, underL]
  | .mk A b => by simp [Tm.d, D.under, underL, und_tm n b]
  | .app a b => by simp [Tm.d, D.under, underL, und_tm n a, und_tm n b]
  | .both a b => by simp [Tm.d, D.under, underL, und_tm n a, und_tm n b]
  | .fst a => by simp [Tm.d, D.under, underL, und_tm n a]
  | .snd a => by simp [Tm.d, D.under, underL, und_tm n a]
section
variable {n : Nat} {S : Store}
def meR (o : Option FF) (fa : FA) (x : D) (ρ : FEnv) (S : Store) : RE D := match o with
  | some F => (fa ρ S).bnd fun as S2 => F (x :: as) S2
  | none => .no
@[simp] theorem meR_some {F : FF} {fa : FA} {x : D} {ρ : FEnv} {S : Store} : meR (some F) fa x ρ S = (fa ρ S).bnd fun as S2 => F (x :: as) S2 := rfl
@[simp] theorem fMe_ap {L : List (Str × FF)} {m : Str} {fo : FE} {fa : FA} {ρ : FEnv} {S : Store} : fMe L m fo fa ρ S = (fo ρ S).bnd fun x S1 => meR (disR L m x) fa x ρ S1 := rfl
@[simp] theorem fMk_ap {c : Str} {F : FF} {fs : FA} {ρ : FEnv} {S : Store} : fMk c F fs ρ S = (fs ρ S).bnd (mkR c F) := rfl
end
end Kz
namespace Kz
open PySem PySem.Spec PyProof.Rows L2 Kw
/-- kinds within bounds -/
def kdsT (q : Nat) : Tm → Prop
  | .giv _ => True
  | .unit => True
  | .mk A b => (A.dep ≤ q ∧ A.sz ≤ 2000000) ∧ kdsT q b
  | .app a b => kdsT q a ∧ kdsT q b
  | .both a b => kdsT q a ∧ kdsT q b
  | .fst a => kdsT q a
  | .snd a => kdsT q a
end Kz
namespace Kz
open PySem PySem.Spec PyProof.Rows L2 Kw
inductive Fac where
  | mk (ws : List Fac) (b : _root_.Fin 8)
mutual
def dF : Fac → D
  | .mk ws b => .tup [.tup (dFL ws), .int (b.val : Int)]
def dFL : List Fac → List D
  | [] => []
  | f :: fs => dF f :: dFL fs
end
mutual
def pF : Fac → PyData
  | .mk ws b => .tuple [.tuple (pFL ws), .int (b.val : Int)]
def pFL : List Fac → List PyData
  | [] => []
  | f :: fs => pF f :: pFL fs
end
theorem dFL_map : ∀ L : List Fac, dFL L = L.map dF
  | [] => rfl
  | f :: L => by rw [dFL, dFL_map L]; rfl
theorem pFL_map : ∀ L : List Fac, pFL L = L.map pF
  | [] => rfl
  | f :: L => by rw [pFL, pFL_map L]; rfl
mutual
theorem pyS_F (S : Store) : ∀ f : Fac, pyS S (dF f) = some (pF f)
  | .mk ws b => by
    show (pySL S [.tup (dFL ws), .int (b.val : Int)]).map PyData.tuple = _
    show (((pySL S (dFL ws)).map PyData.tuple).bind fun a => ((pySL S [.int (b.val : Int)]).map (a :: ·))).map PyData.tuple = _
    rw [pySL_F S ws]; rfl
theorem pySL_F (S : Store) : ∀ L : List Fac, pySL S (dFL L) = some (pFL L)
  | [] => rfl
  | f :: L => by
    show (pyS S (dF f)).bind (fun a => (pySL S (dFL L)).map (a :: ·)) = _
    rw [pyS_F S f, pySL_F S L]; rfl
end
mutual
theorem layF : ∀ f : Fac, (pF f).canLay0 = true
  | .mk ws b => by simp [pF, PyData.canLay0, PyData.canLayAll0, layFL ws]
theorem layFL : ∀ L : List Fac, PyData.canLayAll0 (pFL L) = true
  | [] => rfl
  | f :: L => by simp [pFL, PyData.canLayAll0, layF f, layFL L]
end
mutual
theorem alikeF : ∀ f g : Fac, PySem.W.alike (pF f) (pF g) = true
  | .mk ws b, .mk us c => by
    simp [pF, PySem.W.alike, PySem.W.alikeAll, alikeFL ws us]
theorem alikeFL : ∀ L M : List Fac, PySem.W.alikeAll (pFL L) (pFL M) = true
  | [], _ => by simp [pFL, PySem.W.alikeAll]
  | f :: L, [] => by simp [pFL, PySem.W.alikeAll]
  | f :: L, g :: M => by simp [pFL, PySem.W.alikeAll, alikeF f g, alikeFL L M]
end
mutual
theorem eqvF : ∀ f g : Fac, PyData.eqv (pF f) (pF g) = true → f = g
  | .mk ws b, .mk us c, h => by
    simp only [pF, Kd.eqv_t, Kd.eqvAll_c, Kd.eqvAll_n, Kd.eqv_i, Bool.and_eq_true, Bool.and_true] at h
    have h1 := eqvFL ws us h.1
    have h2 : (b.val : Int) = (c.val : Int) := by simpa using h.2
    have h3 : b = c := Fin.ext (by omega)
    rw [h1, h3]
theorem eqvFL : ∀ L M : List Fac, PyData.eqvAll (pFL L) (pFL M) = true → L = M
  | [], [], _ => rfl
  | [], g :: M, h => by simp [pFL, Kd.eqvAll_r] at h
  | f :: L, [], h => by simp [pFL, Kd.eqvAll_l] at h
  | f :: L, g :: M, h => by
    simp only [pFL, Kd.eqvAll_c, Bool.and_eq_true] at h
    rw [eqvF f g h.1, eqvFL L M h.2]
end
mutual
theorem eqF : ∀ f : Fac, PyData.eqv (pF f) (pF f) = true
  | .mk ws b => by
    simp only [pF, Kd.eqv_t, Kd.eqvAll_c, Kd.eqvAll_n, Kd.eqv_i, eqFL ws]
    simp
theorem eqFL : ∀ L : List Fac, PyData.eqvAll (pFL L) (pFL L) = true
  | [] => Kd.eqvAll_n
  | f :: L => by simp only [pFL, Kd.eqvAll_c, eqF f, eqFL L, Bool.and_self]
end
theorem depthAll_le {ps : List PyData} {q : Nat} : PyData.depthAll ps ≤ q ↔ ∀ p ∈ ps, p.depth ≤ q := by
  induction ps with
  | nil => simp [PyData.depthAll]
  | cons p ps ih => simp only [PyData.depthAll, List.mem_cons, forall_eq_or_imp]; rw [← ih]; omega
theorem depthF (ws : List Fac) (b : _root_.Fin 8) : (pF (.mk ws b)).depth = 2 + PyData.depthAll (pFL ws) := by
  simp only [pF, PyData.depth, PyData.depthAll]; omega
noncomputable def sortF (L : List Fac) : List Fac := L.mergeSort (PySem.W.dataLe false pF)
theorem sortF_perm (L : List Fac) : (sortF L).Perm L := List.mergeSort_perm _ _
/-- the most depth in a row of factors -/
def dpL (L : List Fac) : Nat := PyData.depthAll (pFL L)
theorem dpL_le {L : List Fac} {q : Nat} : dpL L ≤ q ↔ ∀ f ∈ L, (pF f).depth ≤ q := by
  unfold dpL
  rw [pFL_map, depthAll_le]
  simp
theorem dpL_perm {L M : List Fac} (h : L.Perm M) : dpL L = dpL M := by
  apply Nat.le_antisymm
  · exact dpL_le.mpr fun f hf => dpL_le.mp (Nat.le_refl _) f (h.mem_iff.mp hf)
  · exact dpL_le.mpr fun f hf => dpL_le.mp (Nat.le_refl _) f (h.mem_iff.mpr hf)
/-- two forms, beside each other -/
theorem gEq_F (L M : List Fac) (S : Store) (h : min (dpL L) (dpL M) < 200) : ∃ c, gEq (.lst (dFL L)) (.lst (dFL M)) S = .ok (.bl c) S ∧ (c = true ↔ L = M) := by
  have r1 : pyS S (.lst (dFL L)) = some (.list (pFL L)) := by
    show (pySL S (dFL L)).map PyData.list = _
    rw [pySL_F]; rfl
  have r2 : pyS S (.lst (dFL M)) = some (.list (pFL M)) := by
    show (pySL S (dFL M)).map PyData.list = _
    rw [pySL_F]; rfl
  cases M with
  | nil =>
    refine ⟨(dFL L).isEmpty, by rw [dFL]; rfl, ?_⟩
    cases L with
    | nil => simp [dFL]
    | cons f L => simp [dFL]
  | cons g M =>
    have ok : okPy (.list (pFL L)) (.list (pFL (g :: M))) = true := by
      have e1 : (PyData.list (pFL L)).depth = dpL L + 1 := by simp only [PyData.depth, dpL]
      have e2 : (PyData.list (pFL (g :: M))).depth = dpL (g :: M) + 1 := by simp only [PyData.depth, dpL]
      simp only [okPy, PyData.canLay0, layFL, e1, e2, Bool.and_self, Bool.true_and, decide_eq_true_eq]
      omega
    refine ⟨PyData.eqv (.list (pFL L)) (.list (pFL (g :: M))), ?_, ?_⟩
    · unfold gEq
      have e0 : eqE S (.lst (dFL L)) (.lst (dFL (g :: M))) = none := rfl
      rw [e0, r1, r2]
      show (if okPy _ _ then RE.ok (D.bl (PyData.eqv _ _)) S else .no) = _
      rw [if_pos ok]
    · have e3 : PyData.eqv (.list (pFL L)) (.list (pFL (g :: M))) = PyData.eqvAll (pFL L) (pFL (g :: M)) := by simp only [PyData.eqv]
      rw [e3]
      exact ⟨eqvFL _ _, fun e => by rw [e]; exact eqFL _⟩
end Kz
namespace Kz
open PySem PySem.Spec PyProof.Rows L2 Kw
theorem dFL_len (L : List Fac) : (dFL L).length = L.length := by rw [dFL_map]; simp
theorem dFL_app (L M : List Fac) : dFL (L ++ M) = dFL L ++ dFL M := by rw [dFL_map, dFL_map, dFL_map]; simp
theorem dpL_app (L M : List Fac) : dpL (L ++ M) = max (dpL L) (dpL M) := by
  apply Nat.le_antisymm
  · refine dpL_le.mpr fun f hf => ?_
    rcases List.mem_append.mp hf with h | h
    · have := dpL_le.mp (Nat.le_refl (dpL L)) f h; omega
    · have := dpL_le.mp (Nat.le_refl (dpL M)) f h; omega
  · have h1 : dpL L ≤ dpL (L ++ M) := dpL_le.mpr fun f hf => dpL_le.mp (Nat.le_refl _) f (List.mem_append_left _ hf)
    have h2 : dpL M ≤ dpL (L ++ M) := dpL_le.mpr fun f hf => dpL_le.mp (Nat.le_refl _) f (List.mem_append_right _ hf)
    omega
def Fac.ws : Fac → List Fac
  | .mk ws _ => ws
def Fac.b : Fac → _root_.Fin 8
  | .mk _ b => b
theorem depth_ws (f : Fac) : (pF f).depth = 2 + dpL f.ws := by
  cases f with | mk ws b => exact depthF ws b
theorem F_toks {f g : Fac} (h : PySem.W.keyToks (pF f) = PySem.W.keyToks (pF g)) : f = g := by
  apply eqvF
  cases e : PyData.eqv (pF f) (pF g) with
  | true => rfl
  | false =>
    have h1 := (PySem.W.toks_eqv (pF f) (pF g) (alikeF f g)).2 e [] [.inl 0]
    have h2 := (PySem.W.toks_eqv (pF f) (pF g) (alikeF f g)).2 e [.inl 0] []
    rw [h] at h1 h2
    rw [PySem.W.lex_pre] at h1 h2
    rw [← h2] at h1
    exact absurd h1 (by decide)
theorem leF_anti {f g : Fac} (h1 : PySem.W.dataLe false pF f g = true) (h2 : PySem.W.dataLe false pF g f = true) : f = g := by
  rw [PySem.W.dataLe_eq] at h1 h2
  simp only [cond_false, Bool.not_eq_true'] at h1 h2
  exact F_toks (PyProof.Rows.lex_total (O := itemOrd) _ _ h2 h1)
theorem leF_total : PySem.W.TotalLe (PySem.W.dataLe false pF) := PySem.W.sortLe_total (listOrd itemOrd) false fun f => PySem.W.keyToks (pF f)
noncomputable instance : DecidableEq Fac := fun _ _ => Classical.propDecidable _
theorem sortF_pw (L : List Fac) : (sortF L).Pairwise fun a b => PySem.W.dataLe false pF a b = true := PySem.W.sort_pairwise leF_total L
/-- one row in order for each multiset -/
theorem sorted_one : ∀ {L M : List Fac}, L.Perm M → L.Pairwise (fun a b => PySem.W.dataLe false pF a b = true) → M.Pairwise (fun a b => PySem.W.dataLe false pF a b = true) → L = M
  | [], M, p, _, _ => (List.Perm.eq_nil p.symm).symm
  | f :: L, [], p, _, _ => absurd p.length_eq (by simp)
  | f :: L, g :: M, p, hL, hM => by
    have e : f = g := by
      rcases List.mem_cons.mp (p.mem_iff.mp (List.mem_cons_self (a := f) (l := L))) with h | h
      · exact h
      · rcases List.mem_cons.mp (p.mem_iff.mpr (List.mem_cons_self (a := g) (l := M))) with k | k
        · exact k.symm
        · exact leF_anti ((List.pairwise_cons.mp hL).1 g k) ((List.pairwise_cons.mp hM).1 f h)
    subst e
    rw [sorted_one p.cons_inv (List.pairwise_cons.mp hL).2 (List.pairwise_cons.mp hM).2]
theorem sortF_eq {L M : List Fac} (h : L.Perm M) : sortF L = sortF M := sorted_one (((sortF_perm L).trans h).trans (sortF_perm M).symm) (sortF_pw L) (sortF_pw M)
theorem sortF_of {L : List Fac} (h : L.Pairwise fun a b => PySem.W.dataLe false pF a b = true) : sortF L = L := sorted_one (sortF_perm L) (sortF_pw L) h
theorem sortF_sortF (L : List Fac) : sortF (sortF L) = sortF L := sortF_of (sortF_pw L)
theorem sortF_nil : sortF [] = [] := List.Perm.eq_nil (sortF_perm [])
theorem sortF_one (f : Fac) : sortF [f] = [f] := List.perm_singleton.mp (sortF_perm [f])
/-- a factor that wants more -/
noncomputable def addW (A : List Fac) (f : Fac) : Fac := .mk (sortF (f.ws ++ A)) f.b
/-- the form of a kind -/
noncomputable def nf : Kd → List Fac
  | .base i => [.mk [] i]
  | .unit => []
  | .both a b => sortF (nf a ++ nf b)
  | .frm a b => sortF ((nf b).map (addW (nf a)))
/-- how high functions are handed to functions -/
def rk : Kd → Nat
  | .base _ => 0
  | .unit => 0
  | .both a b => max (rk a) (rk b)
  | .frm a b => max (rk a + 1) (rk b)
theorem rk_dep : ∀ k : Kd, rk k ≤ k.dep
  | .base _ => Nat.zero_le _
  | .unit => Nat.zero_le _
  | .both a b => by have := rk_dep a; have := rk_dep b; simp only [rk, Kd.dep]; omega
  | .frm a b => by have := rk_dep a; have := rk_dep b; simp only [rk, Kd.dep]; omega
/-- how deep, how long -/
theorem nf_ok : ∀ k : Kd, dpL (nf k) ≤ 2 + 2 * rk k ∧ (nf k).length ≤ k.sz ∧ ∀ f ∈ nf k, f.ws.length ≤ k.sz
  | .base i => by
    refine ⟨dpL_le.mpr fun f hf => ?_, Nat.le_refl 1, fun f hf => ?_⟩
    · have : f = .mk [] i := by simpa [nf] using hf
      subst this
      rw [depth_ws]
      show 2 + dpL [] ≤ _
      simp [dpL, pFL, PyData.depthAll]
    · have : f = .mk [] i := by simpa [nf] using hf
      subst this
      simp [Fac.ws]
  | .unit => ⟨by simp [nf, dpL, pFL, PyData.depthAll], by simp [nf], fun f hf => by simp [nf] at hf⟩
  | .both a b => by
    obtain ⟨a1, a2, a3⟩ := nf_ok a
    obtain ⟨b1, b2, b3⟩ := nf_ok b
    have p := sortF_perm (nf a ++ nf b)
    refine ⟨?_, ?_, fun f hf => ?_⟩
    · show dpL (sortF (nf a ++ nf b)) ≤ _
      rw [dpL_perm p, dpL_app]; simp only [rk]; omega
    · show (sortF (nf a ++ nf b)).length ≤ _
      rw [p.length_eq, List.length_append]; simp only [Kd.sz]; omega
    · rcases List.mem_append.mp (p.mem_iff.mp hf) with h | h
      · have := a3 f h; simp only [Kd.sz]; omega
      · have := b3 f h; simp only [Kd.sz]; omega
  | .frm a b => by
    obtain ⟨a1, a2, a3⟩ := nf_ok a
    obtain ⟨b1, b2, b3⟩ := nf_ok b
    have p := sortF_perm ((nf b).map (addW (nf a)))
    refine ⟨?_, ?_, fun f hf => ?_⟩
    · show dpL (sortF _) ≤ _
      rw [dpL_perm p]
      refine dpL_le.mpr fun g hg => ?_
      obtain ⟨f, hf, rfl⟩ := List.mem_map.mp hg
      have h1 := dpL_le.mp (Nat.le_refl (dpL (nf b))) f hf
      rw [depth_ws] at h1 ⊢
      show 2 + dpL (sortF (f.ws ++ nf a)) ≤ _
      rw [dpL_perm (sortF_perm _), dpL_app]
      simp only [rk]; omega
    · show (sortF _).length ≤ _
      rw [p.length_eq, List.length_map]; simp only [Kd.sz]; omega
    · obtain ⟨g, hg, rfl⟩ := List.mem_map.mp (p.mem_iff.mp hf)
      have := b3 g hg
      show (sortF (g.ws ++ nf a)).length ≤ _
      rw [(sortF_perm _).length_eq, List.length_append]; simp only [Kd.sz]; omega
mutual
/-- a factor whose wants stand in their order, at any depth -/
def ordF : Fac → Prop
  | .mk ws _ => sortF ws = ws ∧ ordL ws
def ordL : List Fac → Prop
  | [] => True
  | f :: L => ordF f ∧ ordL L
end
theorem ordL_mem {L : List Fac} : ordL L ↔ ∀ f ∈ L, ordF f := by
  induction L with
  | nil => simp [ordL]
  | cons f L ih => simp [ordL, ih]
theorem ordF_ws (f : Fac) : ordF f ↔ sortF f.ws = f.ws ∧ ordL f.ws := by cases f; simp [ordF, Fac.ws]
theorem ordL_perm {L M : List Fac} (p : L.Perm M) : ordL L ↔ ordL M := by
  rw [ordL_mem, ordL_mem]
  exact ⟨fun h f hf => h f (p.mem_iff.mpr hf), fun h f hf => h f (p.mem_iff.mp hf)⟩
theorem ordL_app {L M : List Fac} : ordL (L ++ M) ↔ ordL L ∧ ordL M := by
  induction L with
  | nil => simp [ordL]
  | cons f L ih => simp [ordL, ih, and_assoc]
theorem ord_addW {A : List Fac} {f : Fac} (hA : ordL A) (hf : ordF f) : ordF (addW A f) := by
  rw [ordF_ws] at hf ⊢
  refine ⟨sortF_sortF _, ?_⟩
  show ordL (sortF (f.ws ++ A))
  rw [ordL_perm (sortF_perm _), ordL_app]
  exact ⟨hf.2, hA⟩
theorem nf_sort : ∀ k : Kd, sortF (nf k) = nf k
  | .base i => sortF_one _
  | .unit => sortF_nil
  | .both a b => sortF_sortF _
  | .frm a b => sortF_sortF _
theorem nf_ord : ∀ k : Kd, ordL (nf k)
  | .base i => by
    show ordL [.mk [] i]
    simp [ordL, ordF, sortF_nil]
  | .unit => trivial
  | .both a b => by
    show ordL (sortF _)
    rw [ordL_perm (sortF_perm _), ordL_app]
    exact ⟨nf_ord a, nf_ord b⟩
  | .frm a b => by
    show ordL (sortF _)
    rw [ordL_perm (sortF_perm _), ordL_mem]
    intro f hf
    obtain ⟨g, hg, rfl⟩ := List.mem_map.mp hf
    exact ord_addW (nf_ord a) (ordL_mem.mp (nf_ord b) g hg)
theorem addW_nil {f : Fac} (h : ordF f) : addW [] f = f := by
  cases f with
  | mk ws b =>
    show Fac.mk (sortF (ws ++ [])) b = _
    rw [List.append_nil, h.1]
end Kz
namespace Kz
open PySem PySem.Spec PyProof.Rows L2 Kw
/-- the table of order_of's lambdas stands where it does -/
abbrev Tab1 (S : Store) : Prop := S[1]? = some (.tab "order_of")
/-- a comprehension over things that stand for others -/
theorem compL_of {α : Type} {tg : FG} {tt : FT} {te : FE} {ρ : FEnv} {S : Store} (i o : α → D) : ∀ (L : List α) (acc : List D), (∀ x ∈ L, ∃ ρ1, tg (i x) ρ S = some (ρ1, S) ∧ tt ρ1 S = .ok true S ∧ te ρ1 S = .ok (o x) S) → acc.length + L.length ≤ sizeLine →
    compL tg tt te none ρ (L.map i) acc S = .ok (acc ++ L.map o) S
  | [], acc, _, _ => by rw [List.map_nil, compL_nil (by unfold gd; trivial)]; simp
  | x :: L, acc, h, hl => by
    obtain ⟨ρ1, h1, h2, h3⟩ := h x List.mem_cons_self
    rw [List.map_cons, compL_step (by unfold gd; trivial) h1 h2 h3 (by simp at hl; omega), compL_of i o L (acc ++ [o x]) (fun e he => h e (List.mem_cons_of_mem _ he)) (by simp at hl ⊢; omega)]
    simp
theorem pFL_len (L : List Fac) : (pFL L).length = L.length := by rw [pFL_map]; simp
/-- the places of things in their order -/
noncomputable def places (ps : List PyData) : List D := sortB ((List.range ps.length).map fun (i : Nat) => D.int (i : Int)) ps
theorem order_F {n : Nat} {S : Store} {x : D} {L : List Fac} (h : 1 ≤ n) (t1 : Tab1 S) (hx : seqA S x = some (dFL L)) (hg : gLen [x] S = .ok (.int ((L.length : Nat) : Int)) S) (hd : dpL L ≤ 190) (hl : L.length ≤ 1000000) :
    ev n .f_order_of [x] S = .ok (.lst (places (pFL L))) S := by
  obtain ⟨m, rfl, h'⟩ := up (d := 0) (by omega : 0 + 1 ≤ n)
  have al : PySem.W.AllAlike (pFL L) := by
    rw [pFL_map]
    exact PySem.W.AllAlike.of alikeF
  have so : PySem.W.Sortable (pFL L) := by
    rw [pFL_map]
    exact PySem.W.Sortable.tuples fun f => by cases f with | mk ws b => exact ⟨_, _, rfl⟩
  have e : fOrder 1 "order_of" (fArg gLen (fCons (fVar 0) fNil)) 0 [some x] S = .ok (.lst (places (pFL L))) S := by
    unfold fOrder
    have e1 : fArg gLen (fCons (fVar 0) fNil) [some x] S = .ok (.int ((L.length : Nat) : Int)) S := by simp [hg]
    rw [e1]
    simp only [RE.bnd, List.getElem?_cons_zero]
    unfold gOrder
    simp only [hx, pySL_F]
    rw [if_pos ⟨by rw [dFL_len], by omega, t1, al, so, hd, trivial⟩]
    rfl
  rw [ev, b_order_of]
  simp [e]
/-- the places lead to the things in their order -/
theorem places_F (L : List Fac) : ∃ Z : List (Nat × Fac), places (pFL L) = Z.map (fun z => D.int (z.1 : Int)) ∧ Z.map Prod.snd = sortF L ∧ ∀ z ∈ Z, L[z.1]? = some z.2 := by
  have hz : (List.range L.length).length = L.length := by simp
  refine ⟨((List.range L.length).zip L).mergeSort (PySem.W.dataLe false fun z => pF z.2), ?_, ?_, fun z hm => ?_⟩
  · unfold places
    rw [pFL_len]
    have e1 : (List.range L.length).map (fun (i : Nat) => D.int (i : Int)) = ((List.range L.length).zip L).map fun z => D.int (z.1 : Int) := by
      have : (fun z : Nat × Fac => D.int (z.1 : Int)) = (fun (i : Nat) => D.int (i : Int)) ∘ Prod.fst := rfl
      rw [this, ← List.map_map, List.map_fst_zip (by simp)]
    have e2 : pFL L = ((List.range L.length).zip L).map fun z => pF z.2 := by
      have : (fun z : Nat × Fac => pF z.2) = pF ∘ Prod.snd := rfl
      rw [this, ← List.map_map, List.map_snd_zip (by simp), pFL_map]
    rw [e1, e2, sortB_map]
  · have := List.map_mergeSort (f := Prod.snd) (r := PySem.W.dataLe false fun z : Nat × Fac => pF z.2) (s := PySem.W.dataLe false pF) (l := (List.range L.length).zip L) (fun a _ b _ => rfl)
    rw [this, List.map_snd_zip (by simp)]
    rfl
  · have hm' := (List.mergeSort_perm _ _).mem_iff.mp hm
    obtain ⟨k, hk⟩ := List.mem_iff_getElem?.mp hm'
    rw [List.getElem?_zip_eq_some] at hk
    obtain ⟨h1, h2⟩ := hk
    have h3 := List.getElem?_eq_some_iff.mp h1
    obtain ⟨h4, h5⟩ := h3
    simp at h5
    rw [← h5]; exact h2
theorem in_order_F {n : Nat} {S : Store} {x : D} {L : List Fac} (h : 2 ≤ n) (t1 : Tab1 S) (hx : seqA S x = some (dFL L)) (hg : gLen [x] S = .ok (.int ((L.length : Nat) : Int)) S) (hi : ∀ (i : Nat) f, L[i]? = some f → gIx x (.int (i : Int)) S = .ok (dF f) S) (hd : dpL L ≤ 190) (hl : L.length ≤ 1000000) :
    ev n .f_in_order [x] S = .ok (.lst (dFL (sortF L))) S := by
  have h8 : sizeLine = 16777216 := rfl
  obtain ⟨m, rfl, h'⟩ := up h
  have eo := order_F (n := m) h' t1 hx hg hd hl
  obtain ⟨Z, z1, z2, z3⟩ := places_F L
  have zl : Z.length = L.length := by
    have := congrArg List.length z2
    rw [List.length_map, (sortF_perm L).length_eq] at this
    exact this
  have hc := compL_of (tg := gN 1) (tt := fYes) (te := f2 gIx (fVar 0) (fVar 1)) (ρ := [some x, none]) (S := S) (fun z : Nat × Fac => D.int (z.1 : Int)) (fun z => dF z.2) Z [] (fun z hz => ⟨[some x, some (.int (z.1 : Int))], by simp, rfl, by simp [hi z.1 z.2 (z3 z hz)]⟩) (by rw [h8, zl]; simp; omega)
  have e2 : Z.map (fun z => dF z.2) = dFL (sortF L) := by
    rw [← z2, dFL_map, List.map_map]; rfl
  rw [e2, ← z1] at hc
  rw [ev, b_in_order]
  simp [eo, wipeR, hc]
theorem gIx_lstF {L : List Fac} {S : Store} : ∀ (i : Nat) f, L[i]? = some f → gIx (.lst (dFL L)) (.int (i : Int)) S = .ok (dF f) S := fun i f h => by
  show ixR (dFL L) (i : Int) S = _
  rw [ixR_nat, dFL_map, List.getElem?_map, h]; rfl
theorem gIx_tupF {L : List Fac} {S : Store} : ∀ (i : Nat) f, L[i]? = some f → gIx (.tup (dFL L)) (.int (i : Int)) S = .ok (dF f) S := fun i f h => by
  show ixR (dFL L) (i : Int) S = _
  rw [ixR_nat, dFL_map, List.getElem?_map, h]; rfl
theorem in_order_lst {n : Nat} {S : Store} {L : List Fac} (h : 2 ≤ n) (t1 : Tab1 S) (hd : dpL L ≤ 190) (hl : L.length ≤ 1000000) : ev n .f_in_order [.lst (dFL L)] S = .ok (.lst (dFL (sortF L))) S :=
  in_order_F h t1 rfl (by simp [dFL_len]) gIx_lstF hd hl
theorem in_order_tup {n : Nat} {S : Store} {L : List Fac} (h : 2 ≤ n) (t1 : Tab1 S) (hd : dpL L ≤ 190) (hl : L.length ≤ 1000000) : ev n .f_in_order [.tup (dFL L)] S = .ok (.lst (dFL (sortF L))) S :=
  in_order_F h t1 rfl (by simp [dFL_len]) gIx_tupF hd hl
theorem wants_F {n : Nat} {S : Store} {f : Fac} {A : List Fac} (h : 1 ≤ n) (hl : f.ws.length + A.length ≤ 1000000) : ev n .f_wants_with [dF f, .lst (dFL A)] S = .ok (.lst (dFL (f.ws ++ A))) S := by
  have h8 : sizeLine = 16777216 := rfl
  obtain ⟨m, rfl, h'⟩ := up (d := 0) (by omega : 0 + 1 ≤ n)
  cases f with
  | mk ws b =>
    have l1 : (dFL ws).length + (dFL A).length ≤ 16777216 := by rw [dFL_len, dFL_len]; simp only [Fac.ws] at hl; omega
    rw [ev, b_wants_with]
    simp [dF, h8, l1, dFL_app, Fac.ws]
theorem plain_form_ok (k : Kd) : ∀ {n : Nat} {S : Store}, Tab1 S → k.dep + 3 ≤ n → k.sz ≤ 10000 → rk k ≤ 90 → ev n .f_plain_form [k.d] S = .ok (.lst (dFL (nf k))) S := by
  have h8 : sizeLine = 16777216 := rfl
  induction k with
  | base i =>
    intro n S t1 h _ _
    obtain ⟨m, rfl, h'⟩ := up (d := 2) (by omega : 2 + 1 ≤ n)
    rw [ev, b_plain_form]
    simp [Kd.d, h8, nf, dFL, dF]
  | unit =>
    intro n S t1 h _ _
    obtain ⟨m, rfl, h'⟩ := up (d := 2) (by omega : 2 + 1 ≤ n)
    rw [ev, b_plain_form]
    simp [Kd.d, h8, nf, dFL]
  | both a b ha hb =>
    intro n S t1 h hs hd
    simp only [Kd.dep] at h
    simp only [rk] at hd
    simp only [Kd.sz] at hs
    obtain ⟨m, rfl, h'⟩ := up (d := max a.dep b.dep + 3) (by omega)
    have ea := ha (n := m) (S := S) t1 (by omega) (by omega) (by omega)
    have eb := hb (n := m) (S := S) t1 (by omega) (by omega) (by omega)
    obtain ⟨a1, a2, a3⟩ := nf_ok a
    obtain ⟨b1, b2, b3⟩ := nf_ok b
    have es := in_order_lst (n := m) (L := nf a ++ nf b) (S := S) (by omega) t1 (by rw [dpL_app]; omega) (by simp; omega)
    rw [dFL_app] at es
    have l1 : (dFL (nf a)).length + (dFL (nf b)).length ≤ 16777216 := by rw [dFL_len, dFL_len]; omega
    rw [ev, b_plain_form]
    simp [Kd.d, ea, eb, h8, l1, es, nf]
  | frm a b ha hb =>
    intro n S t1 h hs hd
    simp only [Kd.dep] at h
    simp only [rk] at hd
    simp only [Kd.sz] at hs
    obtain ⟨m, rfl, h'⟩ := up (d := max a.dep b.dep + 3) (by omega)
    have ea := ha (n := m) (S := S) t1 (by omega) (by omega) (by omega)
    have eb := hb (n := m) (S := S) t1 (by omega) (by omega) (by omega)
    obtain ⟨a1, a2, a3⟩ := nf_ok a
    obtain ⟨b1, b2, b3⟩ := nf_ok b
    have dk := (nf_ok (.frm a b)).1
    have p := sortF_perm ((nf b).map (addW (nf a)))
    have es := in_order_lst (n := m) (L := (nf b).map (addW (nf a))) (S := S) (by omega) t1 (by
      rw [← dpL_perm p]
      have : dpL (sortF ((nf b).map (addW (nf a)))) ≤ 2 + 2 * rk (Kd.frm a b) := dk
      simp only [rk] at this
      omega) (by simp; omega)
    have hc := compL_of (tg := gN 3) (tt := fYes) (te := fArg mkTup (fCons (fArg gTuple (fCons (fArg (ev m .f_in_order) (fCons (fArg (ev m .f_wants_with) (fCons (fVar 3) (fCons (fVar 1) fNil))) fNil)) fNil)) (fCons (f2 gIx (fVar 3) (fC (.int 1))) fNil))) (ρ := [some (Kd.frm a b).d, some (.lst (dFL (nf a))), some (.lst (dFL (nf b))), none]) (S := S) dF (fun f => dF (addW (nf a) f)) (nf b) [] (fun f hf => by
      have hw := b3 _ hf
      have h1 := dpL_le.mp (Nat.le_refl (dpL (nf b))) _ hf
      rw [depth_ws] at h1
      have ew := wants_F (n := m) (S := S) (f := f) (A := nf a) (by omega) (by omega)
      have ei := in_order_lst (n := m) (L := f.ws ++ nf a) (S := S) (by omega) t1 (by rw [dpL_app]; omega) (by simp; omega)
      refine ⟨[some (Kd.frm a b).d, some (.lst (dFL (nf a))), some (.lst (dFL (nf b))), some (dF f)], by simp, rfl, ?_⟩
      have e1 : gIx (dF f) (.int 1) S = .ok (.int (f.b.val : Int)) S := by cases f; simp [dF, Fac.b]
      have e2 : dF (addW (nf a) f) = .tup [.tup (dFL (sortF (f.ws ++ nf a))), .int (f.b.val : Int)] := rfl
      rw [e2]
      simp [h8, ew, ei, e1]) (by simp [h8]; omega)
    rw [← dFL_map] at hc
    have e3 : (nf b).map (fun f => dF (addW (nf a) f)) = dFL ((nf b).map (addW (nf a))) := by
      rw [dFL_map, List.map_map]; rfl
    rw [e3] at hc
    rw [ev, b_plain_form]
    simp [Kd.d] at hc
    simp [Kd.d, ea, eb, wipeR, hc, es, nf, h8]
theorem form_ok {n : Nat} {k : Kd} {S : Store} (t1 : Tab1 S) (h : k.dep + 4 ≤ n) (h4 : 5 ≤ n) (hs : k.sz ≤ 10000) (hd : rk k ≤ 90) : ev n .f_form [k.d] S = .ok (.lst (dFL (nf k))) S := by
  obtain ⟨m, rfl, h'⟩ := up h4
  have e1 := sure_kind_kd (n := m) (k := k) (S := S) (by omega) (by omega)
  have e2 := plain_form_ok k (n := m) (S := S) t1 (by omega) hs hd
  rw [ev, b_form]
  simp [e1, e2]
end Kz
namespace Kz
open PySem PySem.Spec PyProof.Rows L2 Kw
def leafD (t : D) : D := .ins "Leaf" ["term"] [t]
end Kz
namespace Kz
open PySem PySem.Spec PyProof.Rows L2 Kw
theorem tab_app {S T : Store} (h : Tab1 S) : Tab1 (S ++ T) := by
  unfold Tab1 at *
  rw [List.getElem?_append_left (by
    rcases Nat.lt_or_ge 1 S.length with hh | hh
    · exact hh
    · rw [List.getElem?_eq_none hh] at h; cases h)]
  exact h
section
variable {n : Nat} {S : Store} {x y : D} {b : _root_.Fin 8}
theorem order_lst {L : List Fac} (t1 : Tab1 S) (h : 1 ≤ n) (hd : dpL L ≤ 190) (hl : L.length ≤ 1000000) : ev n .f_order_of [.lst (dFL L)] S = .ok (.lst (places (pFL L))) S :=
  order_F h t1 rfl (by simp [dFL_len]) hd hl
theorem und_F : ∀ (f : Fac) (q : Nat), (dF f).under q = true
  | .mk ws b, q => by
    simp only [dF, D.under, underL, Bool.and_true]
    exact und_FL ws q
where und_FL : ∀ (L : List Fac) (q : Nat), underL q (dFL L) = true
  | [], _ => rfl
  | f :: L, q => by simp only [dFL, underL, und_F f q, und_FL L q, Bool.and_self]
theorem mk_leaf (h : 1 ≤ n) (u : x.under S.length = true) : mkR "Leaf" (ev n .f_Leaf___init__) [x] S = .ok (leafD x) S := by
  obtain ⟨m, rfl, h'⟩ := up (d := 0) (by omega : 0 + 1 ≤ n)
  have e : ev (m + 1) .f_Leaf___init__ [.loc S.length, x] (S ++ [.ob "Leaf" [] []]) = .ok .non (S ++ [.ob "Leaf" ["term"] [x]]) := by
    rw [ev, b_Leaf___init__]
    simp [sFl]
  unfold mkR
  rw [e]
  simp
  exact cut_here (by simp [underL, u])
end
end Kz
namespace Kz
open PySem PySem.Spec PyProof.Rows L2 Kw
theorem itR_z {z : Int} {S : Store} (h0 : -1000 ≤ z) (h1 : z ≤ 1000000) : itR [.int z] S = .ok (rngD 0 z.toNat, none) S := by
  show (if -(2 ^ 62) ≤ z ∧ z < 2 ^ 62 then RE.ok (rngD 0 z.toNat, none) S else .no) = _
  rw [if_pos ⟨by omega, by omega⟩]
theorem itR_n {V : Nat} {S : Store} (h : V ≤ 1000) : itR [.int (V : Int)] S = .ok (rngD 0 V, none) S := by
  rw [itR_z (by omega) (by omega), Int.toNat_natCast]
theorem rngD_nat : ∀ (n j : Nat), rngD (j : Int) n = (List.range' j n).map fun (i : Nat) => D.int (i : Int)
  | 0, j => rfl
  | n + 1, j => by
    show D.int (j : Int) :: rngD ((j : Int) + 1) n = _
    have : ((j : Int) + 1) = ((j + 1 : Nat) : Int) := by omega
    rw [this, rngD_nat n (j + 1)]; rfl
end Kz
namespace Kz
open PySem PySem.Spec PyProof.Rows L2 Kw
theorem cut_same {S : Store} {d : D} (h : d.under S.length = true) : cutR S (.ok d S) = .ok d S := by
  have := cut_ok (S := S) (d := d) [] h
  simpa using this
section
variable {n m : Nat} {S : Store} {x y t u : D} {b : _root_.Fin 8}
theorem obOf_here {c : Str} {fs : List Str} {ds : List D} : obOf (S ++ [.ob c fs ds]) (.loc S.length) = some (c, fs, ds) := by simp [obOf]
theorem parts_b {i : _root_.Fin 8} (ht : t.under S.length = true) (h : 3 ≤ n) : ev n .f_parts [(Kd.base i).d, t] S = .ok (.lst [leafD t]) S := by
  have h8 : sizeLine = 16777216 := rfl
  obtain ⟨m, rfl⟩ : ∃ m, n = m + 2 := ⟨n - 2, by omega⟩
  have e := mk_leaf (n := m) (S := S) (x := t) (by omega) ht
  rw [ev, b_parts]
  simp [Kd.d, e, h8]
theorem parts_u (h : 3 ≤ n) : ev n .f_parts [Kd.unit.d, t] S = .ok (.lst []) S := by
  have h8 : sizeLine = 16777216 := rfl
  obtain ⟨m, rfl⟩ : ∃ m, n = m + 2 := ⟨n - 2, by omega⟩
  rw [ev, b_parts]
  simp [Kd.d, h8]
/-- things by places -/
theorem comp_at {ρ : FEnv} {xs : List D} {Z : List (Nat × D)} {k : Nat} (hx : ρ[2]? = some (some (.lst xs))) (hk : ρ[4]? = some none) (hz : ∀ z ∈ Z, xs[z.1]? = some z.2) (hl : Z.length ≤ 1000) : compL (gN 4) fYes (f2 gIx (fVar 2) (fVar 4)) none ρ (Z.map fun z => D.int (z.1 : Int)) [] S = .ok (Z.map Prod.snd) S := by
  have h8 : sizeLine = 16777216 := rfl
  have hl4 : 4 < ρ.length := by
    rcases Nat.lt_or_ge 4 ρ.length with hh | hh
    · exact hh
    · rw [List.getElem?_eq_none hh] at hk; cases hk
  have := compL_of (tg := gN 4) (tt := fYes) (te := f2 gIx (fVar 2) (fVar 4)) (ρ := ρ) (S := S) (fun z : Nat × D => D.int (z.1 : Int)) Prod.snd Z [] (fun z hm => ⟨ρ.set 4 (some (.int (z.1 : Int))), rfl, rfl, by
    have e1 : (ρ.set 4 (some (.int (z.1 : Int))))[2]? = some (some (.lst xs)) := by rw [List.getElem?_set_ne (by omega)]; exact hx
    have e2 : (ρ.set 4 (some (.int (z.1 : Int))))[4]? = some (some (.int (z.1 : Int))) := List.getElem?_set_self hl4
    have e3 := hz z hm
    simp [fVar, e1, e2, e3]⟩) (by simp; omega)
  simpa using this
theorem parts_both {a c : Kd} {xs ys fa fc : List D} {Z : List (Nat × D)} (h1 : ev (m + 1) .f_parts [a.d, .tup [.str "first", t]] S = .ok (.lst xs) S) (h2 : ev (m + 1) .f_parts [c.d, .tup [.str "second", t]] S = .ok (.lst ys) S)
    (h3 : ev (m + 1) .f_plain_form [a.d] S = .ok (.lst fa) S) (h4 : ev (m + 1) .f_plain_form [c.d] S = .ok (.lst fc) S) (h5 : ev (m + 1) .f_order_of [.lst (fa ++ fc)] S = .ok (.lst (Z.map fun z => D.int (z.1 : Int))) S) (hz : ∀ z ∈ Z, (xs ++ ys)[z.1]? = some z.2) (hl : Z.length ≤ 1000) (hx : xs.length + ys.length ≤ 1000) (hf : fa.length + fc.length ≤ 1000) :
    ev (m + 2) .f_parts [(Kd.both a c).d, t] S = .ok (.lst (Z.map Prod.snd)) S := by
  have h8 : sizeLine = 16777216 := rfl
  have k1 : (Kd.both a c).d = .tup [.str "both", a.d, c.d] := rfl
  have hc2 := comp_at (S := S) (k := 0) (ρ := [some (.tup [.str "both", a.d, c.d]), some t, some (.lst (xs ++ ys)), some (.lst (Z.map fun z => D.int (z.1 : Int))), none]) (xs := xs ++ ys) (Z := Z) rfl rfl hz hl
  have l1 : xs.length + ys.length ≤ 16777216 := by omega
  have l2 : fa.length + fc.length ≤ 16777216 := by omega
  rw [ev, b_parts, k1]
  generalize (Z.map fun z => D.int (z.1 : Int)) = os at *
  generalize Z.map Prod.snd = zs at *
  generalize a.d = A at *
  generalize c.d = C at *
  simp [h1, h2, h3, h4, h8, l1, l2, h5, wipeR, hc2]
theorem Leaf_got_ok {d w : D} (h : 1 ≤ n) : ev n .f_Leaf_got [leafD t, d, w] S = .ok t S := by
  obtain ⟨m, rfl, h'⟩ := up (d := 0) h
  have g1 : gFld ["Leaf", "Result"] "term" (leafD t) S = .ok t S := gFld_at (by simp) (by simp [lookF])
  rw [ev, b_Leaf_got]
  simp [g1]
theorem disp_leaf {L : List (Str × FF)} : disR L "got" (leafD t) = L.lookup ("Leaf" : Str) := by
  unfold leafD; simp [disR]
theorem built_u {d : Int} (h : 3 ≤ n) : ev n .f_built [Kd.unit.d, x, .int d] S = .ok Tm.unit.d S := by
  have h8 : sizeLine = 16777216 := rfl
  obtain ⟨m, rfl⟩ : ∃ m, n = m + 2 := ⟨n - 2, by omega⟩
  have e : fnB 3 9 (b_built (ev (m + 1)) (ev m)) [Kd.unit.d, x, .int d] S = .ok Tm.unit.d S := by
    rw [b_built]
    simp [Kd.d, h8, Tm.d]
  rw [ev, fnC_ap, e]
  exact cut_same (und_tm _ _)
end
end Kz
namespace Kz
open PySem PySem.Spec PyProof.Rows L2 Kw
section
variable {n m : Nat} {S : Store} {x y t u : D} {b : _root_.Fin 8}
theorem und_leaf {q : Nat} (h : t.under q = true) : (leafD t).under q = true := by simp [leafD, D.under, underL, h]
theorem mk_body {p o k : D} (h : 1 ≤ n) (u : underL S.length [p, o, k] = true) : mkR "Body" (ev n .f_Body___init__) [p, o, k] S = .ok (.ins "Body" ["part", "order", "taken"] [p, o, k]) S := by
  obtain ⟨m, rfl, h'⟩ := up (d := 0) (by omega : 0 + 1 ≤ n)
  have e : ev (m + 1) .f_Body___init__ [.loc S.length, p, o, k] (S ++ [.ob "Body" [] []]) = .ok .non (S ++ [.ob "Body" ["part", "order", "taken"] [p, o, k]]) := by
    rw [ev, b_Body___init__]
    simp [sFl]
  unfold mkR
  rw [e]
  simp
  exact cut_here u
theorem built_both {a c : Kd} {ss os u v : D} {as cs bs : List D} {d : Nat} (hn : 3 ≤ m + 2) (h1 : ev (m + 1) .f_plain_form [a.d] S = .ok (.lst as) S) (h2 : ev (m + 1) .f_plain_form [c.d] S = .ok (.lst cs) S) (h3 : ev (m + 1) .f_order_of [.lst (as ++ cs)] S = .ok os S)
    (h4 : ev (m + 1) .f_put_back [ss, os] S = .ok (.lst bs) S) (h5 : ev (m + 1) .f_built [a.d, .lst (cutL bs none (some (as.length : Int))), .int (d : Int)] S = .ok u S) (h6 : ev (m + 1) .f_built [c.d, .lst (cutL bs (some (as.length : Int)) none), .int (d : Int)] S = .ok v S) (hu : u.under S.length = true) (hv : v.under S.length = true) (hf : as.length + cs.length ≤ 1000) :
    ev (m + 2) .f_built [(Kd.both a c).d, ss, .int (d : Int)] S = .ok (.tup [.str "both", u, v]) S := by
  have h8 : sizeLine = 16777216 := rfl
  have k1 : (Kd.both a c).d = .tup [.str "both", a.d, c.d] := rfl
  have l2 : as.length + cs.length ≤ 16777216 := by omega
  have e : fnB 3 9 (b_built (ev (m + 1)) (ev m)) [(Kd.both a c).d, ss, .int (d : Int)] S = .ok (.tup [.str "both", u, v]) S := by
    rw [b_built, k1]
    generalize a.d = A at *
    generalize c.d = C at *
    simp [h1, h2, l2, h8, h3, h4, h5, h6]
  rw [ev, fnC_ap, e]
  exact cut_same (by simp [D.under, underL, hu, hv])
end
end Kz
namespace Kz
open PySem PySem.Spec PyProof.Rows L2 Kw
noncomputable def ordN (L : List Fac) : List Nat := (((List.range L.length).zip L).mergeSort (PySem.W.dataLe false fun z => pF z.2)).map Prod.fst
theorem ordN_places (L : List Fac) : places (pFL L) = (ordN L).map fun (i : Nat) => D.int (i : Int) := by
  have hz : (List.range L.length).length = L.length := by simp
  unfold places ordN
  rw [pFL_len]
  have e1 : (List.range L.length).map (fun (i : Nat) => D.int (i : Int)) = ((List.range L.length).zip L).map fun z => D.int (z.1 : Int) := by
    have : (fun z : Nat × Fac => D.int (z.1 : Int)) = (fun (i : Nat) => D.int (i : Int)) ∘ Prod.fst := rfl
    rw [this, ← List.map_map, List.map_fst_zip (by simp)]
  have e2 : pFL L = ((List.range L.length).zip L).map fun z => pF z.2 := by
    have : (fun z : Nat × Fac => pF z.2) = pF ∘ Prod.snd := rfl
    rw [this, ← List.map_map, List.map_snd_zip (by simp), pFL_map]
  rw [e1, e2, sortB_map, List.map_map]
  rfl
theorem ordN_perm (L : List Fac) : (ordN L).Perm (List.range L.length) := by
  unfold ordN
  have := (List.mergeSort_perm ((List.range L.length).zip L) (PySem.W.dataLe false fun z => pF z.2)).map Prod.fst
  rwa [List.map_fst_zip (by simp)] at this
theorem ordN_sort (L : List Fac) : (ordN L).map (fun j => L[j]?) = (sortF L).map some := by
  have e1 : (((List.range L.length).zip L).mergeSort (PySem.W.dataLe false fun z => pF z.2)).map Prod.snd = sortF L := by
    have := List.map_mergeSort (f := Prod.snd) (r := PySem.W.dataLe false fun z : Nat × Fac => pF z.2) (s := PySem.W.dataLe false pF) (l := (List.range L.length).zip L) (fun a _ b _ => rfl)
    rw [this, List.map_snd_zip (by simp)]
    rfl
  rw [← e1]
  unfold ordN
  rw [List.map_map, List.map_map]
  apply List.map_congr_left
  intro z hm
  have hm' := (List.mergeSort_perm _ _).mem_iff.mp hm
  obtain ⟨k, hk⟩ := List.mem_iff_getElem?.mp hm'
  rw [List.getElem?_zip_eq_some] at hk
  obtain ⟨h1, h2⟩ := hk
  have h3 := List.getElem?_eq_some_iff.mp h1
  obtain ⟨h4, h5⟩ := h3
  simp at h5
  show L[z.1]? = some z.2
  rw [← h5]; exact h2
theorem ordN_len (L : List Fac) : (ordN L).length = L.length := by rw [(ordN_perm L).length_eq]; simp
theorem ordN_lt {L : List Fac} {j : Nat} (h : j ∈ ordN L) : j < L.length := by
  have := (ordN_perm L).mem_iff.mp h
  simpa using this
theorem ordN_nd (L : List Fac) : (ordN L).Nodup := (ordN_perm L).nodup_iff.mpr List.nodup_range
theorem ordN_all {L : List Fac} {j : Nat} (h : j < L.length) : ∃ i : Nat, (ordN L)[i]? = some j := by
  have : j ∈ ordN L := (ordN_perm L).mem_iff.mpr (by simpa using h)
  exact List.mem_iff_getElem?.mp this
theorem ordN_at {L : List Fac} {i j : Nat} (h : (ordN L)[i]? = some j) : (sortF L)[i]? = L[j]? := by
  have e := congrArg (fun l => l[i]?) (ordN_sort L)
  simp only [List.getElem?_map, h, Option.map_some] at e
  cases hs : (sortF L)[i]? with
  | none => rw [hs] at e; cases e
  | some f => rw [hs] at e; simpa using e.symm
def pick (xs : List D) (P : List Nat) : List D := P.map fun j => (xs[j]?).getD .non
/-- things put in by places -/
def putA : List D → List D → List Nat → List D
  | fs, x :: xs, j :: P => putA (fs.set j x) xs P
  | fs, _, _ => fs
theorem putA_len : ∀ (fs xs : List D) (P : List Nat), (putA fs xs P).length = fs.length
  | fs, [], _ => by simp [putA]
  | fs, _ :: _, [] => by simp [putA]
  | fs, x :: xs, j :: P => by rw [putA, putA_len]; simp
theorem putA_out : ∀ (fs xs : List D) (P : List Nat) (j : Nat), j ∉ P → (putA fs xs P)[j]? = fs[j]?
  | fs, [], _, j, _ => by simp [putA]
  | fs, _ :: _, [], j, _ => by simp [putA]
  | fs, x :: xs, i :: P, j, h => by
    rw [putA, putA_out _ _ _ _ (fun z => h (List.mem_cons_of_mem _ z)), List.getElem?_set_ne (fun z => h (by rw [z]; exact List.mem_cons_self))]
theorem putA_at : ∀ (fs xs : List D) (P : List Nat), P.Nodup → (∀ j ∈ P, j < fs.length) → xs.length = P.length → ∀ (i j : Nat), P[i]? = some j → (putA fs xs P)[j]? = xs[i]?
  | fs, [], [], _, _, _, i, j, h => by simp at h
  | fs, [], _ :: _, _, _, h, _, _, _ => by simp at h
  | fs, _ :: _, [], _, _, h, _, _, _ => by simp at h
  | fs, x :: xs, k :: P, nd, lt, hl, i, j, h => by
    rw [putA]
    cases i with
    | zero =>
      simp at h
      subst h
      rw [putA_out _ _ _ _ (List.nodup_cons.mp nd).1, List.getElem?_set_self (lt k List.mem_cons_self)]
      simp
    | succ i =>
      simp at h
      rw [putA_at _ xs P (List.nodup_cons.mp nd).2 (fun j hj => by rw [List.length_set]; exact lt j (List.mem_cons_of_mem _ hj)) (by simpa using hl) i j h]
      simp
def putB (xs : List D) (P : List Nat) : List D := putA xs xs P
end Kz
namespace Kz
open PySem PySem.Spec PyProof.Rows L2 Kw
noncomputable def gotR (n : Nat) (p : D) (d : Nat) (wl : List D) (S : Store) : RE D := match disR [("Leaf", ev n .f_Leaf_got), ("Result", ev n .f_Result_got), ("Body", ev n .f_Body_got)] "got" p with
  | some F => F [p, .int (d : Int), .lst wl] S
  | none => .no
mutual
/-- N: how deep it is asked at most, H: how high its terms are, each by so much more as what is handed in -/
def Fit (q : Nat) : Fac → List Kd → Nat → Nat → D → Prop
  | .mk ws b, Γ, N, H, p => (∀ r, p.under r = true) ∧ ∀ (Δ : List Kd) (M G : Nat) (wl : List D), Fits q ws (Γ ++ Δ) M G wl → ∃ t : Tm, tkd (Γ ++ Δ) t = some (.base b) ∧ kdsT q t ∧ t.ht ≤ H + G ∧ ∀ (n : Nat) (S : Store), Tab1 S → N + M ≤ n → gotR n p (Γ ++ Δ).length wl S = .ok t.d S
def Fits (q : Nat) : List Fac → List Kd → Nat → Nat → List D → Prop
  | [], _, _, _, xs => xs = []
  | f :: fs, Γ, N, H, xs => ∃ x r, xs = x :: r ∧ Fit q f Γ N H x ∧ Fits q fs Γ N H r
end
section
variable {q : Nat}
theorem Fit.ext {f : Fac} {Γ Δ : List Kd} {N N' H H' : Nat} {p : D} (h : Fit q f Γ N H p) (hn : N ≤ N') (hh : H ≤ H') : Fit q f (Γ ++ Δ) N' H' p := by
  cases f with
  | mk ws b =>
    rw [Fit] at h ⊢
    refine ⟨h.1, fun Δ' M G wl hw => ?_⟩
    rw [List.append_assoc] at hw ⊢
    obtain ⟨t, h1, h2, h4, h3⟩ := h.2 (Δ ++ Δ') M G wl hw
    exact ⟨t, h1, h2, by omega, fun n S t1 hm => h3 n S t1 (by omega)⟩
theorem Fit.mono {f : Fac} {Γ : List Kd} {N N' H H' : Nat} {p : D} (h : Fit q f Γ N H p) (hn : N ≤ N') (hh : H ≤ H') : Fit q f Γ N' H' p := by
  have := h.ext (Δ := []) hn hh
  rwa [List.append_nil] at this
theorem Fit.und {f : Fac} {Γ : List Kd} {N H : Nat} {p : D} (h : Fit q f Γ N H p) (r : Nat) : p.under r = true := by
  cases f with
  | mk ws b => rw [Fit] at h; exact h.1 r
theorem fits_iff : ∀ {L : List Fac} {Γ : List Kd} {N H : Nat} {xs : List D}, Fits q L Γ N H xs ↔ xs.length = L.length ∧ ∀ (i : Nat) f x, L[i]? = some f → xs[i]? = some x → Fit q f Γ N H x
  | [], Γ, N, H, xs => by
    rw [Fits]
    constructor
    · rintro rfl; exact ⟨rfl, fun i f x h => by simp at h⟩
    · rintro ⟨h, _⟩; exact List.length_eq_zero_iff.mp (by simpa using h)
  | f :: L, Γ, N, H, xs => by
    rw [Fits]
    constructor
    · rintro ⟨x, r, rfl, h1, h2⟩
      obtain ⟨l, h3⟩ := fits_iff.mp h2
      refine ⟨by simp [l], fun i g y hg hy => ?_⟩
      cases i with
      | zero => simp at hg hy; subst hg hy; exact h1
      | succ i => simp at hg hy; exact h3 i g y hg hy
    · rintro ⟨l, h⟩
      cases xs with
      | nil => simp at l
      | cons x r => exact ⟨x, r, rfl, h 0 f x rfl rfl, fits_iff.mpr ⟨by simpa using l, fun i g y hg hy => h (i + 1) g y (by simpa using hg) (by simpa using hy)⟩⟩
theorem Fits.ext {L : List Fac} {Γ Δ : List Kd} {N N' H H' : Nat} {xs : List D} (h : Fits q L Γ N H xs) (hn : N ≤ N') (hh : H ≤ H') : Fits q L (Γ ++ Δ) N' H' xs := by
  obtain ⟨l, h⟩ := fits_iff.mp h
  exact fits_iff.mpr ⟨l, fun i f x hf hx => (h i f x hf hx).ext hn hh⟩
theorem Fits.mono {L : List Fac} {Γ : List Kd} {N N' H H' : Nat} {xs : List D} (h : Fits q L Γ N H xs) (hn : N ≤ N') (hh : H ≤ H') : Fits q L Γ N' H' xs := by
  have := h.ext (Δ := []) hn hh
  rwa [List.append_nil] at this
theorem Fits.len {L : List Fac} {Γ : List Kd} {N H : Nat} {xs : List D} (h : Fits q L Γ N H xs) : xs.length = L.length := (fits_iff.mp h).1
theorem Fits.und {L : List Fac} {Γ : List Kd} {N H : Nat} {xs : List D} (h : Fits q L Γ N H xs) (r : Nat) : underL r xs = true := by
  obtain ⟨l, h⟩ := fits_iff.mp h
  have key : ∀ ys : List D, (∀ y ∈ ys, y.under r = true) → underL r ys = true := by
    intro ys
    induction ys with
    | nil => intro _; rfl
    | cons y ys ih => intro k; simp only [underL, k y List.mem_cons_self, ih fun z hz => k z (List.mem_cons_of_mem _ hz), Bool.and_self]
  refine key xs fun y hy => ?_
  obtain ⟨i, hi⟩ := List.mem_iff_getElem?.mp hy
  have hil : i < xs.length := (List.getElem?_eq_some_iff.mp hi).1
  have : L[i]? = some L[i] := List.getElem?_eq_getElem (by omega)
  exact (h i _ y this hi).und r
theorem Fits.app {L M : List Fac} {Γ : List Kd} {N H : Nat} {xs ys : List D} (h : Fits q L Γ N H xs) (k : Fits q M Γ N H ys) : Fits q (L ++ M) Γ N H (xs ++ ys) := by
  obtain ⟨l, h⟩ := fits_iff.mp h
  obtain ⟨l', k⟩ := fits_iff.mp k
  refine fits_iff.mpr ⟨by simp [l, l'], fun i f x hf hx => ?_⟩
  rcases Nat.lt_or_ge i L.length with hi | hi
  · rw [List.getElem?_append_left hi] at hf
    rw [List.getElem?_append_left (by omega)] at hx
    exact h i f x hf hx
  · rw [List.getElem?_append_right hi] at hf
    rw [List.getElem?_append_right (by omega), l] at hx
    exact k _ f x hf hx
theorem Fits.left {L M : List Fac} {Γ : List Kd} {N H : Nat} {zs : List D} (h : Fits q (L ++ M) Γ N H zs) : Fits q L Γ N H (zs.take L.length) := by
  obtain ⟨l, h⟩ := fits_iff.mp h
  simp at l
  refine fits_iff.mpr ⟨by simp; omega, fun i f x hf hx => ?_⟩
  have hi : i < L.length := (List.getElem?_eq_some_iff.mp hf).1
  rw [List.getElem?_take_of_lt hi] at hx
  exact h i f x (by rw [List.getElem?_append_left hi]; exact hf) hx
theorem Fits.right {L M : List Fac} {Γ : List Kd} {N H : Nat} {zs : List D} (h : Fits q (L ++ M) Γ N H zs) : Fits q M Γ N H (zs.drop L.length) := by
  obtain ⟨l, h⟩ := fits_iff.mp h
  simp at l
  refine fits_iff.mpr ⟨by simp; omega, fun i f x hf hx => ?_⟩
  rw [List.getElem?_drop] at hx
  exact h (L.length + i) f x (by rw [List.getElem?_append_right (by omega)]; simpa using hf) hx
theorem Fits.pick {L : List Fac} {Γ : List Kd} {N H : Nat} {xs : List D} (h : Fits q L Γ N H xs) : Fits q (sortF L) Γ N H (pick xs (ordN L)) := by
  obtain ⟨l, h⟩ := fits_iff.mp h
  refine fits_iff.mpr ⟨by unfold Kz.pick; rw [List.length_map, ordN_len, (sortF_perm L).length_eq], fun i f x hf hx => ?_⟩
  unfold Kz.pick at hx
  rw [List.getElem?_map] at hx
  cases hp : (ordN L)[i]? with
  | none => rw [hp] at hx; cases hx
  | some j =>
    rw [hp] at hx
    have hj : j < xs.length := by rw [l]; exact ordN_lt (List.mem_of_getElem? hp)
    rw [ordN_at hp] at hf
    have hxj : xs[j]? = some x := by
      rw [List.getElem?_eq_getElem hj]
      simpa [List.getElem?_eq_getElem hj] using hx
    exact h j f x hf hxj
theorem Fits.put {L : List Fac} {Γ : List Kd} {N H : Nat} {xs : List D} (h : Fits q (sortF L) Γ N H xs) : Fits q L Γ N H (putB xs (ordN L)) := by
  obtain ⟨l, h⟩ := fits_iff.mp h
  rw [(sortF_perm L).length_eq] at l
  refine fits_iff.mpr ⟨by unfold putB; rw [putA_len, l], fun j f x hf hx => ?_⟩
  have hj : j < L.length := (List.getElem?_eq_some_iff.mp hf).1
  obtain ⟨i, hi⟩ := ordN_all hj
  unfold putB at hx
  rw [putA_at xs xs (ordN L) (ordN_nd L) (fun j hj => by rw [l]; exact ordN_lt hj) (by rw [l, ordN_len]) i j hi] at hx
  exact h i f x (by rw [ordN_at hi]; exact hf) hx
end
end Kz
namespace Kz
open PySem PySem.Spec PyProof.Rows L2 Kw
def intsN (P : List Nat) : List D := P.map fun (i : Nat) => D.int (i : Int)
/-- a list of things, made or under way -/
def Lx (S : Store) (x : D) (xs : List D) : Prop := x = .lst xs ∨ ∃ v, x = .loc v ∧ S[v]? = some (.lst xs)
theorem Lx.seq {S : Store} {x : D} {xs : List D} (h : Lx S x xs) : seqA S x = some xs := by
  rcases h with rfl | ⟨v, rfl, h⟩
  · rfl
  · simp [seqA, cellOf_of h]
theorem Lx.ix {S : Store} {x d : D} {xs : List D} (h : Lx S x xs) (i : Nat) (hi : xs[i]? = some d) : gIx x (.int (i : Int)) S = .ok d S := by
  rcases h with rfl | ⟨v, rfl, h⟩
  · rw [gIx_lst, ixR_nat, hi]
  · rw [gIx_loc (cellOf_of h), ixR_nat, hi]
theorem Lx.iter {S : Store} {x : D} {xs : List D} (h : Lx S x xs) (c : Cell) : ∃ g, iSeq (S ++ [c]) x = some (xs, g) ∧ ∀ c', gd g (S ++ [c']) := by
  rcases h with rfl | ⟨v, rfl, h⟩
  · exact ⟨none, rfl, fun c' => by unfold gd; trivial⟩
  · have hv : v < S.length := (List.getElem?_eq_some_iff.mp h).1
    have key : ∀ c', cellOf (S ++ [c']) v = some xs := fun c' => cellOf_of (by rw [List.getElem?_append_left hv]; exact h)
    exact ⟨some (v, xs), by simp [iSeq, key], fun c' => by unfold gd; exact key c'⟩
theorem forL_nilg {tg : FG} {b : FS} {g : Option (Nat × List D)} {ρ : FEnv} {S : Store} (h : gd g S) : forL tg b g [] ρ S = .nx ρ S := by
  unfold forL gchk; rw [if_pos h]
theorem forL_consg {tg : FG} {b : FS} {g : Option (Nat × List D)} {ρ ρ1 ρ2 : FEnv} {S S1 S2 : Store} {d : D} {r : List D} (h : gd g S) (h1 : tg d ρ S = some (ρ1, S1)) (h2 : b ρ1 S1 = .nx ρ2 S2) : forL tg b g (d :: r) ρ S = forL tg b g r ρ2 S2 := by
  show gchk g S _ _ = _
  unfold gchk
  rw [if_pos h, h1]
  simp only [h2]
theorem gSb_locT {i j v p : Nat} {ρ : FEnv} {S : Store} {ds : List D} {d : D} (h1 : ρ[i]? = some (some (.loc v))) (h2 : ρ[j]? = some (some (.int (p : Int)))) (at_ : S[v]? = some (.lst ds)) (hp : p < ds.length) :
    gSb (fVar i) (fVar j) d ρ S = some (ρ, S.set v (.lst (ds.set p d))) := by
  have e1 : fVar i ρ S = .ok (.loc v) S := by unfold fVar; rw [h1]
  have e2 : fVar j ρ S = .ok (.int (p : Int)) S := by unfold fVar; rw [h2]
  have e3 : L2.ixN ds.length (p : Int) = some p := by
    unfold L2.ixN
    rw [if_pos (by omega), if_pos (by omega)]
    rw [Int.toNat_natCast]
  unfold gSb
  rw [e1]
  simp only
  rw [e2]
  simp only [gSetI]
  rw [cellM_of at_]
  simp only
  rw [e3]
section
variable {n m : Nat} {S : Store}
theorem put_loop {m : Nat} {g : Option (Nat × List D)} {x0 x1 : Option D} (hg : ∀ c, gd g (S ++ [c])) : ∀ (xs : List D) (P : List Nat) (fs : List D) (x3 x4 : Option D), xs.length = P.length → (∀ j ∈ P, j < fs.length) → ∃ y3 y4, forL (gTu 2 (gsCons (gN 3) (gsCons (gN 4) gsNil))) (l_put_back_0 (ev m)) g (zipD xs (intsN P)) [x0, x1, some (.loc S.length), x3, x4] (S ++ [.lst fs]) = .nx [x0, x1, some (.loc S.length), y3, y4] (S ++ [.lst (putA fs xs P)])
  | [], P, fs, x3, x4, _, _ => ⟨x3, x4, by
      have : zipD [] (intsN P) = [] := by simp [zipD]
      rw [this, forL_nilg (hg _)]; simp [putA]⟩
  | _ :: _, [], _, _, _, h, _ => by simp at h
  | x :: xs, j :: P, fs, x3, x4, hl, hj => by
    have hjl := hj j List.mem_cons_self
    obtain ⟨y3, y4, e⟩ := put_loop hg xs P (fs.set j x) (some x) (some (.int (j : Int))) (by simpa using hl) (fun i hi => by rw [List.length_set]; exact hj i (List.mem_cons_of_mem _ hi))
    refine ⟨y3, y4, ?_⟩
    have hz : zipD (x :: xs) (intsN (j :: P)) = .tup [x, .int (j : Int)] :: zipD xs (intsN P) := rfl
    rw [hz, putA, forL_consg (ρ1 := [x0, x1, some (.loc S.length), some x, some (.int (j : Int))]) (ρ2 := [x0, x1, some (.loc S.length), some x, some (.int (j : Int))]) (S1 := S ++ [.lst fs]) (S2 := S ++ [.lst (fs.set j x)]) (hg _) rfl ?_, e]
    have gs := gSb_locT (i := 2) (j := 4) (v := S.length) (p := j) (ρ := [x0, x1, some (.loc S.length), some x, some (.int (j : Int))]) (S := S ++ [.lst fs]) (ds := fs) (d := x) rfl rfl (by simp) hjl
    unfold l_put_back_0
    simp [gs]
theorem put_gen {x : D} {xs : List D} {P : List Nat} (h : 1 ≤ n) (hx : Lx S x xs) (hl : xs.length = P.length) (hj : ∀ j ∈ P, j < xs.length) (hu : underL S.length (putB xs P) = true) : ev n .f_put_back [x, .lst (intsN P)] S = .ok (.lst (putB xs P)) S := by
  obtain ⟨m, rfl, h'⟩ := up (d := 0) h
  obtain ⟨g, it, hg⟩ := hx.iter (.lst xs)
  obtain ⟨y3, y4, e⟩ := put_loop (m := m) (x0 := some x) (x1 := some (.lst (intsN P))) hg xs P xs none none hl hj
  have gl : gList true [x] S = .ok (.loc S.length) (S ++ [.lst xs]) := by
    unfold gList; simp only [hx.seq]; rfl
  have z : fiZ (fCons (fVar 0) (fCons (fVar 1) fNil)) [some x, some (.lst (intsN P)), some (.loc S.length), none, none] (S ++ [.lst xs]) = .ok (zipD xs (intsN P), g) (S ++ [.lst xs]) := by
    unfold fiZ
    have e1 : fCons (fVar 0) (fCons (fVar 1) fNil) [some x, some (.lst (intsN P)), some (.loc S.length), none, none] (S ++ [.lst xs]) = .ok [x, .lst (intsN P)] (S ++ [.lst xs]) := rfl
    have e2 : iSeq (S ++ [.lst xs]) (.lst (intsN P)) = some (intsN P, none) := rfl
    rw [e1]
    simp only [bnd_ok, it, e2]
    cases g <;> rfl
  have ef : fnB 2 5 (b_put_back (ev m)) [x, .lst (intsN P)] S = .ok (.lst (putB xs P)) (S ++ [.dead]) := by
    rw [b_put_back]
    simp [gl, z, e, gFz, putB]
  rw [ev, fnC_ap, ef]
  exact cut_ok _ (by simpa [D.under] using hu)
theorem order_N {L : List Fac} (t1 : Tab1 S) (h : 1 ≤ n) (hd : dpL L ≤ 190) (hl : L.length ≤ 1000000) : ev n .f_order_of [.lst (dFL L)] S = .ok (.lst (intsN (ordN L))) S := by
  have := order_lst (n := n) (L := L) t1 h hd hl
  rw [ordN_places] at this; exact this
end
end Kz
namespace Kz
open PySem PySem.Spec PyProof.Rows L2 Kw
structure Smk (k : Kd) : Prop where
  sz : k.sz ≤ 1000
  rk_ : Kz.rk k ≤ 80
theorem dep_sz : ∀ k : Kd, k.dep + 1 ≤ k.sz
  | .base _ => by simp [Kd.dep, Kd.sz]
  | .unit => by simp [Kd.dep, Kd.sz]
  | .both a b => by have := dep_sz a; have := dep_sz b; simp only [Kd.dep, Kd.sz]; omega
  | .frm a b => by have := dep_sz a; have := dep_sz b; simp only [Kd.dep, Kd.sz]; omega
theorem Smk.bothL {a b : Kd} (h : Smk (.both a b)) : Smk a := ⟨by have := h.sz; simp only [Kd.sz] at this; omega, by have := h.rk_; simp only [Kz.rk] at this; omega⟩
theorem Smk.bothR {a b : Kd} (h : Smk (.both a b)) : Smk b := ⟨by have := h.sz; simp only [Kd.sz] at this; omega, by have := h.rk_; simp only [Kz.rk] at this; omega⟩
theorem Smk.frmL {a b : Kd} (h : Smk (.frm a b)) : Smk a := ⟨by have := h.sz; simp only [Kd.sz] at this; omega, by have := h.rk_; simp only [Kz.rk] at this; omega⟩
theorem Smk.frmR {a b : Kd} (h : Smk (.frm a b)) : Smk b := ⟨by have := h.sz; simp only [Kd.sz] at this; omega, by have := h.rk_; simp only [Kz.rk] at this; omega⟩
theorem Smk.nfl {k : Kd} (h : Smk k) : (nf k).length ≤ 1000 := by have := (nf_ok k).2.1; have := h.sz; omega
theorem Smk.dp {k : Kd} (h : Smk k) : dpL (nf k) ≤ 170 := by have := (nf_ok k).1; have := h.rk_; omega
theorem Smk.want {A B : Kd} (h : Smk (.frm A B)) {f : Fac} (hf : f ∈ nf B) : f.ws.length + (nf A).length ≤ 2000 ∧ dpL (f.ws ++ nf A) ≤ 190 := by
  have hA := h.frmL
  have hB := h.frmR
  have a1 := hA.nfl
  have a2 := hA.dp
  have b2 := hB.dp
  have b3 := (nf_ok B).2.2 f hf
  have b4 := hB.sz
  have h1 := dpL_le.mp (Nat.le_refl (dpL (nf B))) f hf
  rw [depth_ws] at h1
  exact ⟨by omega, by rw [dpL_app]; omega⟩
theorem Smk.fdp {A B : Kd} (h : Smk (.frm A B)) : dpL ((nf B).map (addW (nf A))) ≤ 190 ∧ ((nf B).map (addW (nf A))).length ≤ 1000 := by
  have p := sortF_perm ((nf B).map (addW (nf A)))
  have d1 := h.dp
  have l1 := h.frmR.nfl
  refine ⟨?_, by simpa using l1⟩
  rw [← dpL_perm p]
  have : dpL (nf (.frm A B)) ≤ 170 := d1
  simp only [nf] at this
  omega
def resG (A B : Kd) (t : D) (i : Nat) (f : Fac) (P : List Nat) : D := .ins "Result" ["term", "kind", "place", "factor", "order"] [t, (Kd.frm A B).d, .int (i : Int), dF f, .lst (intsN P)]
def bodG (p : D) (P : List Nat) (tk : List D) : D := .ins "Body" ["part", "order", "taken"] [p, .lst (intsN P), .lst tk]
section
variable {n m : Nat} {S : Store}
theorem pl_k {k : Kd} (t1 : Tab1 S) (hk : Smk k) (h : k.dep + 3 ≤ n) : ev n .f_plain_form [k.d] S = .ok (.lst (dFL (nf k))) S :=
  plain_form_ok k t1 h (by have := hk.sz; omega) (by have := hk.rk_; omega)
theorem fac_loop {m : Nat} {A B : Kd} (hk : Smk (.frm A B)) (t1 : Tab1 S) (hm : 1 ≤ m) {x0 : Option D} : ∀ (L : List Fac) (acc : List D) (x3 x4 : Option D), (∀ f ∈ L, f ∈ nf B) → acc.length + L.length ≤ 2000 → ∃ y3 y4, forL (gN 3) (l_factors_from_0 (ev m)) none (dFL L) [x0, some (.lst (dFL (nf A))), some (.loc S.length), x3, x4, none] (S ++ [.lst acc]) = .nx [x0, some (.lst (dFL (nf A))), some (.loc S.length), y3, y4, none] (S ++ [.lst (acc ++ dFL (L.map (addW (nf A))))])
  | [], acc, x3, x4, _, _ => ⟨x3, x4, by simp [dFL]⟩
  | f :: L, acc, x3, x4, hL, hl => by
    have h8 : sizeLine = 16777216 := rfl
    have hf := hL f List.mem_cons_self
    obtain ⟨w1, w2⟩ := hk.want hf
    simp only [List.length_cons] at hl
    obtain ⟨y3, y4, e⟩ := fac_loop hk t1 hm (x0 := x0) L (acc ++ [dF (addW (nf A) f)]) (some (dF f)) (some (.lst (dFL (f.ws ++ nf A)))) (fun g hg => hL g (List.mem_cons_of_mem _ hg)) (by simp; omega)
    refine ⟨y3, y4, ?_⟩
    have ew := wants_F (n := m) (S := S ++ [.lst acc]) (f := f) (A := nf A) hm (by omega)
    have eo := order_lst (n := m) (S := S ++ [.lst acc]) (L := f.ws ++ nf A) (tab_app t1) hm w2 (by simp; omega)
    obtain ⟨Z, z1, z2, z3⟩ := places_F (f.ws ++ nf A)
    have zl : Z.length = (f.ws ++ nf A).length := by
      have := congrArg List.length z2
      rw [List.length_map, (sortF_perm _).length_eq] at this
      exact this
    have e2 : Z.map (fun z => dF z.2) = dFL (sortF (f.ws ++ nf A)) := by
      rw [← z2, dFL_map, List.map_map]; rfl
    have hc := compL_of (tg := gN 5) (tt := fYes) (te := f2 gIx (fVar 4) (fVar 5)) (ρ := [x0, some (.lst (dFL (nf A))), some (.loc S.length), some (dF f), some (.lst (dFL (f.ws ++ nf A))), none]) (S := S ++ [.lst acc]) (fun z : Nat × Fac => D.int (z.1 : Int)) (fun z => dF z.2) Z [] (fun z hz => ⟨[x0, some (.lst (dFL (nf A))), some (.loc S.length), some (dF f), some (.lst (dFL (f.ws ++ nf A))), some (.int (z.1 : Int))], by simp, rfl, by
      have := gIx_lstF (L := f.ws ++ nf A) (S := S ++ [.lst acc]) z.1 z.2 (z3 z hz)
      have fv4 : fVar 4 [x0, some (.lst (dFL (nf A))), some (.loc S.length), some (dF f), some (.lst (dFL (f.ws ++ nf A))), some (.int (z.1 : Int))] (S ++ [.lst acc]) = .ok (.lst (dFL (f.ws ++ nf A))) (S ++ [.lst acc]) := rfl
      have fv5 : fVar 5 [x0, some (.lst (dFL (nf A))), some (.loc S.length), some (dF f), some (.lst (dFL (f.ws ++ nf A))), some (.int (z.1 : Int))] (S ++ [.lst acc]) = .ok (.int (z.1 : Int)) (S ++ [.lst acc]) := rfl
      simp only [f2_ap, fv4, fv5, bnd_ok, this]⟩) (by rw [h8, zl]; simp; omega)
    rw [e2, ← z1] at hc
    have g1 : ∀ T, gIx (dF f) (.int 1) T = .ok (.int (f.b.val : Int)) T := fun T => by cases f; simp [dF, Fac.b]
    have eA : dF (addW (nf A) f) = .tup [.tup (dFL (sortF (f.ws ++ nf A))), .int (f.b.val : Int)] := rfl
    have hs : dFL (f :: L) = dF f :: dFL L := rfl
    have hr : acc ++ [dF (addW (nf A) f)] ++ dFL (L.map (addW (nf A))) = acc ++ dFL ((f :: L).map (addW (nf A))) := by simp [dFL]
    rw [← hr, hs, forL_cons, ← e]
    generalize dFL (L.map (addW (nf A))) = R at *
    rw [eA]
    generalize dFL (sortF (f.ws ++ nf A)) = F1 at *
    generalize dFL (f.ws ++ nf A) = F2 at *
    generalize dFL (nf A) = FA at *
    generalize ((f.b.val : Nat) : Int) = bi at *
    generalize dF f = fd at *
    generalize places (pFL (f.ws ++ nf A)) = PL at *
    have hm2 : mthR gAppend (fCons (fArg mkTup (fCons (fArg gTuple (fCons (fLc false (fiL (fArg (ev m .f_order_of) (fCons (fVar 4) fNil))) (gN 5) fYes (f2 gIx (fVar 4) (fVar 5)) [5]) fNil)) (fCons (f2 gIx (fVar 3) (fC (.int 1))) fNil))) fNil) [x0, some (.lst FA), some (.loc S.length), some fd, some (.lst F2), none] (.loc S.length) (S ++ [.lst acc]) = .ok .non (S ++ [.lst (acc ++ [.tup [.tup F1, .int bi]])]) := by
      rw [mthR_loc cellOf_app]
      have hp := gAppend_loc (n := S.length) (S := S ++ [.lst acc]) (xs := acc) (d := .tup [.tup F1, .int bi]) cellM_app (by rw [h8]; omega)
      simp at hc
      simp [eo, wipeR, hc, g1, h8, hp]
    unfold l_factors_from_0
    simp [ew, hm2]
end
end Kz
namespace Kz
open PySem PySem.Spec PyProof.Rows L2 Kw
noncomputable def facAt (L : List Fac) (j : Nat) : Fac := (L[j]?).getD (.mk [] 0)
noncomputable def resJ (A B : Kd) (t : Tm) (j : Nat) : D := resG A B t.d j (facAt (nf B) j) (ordN ((facAt (nf B) j).ws ++ nf A))
noncomputable def resL (A B : Kd) (t : Tm) : List D := (List.range' 0 (nf B).length).map (resJ A B t)
noncomputable def prt : Kd → Tm → List D
  | .base _, t => [leafD t.d]
  | .unit, _ => []
  | .both a b, t => pick (prt a (.fst t) ++ prt b (.snd t)) (ordN (nf a ++ nf b))
  | .frm A B, t => pick (resL A B t) (ordN ((nf B).map (addW (nf A))))
theorem pick_len (xs : List D) (P : List Nat) : (pick xs P).length = P.length := by simp [pick]
theorem prt_len : ∀ (k : Kd) (t : Tm), (prt k t).length = (nf k).length
  | .base _, t => rfl
  | .unit, t => rfl
  | .both a b, t => by rw [prt, pick_len, ordN_len, nf, (sortF_perm _).length_eq]
  | .frm A B, t => by rw [prt, pick_len, ordN_len, nf, (sortF_perm _).length_eq]
theorem resL_at {A B : Kd} {t : Tm} {i : Nat} {f : Fac} (h : (nf B)[i]? = some f) : (resL A B t)[i]? = some (resG A B t.d i f (ordN (f.ws ++ nf A))) := by
  have hi := (List.getElem?_eq_some_iff.mp h).1
  unfold resL
  rw [List.getElem?_map, List.getElem?_range' (by simpa using hi)]
  simp [resJ, facAt, h]
theorem resL_len (A B : Kd) (t : Tm) : (resL A B t).length = (nf B).length := by simp [resL]
section
variable {n m : Nat} {S : Store}
theorem factors_gen {A B : Kd} (hk : Smk (.frm A B)) (t1 : Tab1 S) (h : max A.dep B.dep + 4 ≤ n) : ev n .f_factors_from [(Kd.frm A B).d] S = .ok (.lst (dFL ((nf B).map (addW (nf A))))) S := by
  have h8 : sizeLine = 16777216 := rfl
  obtain ⟨m, rfl, h'⟩ := up (d := max A.dep B.dep + 3) h
  have p1 := pl_k (n := m) (k := A) t1 hk.frmL (by omega)
  have p0 := pl_k (n := m) (k := B) (S := S ++ [.lst []]) (tab_app t1) hk.frmR (by omega)
  have k1 : (Kd.frm A B).d = .tup [.str "from", A.d, B.d] := rfl
  obtain ⟨y3, y4, lp⟩ := fac_loop (m := m) hk t1 (by omega) (x0 := some (Kd.frm A B).d) (nf B) [] none none (fun f hf => hf) (by have := hk.frmR.nfl; simp; omega)
  have e : fnB 1 6 (b_factors_from (ev m)) [(Kd.frm A B).d] S = .ok (.lst (dFL ((nf B).map (addW (nf A))))) (S ++ [.dead]) := by
    rw [k1] at lp
    rw [b_factors_from, k1]
    simp only [List.nil_append] at lp
    generalize dFL ((nf B).map (addW (nf A))) = R at *
    generalize dFL (nf A) = FA at *
    generalize dFL (nf B) = FB at *
    generalize A.d = K1 at *
    generalize B.d = K0 at *
    simp [p1, p0, lp, gFz, h8]
  rw [ev, fnC_ap, e]
  exact cut_ok _ (by simp only [D.under]; exact und_F.und_FL _ _)
theorem mk_res_gen {A B : Kd} {t : D} {i : Nat} {f : Fac} (hk : Smk (.frm A B)) (hi : (nf B)[i]? = some f) (t1 : Tab1 S) (h : max A.dep B.dep + 4 ≤ n) (ht : ∀ q, t.under q = true) : mkR "Result" (ev n .f_Result___init__) [t, (Kd.frm A B).d, .int (i : Int)] S = .ok (resG A B t i f (ordN (f.ws ++ nf A))) S := by
  obtain ⟨m, rfl, h'⟩ := up (d := max A.dep B.dep + 3) h
  obtain ⟨w1, w2⟩ := hk.want (List.mem_of_getElem? hi)
  have p0 := fun c => pl_k (n := m) (S := S ++ [c]) (k := B) (tab_app t1) hk.frmR (by omega)
  have p1 := fun c => pl_k (n := m) (S := S ++ [c]) (k := A) (tab_app t1) hk.frmL (by omega)
  have w := fun c => wants_F (n := m) (S := S ++ [c]) (f := f) (A := nf A) (by omega) (by omega)
  have o := fun c => order_N (n := m) (S := S ++ [c]) (L := f.ws ++ nf A) (tab_app t1) (by omega) w2 (by simp; omega)
  have k1 : (Kd.frm A B).d = .tup [.str "from", A.d, B.d] := rfl
  have gi : ∀ T, gIx (.lst (dFL (nf B))) (.int (i : Int)) T = .ok (dF f) T := fun T => gIx_lstF i f hi
  have gi2 : ∀ T, ixR (dFL (nf B)) (i : Int) T = .ok (dF f) T := fun T => by have := gi T; rw [gIx_lst] at this; exact this
  have e : ev (m + 1) .f_Result___init__ [.loc S.length, t, (Kd.frm A B).d, .int (i : Int)] (S ++ [.ob "Result" [] []]) = .ok .non (S ++ [.ob "Result" ["term", "kind", "place", "factor", "order"] [t, (Kd.frm A B).d, .int (i : Int), dF f, .lst (intsN (ordN (f.ws ++ nf A)))]]) := by
    rw [ev, b_Result___init__]
    generalize dF f = F1 at *
    generalize dFL (f.ws ++ nf A) = F2 at *
    generalize dFL (nf A) = FA at *
    generalize dFL (nf B) = FB at *
    generalize A.d = K1 at *
    generalize B.d = K0 at *
    generalize ((i : Nat) : Int) = iI at *
    rw [k1]
    simp [sFl, p0, p1, w, o, gi2, gFld, obOf_here, lookF]
  unfold mkR
  rw [e]
  simp
  have ui : ∀ q, underL q (intsN (ordN (f.ws ++ nf A))) = true := fun q => by
    unfold intsN
    generalize ordN (f.ws ++ nf A) = P
    induction P with
    | nil => rfl
    | cons p P ih => simp only [List.map_cons, underL, D.under, ih, Bool.and_self]
  exact cut_here (by simp [underL, D.under, ht, und_F, ui])
theorem zOf (xs : List D) (P : List Nat) : (P.map fun j => (j, (xs[j]?).getD D.non)).map Prod.snd = pick xs P ∧ ((P.map fun j => (j, (xs[j]?).getD D.non)).map fun z => D.int (z.1 : Int)) = intsN P := by
  constructor
  · simp [pick]
  · simp [intsN]
theorem zOf_at {xs : List D} {P : List Nat} (h : ∀ j ∈ P, j < xs.length) : ∀ z ∈ (P.map fun j => (j, (xs[j]?).getD D.non)), xs[z.1]? = some z.2 := by
  intro z hz
  obtain ⟨j, hj, rfl⟩ := List.mem_map.mp hz
  have := h j hj
  simp [List.getElem?_eq_getElem this]
theorem parts_bothG {a b : Kd} (ha : ∀ (t : Tm) {n : Nat} {S : Store}, Smk a → Tab1 S → a.dep + 8 ≤ n → ev n .f_parts [a.d, t.d] S = .ok (.lst (prt a t)) S) (hb : ∀ (t : Tm) {n : Nat} {S : Store}, Smk b → Tab1 S → b.dep + 8 ≤ n → ev n .f_parts [b.d, t.d] S = .ok (.lst (prt b t)) S) (t : Tm) {n : Nat} {S : Store} (hk : Smk (.both a b)) (t1 : Tab1 S) (h : (Kd.both a b).dep + 8 ≤ n) : ev n .f_parts [(Kd.both a b).d, t.d] S = .ok (.lst (prt (.both a b) t)) S := by
  have h8 : sizeLine = 16777216 := rfl
  simp only [Kd.dep] at h
  obtain ⟨m, rfl⟩ : ∃ m, n = m + 2 := ⟨n - 2, by omega⟩
  have e1 := ha (.fst t) (n := m + 1) (S := S) hk.bothL t1 (by omega)
  have e2 := hb (.snd t) (n := m + 1) (S := S) hk.bothR t1 (by omega)
  have f1 := pl_k (n := m + 1) (k := a) t1 hk.bothL (by omega)
  have f2 := pl_k (n := m + 1) (k := b) t1 hk.bothR (by omega)
  have s1 := (nf_ok a).2.1
  have s2 := (nf_ok b).2.1
  have sz := hk.sz
  simp only [Kd.sz] at sz
  have d1 := hk.bothL.dp
  have d2 := hk.bothR.dp
  have o1 := order_N (n := m + 1) (S := S) (L := nf a ++ nf b) t1 (by omega) (by rw [dpL_app]; omega) (by simp; omega)
  rw [dFL_app] at o1
  obtain ⟨z1, z2⟩ := zOf (prt a (.fst t) ++ prt b (.snd t)) (ordN (nf a ++ nf b))
  rw [← z2] at o1
  have := parts_both (m := m) (S := S) (t := t.d) (a := a) (c := b) e1 e2 f1 f2 o1 (zOf_at fun j hj => by rw [List.length_append, prt_len, prt_len]; have := ordN_lt hj; simpa using this) (by simp [ordN_len]; omega) (by rw [prt_len, prt_len]; omega) (by rw [dFL_len, dFL_len]; omega)
  rw [z1] at this
  exact this
theorem parts_abs {m : Nat} {S : Store} {K1 K0 td : D} {FF IP RG RL PK : List D} (e1 : ev (m + 1) .f_factors_from [.tup [.str "from", K1, K0]] S = .ok (.lst FF) S) (e2 : ev (m + 1) .f_order_of [.lst FF] S = .ok (.lst IP) S) (it : itR [.int (IP.length : Int)] S = .ok (RG, none) S)
    (hc1 : compL (gN 4) fYes (fMk "Result" (ev m .f_Result___init__) (fCons (fVar 1) (fCons (fVar 0) (fCons (fVar 4) fNil)))) none [some (.tup [.str "from", K1, K0]), some td, none, some (.lst IP), none] RG [] S = .ok RL S)
    (hc2 : compL (gN 4) fYes (f2 gIx (fVar 2) (fVar 4)) none [some (.tup [.str "from", K1, K0]), some td, some (.lst RL), some (.lst IP), none] IP [] S = .ok PK S) : ev (m + 2) .f_parts [.tup [.str "from", K1, K0], td] S = .ok (.lst PK) S := by
  rw [ev, b_parts, fnB_2]
  have s1 : (fArg gLen (fCons (fVar 3) fNil)) [some (.tup [.str "from", K1, K0]), some td, none, some (.lst IP), none] S = .ok (.int (IP.length : Int)) S := by simp
  have s2 : fiR1 (fCons (fArg gLen (fCons (fVar 3) fNil)) fNil) [some (.tup [.str "from", K1, K0]), some td, none, some (.lst IP), none] S = .ok (RG, none) S := by
    rw [fiR1_ap]
    show ((fCons (fArg gLen (fCons (fVar 3) fNil)) fNil) _ S).bnd itR = _
    have : (fCons (fArg gLen (fCons (fVar 3) fNil)) fNil) [some (.tup [.str "from", K1, K0]), some td, none, some (.lst IP), none] S = .ok [.int (IP.length : Int)] S := by
      rw [fCons_ap, s1]; rfl
    rw [this, bnd_ok, it]
  have b1 : (sIf (fB (f2 gEq (f2 gIx (fVar 0) (fC (.int 0))) (fC (.str "base")))) (sRet (fArg mkLst (fCons (fMk "Leaf" (ev m .f_Leaf___init__) (fCons (fVar 1) fNil)) fNil))) sNil) [some (.tup [.str "from", K1, K0]), some td, none, none, none] S = .nx [some (.tup [.str "from", K1, K0]), some td, none, none, none] S := by simp
  have b2 : (sIf (fB (f2 gEq (f2 gIx (fVar 0) (fC (.int 0))) (fC (.str "unit")))) (sRet (fArg mkLst fNil)) sNil) [some (.tup [.str "from", K1, K0]), some td, none, none, none] S = .nx [some (.tup [.str "from", K1, K0]), some td, none, none, none] S := by simp
  have c1 : (sSet 3 (fArg (ev (m + 1) .f_order_of) (fCons (fArg (ev (m + 1) .f_factors_from) (fCons (fVar 0) fNil)) fNil))) [some (.tup [.str "from", K1, K0]), some td, none, none, none] S = .nx [some (.tup [.str "from", K1, K0]), some td, none, some (.lst IP), none] S := by simp [e1, e2]
  have c2 : (sSet 2 (fLc false (fiR1 (fCons (fArg gLen (fCons (fVar 3) fNil)) fNil)) (gN 4) fYes (fMk "Result" (ev m .f_Result___init__) (fCons (fVar 1) (fCons (fVar 0) (fCons (fVar 4) fNil)))) [4])) [some (.tup [.str "from", K1, K0]), some td, none, some (.lst IP), none] S = .nx [some (.tup [.str "from", K1, K0]), some td, some (.lst RL), some (.lst IP), none] S := by
    simp [-fiR1_ap, s2, wipeR, hc1]
  have b3 : ∀ X Y : FS, (sIf (fB (f2 gEq (f2 gIx (fVar 0) (fC (.int 0))) (fC (.str "both")))) X Y) [some (.tup [.str "from", K1, K0]), some td, none, none, none] S = Y [some (.tup [.str "from", K1, K0]), some td, none, none, none] S := by intro X Y; simp
  have c3 : (sRet (fLc false (fiL (fVar 3)) (gN 4) fYes (f2 gIx (fVar 2) (fVar 4)) [4])) [some (.tup [.str "from", K1, K0]), some td, some (.lst RL), some (.lst IP), none] S = .rt (.lst PK) S := by simp [wipeR, hc2]
  show RS.fin (sSeq _ _ [some (.tup [.str "from", K1, K0]), some td, none, none, none] S) = _
  rw [sSeq_ap, b1, sb_nx, sSeq_ap, b2, sb_nx, sSeq_ap, b3, sSeq_ap, c1, sb_nx, c2, sb_nx, c3]
  rfl
theorem parts_frmG {A B : Kd} (t : Tm) {n : Nat} {S : Store} (hk : Smk (.frm A B)) (t1 : Tab1 S) (h : (Kd.frm A B).dep + 8 ≤ n) : ev n .f_parts [(Kd.frm A B).d, t.d] S = .ok (.lst (prt (.frm A B) t)) S := by
  have h8 : sizeLine = 16777216 := rfl
  simp only [Kd.dep] at h
  obtain ⟨m, rfl⟩ : ∃ m, n = m + 2 := ⟨n - 2, by omega⟩
  have e1 := factors_gen (n := m + 1) (S := S) hk t1 (by omega)
  obtain ⟨d1, l1⟩ := hk.fdp
  have e2 := order_N (n := m + 1) (S := S) (L := (nf B).map (addW (nf A))) t1 (by omega) d1 (by omega)
  have ln : (ordN ((nf B).map (addW (nf A)))).length = (nf B).length := by rw [ordN_len]; simp
  have lB := hk.frmR.nfl
  have k1 : (Kd.frm A B).d = .tup [.str "from", A.d, B.d] := rfl
  have it : itR [.int ((nf B).length : Int)] S = .ok ((List.range' 0 (nf B).length).map fun (i : Nat) => D.int (i : Int), none) S := by
    rw [itR_n lB, ← rngD_nat]; rfl
  obtain ⟨z1, z2⟩ := zOf (resL A B t) (ordN ((nf B).map (addW (nf A))))
  have hc1 := compL_of (tg := gN 4) (tt := fYes) (te := fMk "Result" (ev m .f_Result___init__) (fCons (fVar 1) (fCons (fVar 0) (fCons (fVar 4) fNil)))) (ρ := [some (Kd.frm A B).d, some t.d, none, some (.lst (intsN (ordN ((nf B).map (addW (nf A)))))), none]) (S := S) (fun i : Nat => D.int (i : Int)) (resJ A B t) (List.range' 0 (nf B).length) [] (fun j hj => by
    have hj' : j < (nf B).length := by have := List.mem_range'_1.mp hj; omega
    have hf : (nf B)[j]? = some (facAt (nf B) j) := by simp [facAt, List.getElem?_eq_getElem hj']
    have e3 := mk_res_gen (n := m) (S := S) (t := t.d) hk hf t1 (by omega) (und_tm · t)
    refine ⟨[some (Kd.frm A B).d, some t.d, none, some (.lst (intsN (ordN ((nf B).map (addW (nf A)))))), some (.int (j : Int))], by simp, rfl, ?_⟩
    show fMk "Result" _ _ _ _ = .ok (resG A B t.d j (facAt (nf B) j) (ordN ((facAt (nf B) j).ws ++ nf A))) S
    generalize resG A B t.d j (facAt (nf B) j) (ordN ((facAt (nf B) j).ws ++ nf A)) = R at *
    generalize (Kd.frm A B).d = Kx at *
    generalize ((j : Nat) : Int) = jI at *
    simp [e3]) (by rw [h8]; simp; omega)
  have hc2 := comp_at (S := S) (k := 0) (ρ := [some (Kd.frm A B).d, some t.d, some (.lst (resL A B t)), some (.lst (intsN (ordN ((nf B).map (addW (nf A)))))), none]) (xs := resL A B t) (Z := (ordN ((nf B).map (addW (nf A)))).map fun j => (j, ((resL A B t)[j]?).getD D.non)) rfl rfl (zOf_at fun j hj => by rw [resL_len]; have := ordN_lt hj; simpa using this) (by rw [List.length_map, ln]; exact lB)
  rw [z1, z2] at hc2
  have hc1' : compL (gN 4) fYes (fMk "Result" (ev m .f_Result___init__) (fCons (fVar 1) (fCons (fVar 0) (fCons (fVar 4) fNil)))) none [some (Kd.frm A B).d, some t.d, none, some (.lst (intsN (ordN ((nf B).map (addW (nf A)))))), none] ((List.range' 0 (nf B).length).map fun i : Nat => D.int (i : Int)) [] S = .ok (resL A B t) S := by
    rw [hc1]; rfl
  have il : (intsN (ordN ((nf B).map (addW (nf A))))).length = (nf B).length := by simp [intsN, ln]
  rw [prt]
  rw [k1] at hc1' hc2 e1 ⊢
  exact parts_abs e1 e2 (by rw [il]; exact it) hc1' hc2
theorem parts_sim : ∀ (k : Kd) (t : Tm) {n : Nat} {S : Store}, Smk k → Tab1 S → k.dep + 8 ≤ n → ev n .f_parts [k.d, t.d] S = .ok (.lst (prt k t)) S
  | .base i, t, n, S, hk, t1, h => parts_b (und_tm _ _) (by omega)
  | .unit, t, n, S, hk, t1, h => parts_u (by omega)
  | .both a b, t, n, S, hk, t1, h => parts_bothG (parts_sim a) (parts_sim b) t hk t1 h
  | .frm A B, t, n, S, hk, t1, h => parts_frmG t hk t1 h
end
end Kz
namespace Kz
open PySem PySem.Spec PyProof.Rows L2 Kw
theorem cutL_takeT {α : Type} {ds : List α} {k : Nat} (h : k ≤ ds.length) : cutL ds none (some (k : Int)) = ds.take k := by
  have e1 : HT.sIx ds.length 0 none = 0 := rfl
  have e2 : HT.sIx ds.length ds.length (some (k : Int)) = min k ds.length := HT.sIx_nat _ _ _
  unfold cutL
  rw [e1, e2, Nat.min_eq_left h]
  simp
theorem cutL_dropT {α : Type} {ds : List α} {k : Nat} (h : k ≤ ds.length) : cutL ds (some (k : Int)) none = ds.drop k := by
  have e1 : HT.sIx ds.length 0 (some (k : Int)) = min k ds.length := HT.sIx_nat _ _ _
  have e2 : HT.sIx ds.length ds.length none = ds.length := rfl
  unfold cutL
  rw [e1, e2, Nat.min_eq_left h, List.take_of_length_le]
  simp
section
variable {n m : Nat} {S : Store}
theorem got_leaf {t : D} {d : Nat} {wl : List D} (h : 1 ≤ n) : gotR n (leafD t) d wl S = .ok t S := by
  unfold gotR
  rw [disp_leaf]
  simp only [List.lookup]
  have : (("Leaf" : Str) == "Leaf") = true := by decide
  simp only [this]
  exact Leaf_got_ok h
/-- asking one of the three -/
theorem got_me {p r : D} {d : Nat} {wl : List D} (h : gotR n p d wl S = .ok r S) : ∃ F : FF, disR [("Leaf", ev n .f_Leaf_got), ("Result", ev n .f_Result_got), ("Body", ev n .f_Body_got)] "got" p = some F ∧ F [p, .int (d : Int), .lst wl] S = .ok r S := by
  unfold gotR at h
  split at h
  · rename_i F hF; exact ⟨F, hF, h⟩
  · cases h
theorem got_of_me {p r : D} {d : Nat} {wl : List D} {F : FF} (h1 : disR [("Leaf", ev n .f_Leaf_got), ("Result", ev n .f_Result_got), ("Body", ev n .f_Body_got)] "got" p = some F) (h2 : F [p, .int (d : Int), .lst wl] S = .ok r S) : gotR n p d wl S = .ok r S := by
  unfold gotR
  rw [h1]; exact h2
theorem built_base_gen {i : _root_.Fin 8} {x p r : D} {d : Nat} (hx : gIx x (.int 0) S = .ok p S) (hg : gotR (m + 1) p d [] S = .ok r S) (hr : r.under S.length = true) : ev (m + 2) .f_built [(Kd.base i).d, x, .int (d : Int)] S = .ok r S := by
  have h8 : sizeLine = 16777216 := rfl
  obtain ⟨F, h1, h2⟩ := got_me hg
  have e : fnB 3 9 (b_built (ev (m + 1)) (ev m)) [(Kd.base i).d, x, .int (d : Int)] S = .ok r S := by
    rw [b_built]
    generalize ((d : Nat) : Int) = dI at *
    simp [Kd.d, hx, h1, h2, h8]
  rw [ev, fnC_ap, e]
  exact cut_same hr
theorem res_got {A B : Kd} {td gd r p : D} {i d : Nat} {f : Fac} {P : List Nat} {wl zs xs : List D} (h1 : ev m .f_put_back [.lst wl, .lst (intsN P)] S = .ok (.lst zs) S) (h2 : ev m .f_built [A.d, .lst (zs.drop f.ws.length), .int (d : Int)] S = .ok gd S) (h3 : ev m .f_parts [B.d, .tup [.str "do", td, gd]] S = .ok (.lst xs) S) (h4 : xs[i]? = some p) (h5 : gotR m p d (zs.take f.ws.length) S = .ok r S) (hl : f.ws.length ≤ zs.length) : ev (m + 1) .f_Result_got [resG A B td i f P, .int (d : Int), .lst wl] S = .ok r S := by
  have h8 : sizeLine = 16777216 := rfl
  obtain ⟨F, q1, q2⟩ := got_me h5
  have g1 : ∀ T : Store, gFld ["Leaf", "Result"] "term" (resG A B td i f P) T = .ok td T := fun T => gFld_at (by simp) (by simp [lookF])
  have g2 : ∀ T : Store, gFld ["Loose", "Result"] "kind" (resG A B td i f P) T = .ok (Kd.frm A B).d T := fun T => gFld_at (by simp) (by simp [lookF])
  have g3 : ∀ T : Store, gFld ["Result"] "place" (resG A B td i f P) T = .ok (.int (i : Int)) T := fun T => gFld_at (by simp) (by simp [lookF])
  have g4 : ∀ T : Store, gFld ["Result"] "factor" (resG A B td i f P) T = .ok (dF f) T := fun T => gFld_at (by simp) (by simp [lookF])
  have g5 : ∀ T : Store, gFld ["Result", "Body"] "order" (resG A B td i f P) T = .ok (.lst (intsN P)) T := fun T => gFld_at (by simp) (by simp [lookF])
  have k1 : (Kd.frm A B).d = .tup [.str "from", A.d, B.d] := rfl
  have f0 : gIx (dF f) (.int 0) S = .ok (.tup (dFL f.ws)) S := by cases f; simp [dF, Fac.ws]
  have ln : gLen [.tup (dFL f.ws)] S = .ok (.int (f.ws.length : Int)) S := by simp [dFL_len]
  rw [k1] at g2
  have c1 := cutL_dropT (ds := zs) hl
  have c2 := cutL_takeT (ds := zs) hl
  have ix : ixR xs (i : Int) S = .ok p S := by rw [ixR_nat, h4]
  rw [ev, fnB_3]
  have lw : (((dFL f.ws).length : Nat) : Int) = (f.ws.length : Int) := by rw [dFL_len]
  generalize resG A B td i f P = R at *
  generalize dFL f.ws = FW at *
  generalize dF f = F0 at *
  rw [← c1] at h2
  rw [← c2] at q2
  generalize ((f.ws.length : Nat) : Int) = many at *
  generalize ((d : Nat) : Int) = dI at *
  generalize ((i : Nat) : Int) = iI at *
  generalize A.d = K1 at *
  generalize B.d = K0 at *
  generalize intsN P = IP at *
  have s1 : (sSet 3 (fArg (ev m .f_put_back) (fCons (fVar 2) (fCons (f1 (gFld ["Result", "Body"] "order") (fVar 0)) fNil)))) [some R, some (.int dI), some (.lst wl), none, none, none] S = .nx [some R, some (.int dI), some (.lst wl), some (.lst zs), none, none] S := by simp [g5, h1]
  have s2 : (sSet 4 (fArg gLen (fCons (f2 gIx (f1 (gFld ["Result"] "factor") (fVar 0)) (fC (.int 0))) fNil))) [some R, some (.int dI), some (.lst wl), some (.lst zs), none, none] S = .nx [some R, some (.int dI), some (.lst wl), some (.lst zs), some (.int many), none] S := by simp [g4, f0, lw]
  unfold b_Result_got
  show RS.fin (sSeq _ _ [some R, some (.int dI), some (.lst wl), none, none, none] S) = _
  rw [sSeq_ap, s1, sb_nx, sSeq_ap, s2, sb_nx]
  simp [g1, g2, g3, h2, h3, ix, h8, q1, q2]
theorem body_got {p r : D} {P : List Nat} {tk wl : List D} {d : Nat} (hl : wl.length + tk.length ≤ 10000) (hP : ∀ j ∈ P, j < (wl ++ tk).length) (hPl : P.length ≤ 10000) (h5 : gotR m p d (pick (wl ++ tk) P) S = .ok r S) : ev (m + 1) .f_Body_got [bodG p P tk, .int (d : Int), .lst wl] S = .ok r S := by
  have h8 : sizeLine = 16777216 := rfl
  obtain ⟨F, q1, q2⟩ := got_me h5
  have g1 : ∀ T : Store, gFld ["Body"] "part" (bodG p P tk) T = .ok p T := fun T => gFld_at (by simp) (by simp [lookF])
  have g2 : ∀ T : Store, gFld ["Result", "Body"] "order" (bodG p P tk) T = .ok (.lst (intsN P)) T := fun T => gFld_at (by simp) (by simp [lookF])
  have g3 : ∀ T : Store, gFld ["Body"] "taken" (bodG p P tk) T = .ok (.lst tk) T := fun T => gFld_at (by simp) (by simp [lookF])
  generalize bodG p P tk = B at *
  have hc := compL_of (tg := gN 4) (tt := fYes) (te := f2 gIx (fVar 3) (fVar 4)) (ρ := [some B, some (.int (d : Int)), some (.lst wl), some (.lst (wl ++ tk)), none]) (S := S) (fun j : Nat => D.int (j : Int)) (fun j => ((wl ++ tk)[j]?).getD .non) P [] (fun j hj => ⟨[some B, some (.int (d : Int)), some (.lst wl), some (.lst (wl ++ tk)), some (.int (j : Int))], by simp, rfl, by
    have hj' := hP j hj
    have e3 : ixR (wl ++ tk) (j : Int) S = .ok (((wl ++ tk)[j]?).getD .non) S := by rw [ixR_nat, List.getElem?_eq_getElem hj']; rfl
    generalize wl ++ tk = zs at *
    generalize ((j : Nat) : Int) = jI at *
    simp [e3]⟩) (by rw [h8]; simp; omega)
  have hc' : compL (gN 4) fYes (f2 gIx (fVar 3) (fVar 4)) none [some B, some (.int (d : Int)), some (.lst wl), some (.lst (wl ++ tk)), none] (intsN P) [] S = .ok (pick (wl ++ tk) P) S := hc
  have l1 : wl.length + tk.length ≤ 16777216 := by omega
  rw [ev, fnB_3]
  generalize pick (wl ++ tk) P = PK at *
  generalize intsN P = IP at *
  generalize ((d : Nat) : Int) = dI at *
  have s1 : (sSet 3 (f2 (gAdd false) (fVar 2) (f1 (gFld ["Body"] "taken") (fVar 0)))) [some B, some (.int dI), some (.lst wl), none, none] S = .nx [some B, some (.int dI), some (.lst wl), some (.lst (wl ++ tk)), none] S := by simp [g3, h8, l1]
  unfold b_Body_got
  show RS.fin (sSeq _ _ [some B, some (.int dI), some (.lst wl), none, none] S) = _
  rw [sSeq_ap, s1, sb_nx]
  generalize wl ++ tk = zs at *
  simp [g1, g2, wipeR, hc', q1, q2]
end
end Kz
namespace Kz
open PySem PySem.Spec PyProof.Rows L2 Kw
noncomputable def bods (A : Kd) (tk : List D) : List D → List Fac → List D
  | p :: bs, f :: L => bodG p (ordN (f.ws ++ nf A)) tk :: bods A tk bs L
  | _, _ => []
section
variable {n m : Nat} {S : Store}
theorem und_ints (P : List Nat) (q : Nat) : underL q (intsN P) = true := by
  unfold intsN
  induction P with
  | nil => rfl
  | cons p P ih => simp only [List.map_cons, underL, D.under, ih, Bool.and_self]
theorem body_loop {m : Nat} {A B : Kd} {tk : List D} (hk : Smk (.frm A B)) (t1 : Tab1 S) (hm : 1 ≤ m) (ut : ∀ q, underL q tk = true) {x0 x1 x2 x4 : Option D} : ∀ (bs : List D) (L : List Fac) (acc : List D) (x7 x8 : Option D), bs.length = L.length → (∀ f ∈ L, f ∈ nf B) → (∀ p ∈ bs, ∀ q, p.under q = true) → acc.length + L.length ≤ 2000 →
    ∃ y7 y8, forL (gTu 2 (gsCons (gN 7) (gsCons (gN 8) gsNil))) (l_built_0 (ev (m + 1)) (ev m)) none (zipD bs (dFL L)) [x0, x1, x2, some (.lst (dFL (nf A))), x4, some (.lst tk), some (.loc S.length), x7, x8] (S ++ [.lst acc]) = .nx [x0, x1, x2, some (.lst (dFL (nf A))), x4, some (.lst tk), some (.loc S.length), y7, y8] (S ++ [.lst (acc ++ bods A tk bs L)])
  | [], [], acc, x7, x8, _, _, _, _ => ⟨x7, x8, by
      have : zipD [] (dFL []) = [] := rfl
      rw [this, forL_nil]; simp [bods]⟩
  | [], _ :: _, _, _, _, h, _, _, _ => by simp at h
  | _ :: _, [], _, _, _, h, _, _, _ => by simp at h
  | p :: bs, f :: L, acc, x7, x8, hl, hL, hu, hc => by
    have h8 : sizeLine = 16777216 := rfl
    have hf := hL f List.mem_cons_self
    obtain ⟨w1, w2⟩ := hk.want hf
    simp only [List.length_cons] at hl hc
    obtain ⟨y7, y8, e⟩ := body_loop hk t1 hm ut (x0 := x0) (x1 := x1) (x2 := x2) (x4 := x4) bs L (acc ++ [bodG p (ordN (f.ws ++ nf A)) tk]) (some p) (some (dF f)) (by omega) (fun g hg => hL g (List.mem_cons_of_mem _ hg)) (fun r hr => hu r (List.mem_cons_of_mem _ hr)) (by simp; omega)
    refine ⟨y7, y8, ?_⟩
    have ew := wants_F (n := m + 1) (S := S ++ [.lst acc]) (f := f) (A := nf A) (by omega) (by omega)
    have eo := order_N (n := m + 1) (S := S ++ [.lst acc]) (L := f.ws ++ nf A) (tab_app t1) (by omega) w2 (by simp; omega)
    have up := hu p List.mem_cons_self
    have mb := mk_body (n := m) (S := S ++ [.lst acc]) (p := p) (o := .lst (intsN (ordN (f.ws ++ nf A)))) (k := .lst tk) hm (by simp only [underL, D.under, up, und_ints, ut, Bool.and_self])
    have hz : zipD (p :: bs) (dFL (f :: L)) = .tup [p, dF f] :: zipD bs (dFL L) := rfl
    have hr : acc ++ [bodG p (ordN (f.ws ++ nf A)) tk] ++ bods A tk bs L = acc ++ bods A tk (p :: bs) (f :: L) := by simp [bods]
    have bd : bodG p (ordN (f.ws ++ nf A)) tk = .ins "Body" ["part", "order", "taken"] [p, .lst (intsN (ordN (f.ws ++ nf A))), .lst tk] := rfl
    rw [← hr, hz, forL_cons, ← e, bd]
    generalize bods A tk bs L = R at *
    generalize intsN (ordN (f.ws ++ nf A)) = IP at *
    generalize dFL (f.ws ++ nf A) = F2 at *
    generalize dFL (nf A) = FA at *
    generalize dFL L = FL at *
    generalize dF f = fd at *
    have tg : gTu 2 (gsCons (gN 7) (gsCons (gN 8) gsNil)) (.tup [p, fd]) [x0, x1, x2, some (.lst FA), x4, some (.lst tk), some (.loc S.length), x7, x8] (S ++ [.lst acc]) = some ([x0, x1, x2, some (.lst FA), x4, some (.lst tk), some (.loc S.length), some p, some fd], S ++ [.lst acc]) := rfl
    have hm2 : mthR gAppend (fCons (fMk "Body" (ev m .f_Body___init__) (fCons (fVar 7) (fCons (fArg (ev (m + 1) .f_order_of) (fCons (fArg (ev (m + 1) .f_wants_with) (fCons (fVar 8) (fCons (fVar 3) fNil))) fNil)) (fCons (fVar 5) fNil)))) fNil) [x0, x1, x2, some (.lst FA), x4, some (.lst tk), some (.loc S.length), some p, some fd] (.loc S.length) (S ++ [.lst acc]) = .ok .non (S ++ [.lst (acc ++ [.ins "Body" ["part", "order", "taken"] [p, .lst IP, .lst tk]])]) := by
      rw [mthR_loc cellOf_app]
      have hp := gAppend_loc (n := S.length) (S := S ++ [.lst acc]) (xs := acc) (d := .ins "Body" ["part", "order", "taken"] [p, .lst IP, .lst tk]) cellM_app (by rw [h8]; omega)
      simp [ew, eo, mb, hp]
    rw [tg, tgR_some]
    have st : l_built_0 (ev (m + 1)) (ev m) [x0, x1, x2, some (.lst FA), x4, some (.lst tk), some (.loc S.length), some p, some fd] (S ++ [.lst acc]) = .nx [x0, x1, x2, some (.lst FA), x4, some (.lst tk), some (.loc S.length), some p, some fd] (S ++ [.lst (acc ++ [.ins "Body" ["part", "order", "taken"] [p, .lst IP, .lst tk]])]) := by
      unfold l_built_0
      simp [hm2]
    rw [st, loopR_nx]
theorem built_frm {A B : Kd} {x : D} {d : Nat} {bs tk : List D} {t : Tm} (hk : Smk (.frm A B)) (t1 : Tab1 S) (hn : max A.dep B.dep + 6 ≤ m + 2) (hl : bs.length = (nf B).length) (hu : ∀ p ∈ bs, ∀ q, p.under q = true) (ut : ∀ q, underL q tk = true)
    (h3 : ev (m + 1) .f_put_back [x, .lst (intsN (ordN ((nf B).map (addW (nf A)))))] S = .ok (.lst bs) S) (h5 : ev (m + 1) .f_parts [A.d, .tup [.str "given", .int (d : Int)]] S = .ok (.lst tk) S)
    (hb : ev (m + 1) .f_built [B.d, .loc S.length, .int ((d + 1 : Nat) : Int)] (S ++ [.lst (bods A tk bs (nf B))]) = .ok t.d (S ++ [.lst (bods A tk bs (nf B))])) : ev (m + 2) .f_built [(Kd.frm A B).d, x, .int (d : Int)] S = .ok (Tm.mk A t).d S := by
  have h8 : sizeLine = 16777216 := rfl
  have p1 := pl_k (n := m + 1) (k := A) t1 hk.frmL (by omega)
  have p0 := fun c => pl_k (n := m + 1) (k := B) (S := S ++ [c]) (tab_app t1) hk.frmR (by omega)
  have f1 := factors_gen (n := m + 1) (S := S) hk t1 (by omega)
  obtain ⟨d1, l1⟩ := hk.fdp
  have o1 := order_N (n := m + 1) (S := S) (L := (nf B).map (addW (nf A))) t1 (by omega) d1 (by omega)
  have k1 : (Kd.frm A B).d = .tup [.str "from", A.d, B.d] := rfl
  have mt : (Tm.mk A t).d = .tup [.str "make", A.d, t.d] := rfl
  obtain ⟨y7, y8, lp⟩ := body_loop (m := m) hk t1 (by omega) ut (x0 := some (Kd.frm A B).d) (x1 := some x) (x2 := some (.int (d : Int))) (x4 := some (.lst bs)) bs (nf B) [] none none hl (fun f hf => hf) hu (by have := hk.frmR.nfl; simp; omega)
  have dd : ((d + 1 : Nat) : Int) = (d : Int) + 1 := rfl
  rw [dd] at hb
  simp only [List.nil_append] at lp
  have e : fnB 3 9 (b_built (ev (m + 1)) (ev m)) [(Kd.frm A B).d, x, .int (d : Int)] S = .ok (Tm.mk A t).d (S ++ [.lst (bods A tk bs (nf B))]) := by
    rw [mt, fnB_3]
    rw [k1] at lp f1 ⊢
    generalize bods A tk bs (nf B) = BO at *
    generalize intsN (ordN ((nf B).map (addW (nf A)))) = IP at *
    generalize dFL ((nf B).map (addW (nf A))) = FF at *
    generalize dFL (nf A) = FA at *
    generalize dFL (nf B) = FB at *
    generalize A.d = K1 at *
    generalize B.d = K0 at *
    generalize t.d = td at *
    generalize ((d : Nat) : Int) = dI at *
    have zi : fiZ (fCons (fVar 4) (fCons (fArg (ev (m + 1) .f_plain_form) (fCons (f2 gIx (fVar 0) (fC (.int 2))) fNil)) fNil)) [some (.tup [.str "from", K1, K0]), some x, some (.int dI), some (.lst FA), some (.lst bs), some (.lst tk), some (.loc S.length), none, none] (S ++ [.lst []]) = .ok (zipD bs FB, none) (S ++ [.lst []]) := by
      have := p0 (.lst [])
      unfold fiZ
      simp [this]
      rfl
    have c1 : (sSet 3 (fArg (ev (m + 1) .f_plain_form) (fCons (f2 gIx (fVar 0) (fC (.int 1))) fNil))) [some (.tup [.str "from", K1, K0]), some x, some (.int dI), none, none, none, none, none, none] S = .nx [some (.tup [.str "from", K1, K0]), some x, some (.int dI), some (.lst FA), none, none, none, none, none] S := by simp [p1]
    have c2 : (sSet 4 (fArg (ev (m + 1) .f_put_back) (fCons (fVar 1) (fCons (fArg (ev (m + 1) .f_order_of) (fCons (fArg (ev (m + 1) .f_factors_from) (fCons (fVar 0) fNil)) fNil)) fNil)))) [some (.tup [.str "from", K1, K0]), some x, some (.int dI), some (.lst FA), none, none, none, none, none] S = .nx [some (.tup [.str "from", K1, K0]), some x, some (.int dI), some (.lst FA), some (.lst bs), none, none, none, none] S := by simp [f1, o1, h3]
    have c3 : (sSet 5 (fArg (ev (m + 1) .f_parts) (fCons (f2 gIx (fVar 0) (fC (.int 1))) (fCons (fArg mkTup (fCons (fC (.str "given")) (fCons (fVar 2) fNil))) fNil)))) [some (.tup [.str "from", K1, K0]), some x, some (.int dI), some (.lst FA), some (.lst bs), none, none, none, none] S = .nx [some (.tup [.str "from", K1, K0]), some x, some (.int dI), some (.lst FA), some (.lst bs), some (.lst tk), none, none, none] S := by simp [h5, h8]
    have b0 : ∀ (w : String) (X Y : FS), w ∈ ["base", "unit", "both"] → (sIf (fB (f2 gEq (f2 gIx (fVar 0) (fC (.int 0))) (fC (.str w)))) X Y) [some (.tup [.str "from", K1, K0]), some x, some (.int dI), none, none, none, none, none, none] S = Y [some (.tup [.str "from", K1, K0]), some x, some (.int dI), none, none, none, none, none, none] S := by
      intro w X Y hw
      simp only [List.mem_cons, List.not_mem_nil, or_false] at hw
      rcases hw with rfl | rfl | rfl <;> simp
    have nl : ∀ (ρ : FEnv) (T : Store), sNil ρ T = .nx ρ T := fun _ _ => rfl
    unfold b_built
    show RS.fin (sSeq _ _ [some (.tup [.str "from", K1, K0]), some x, some (.int dI), none, none, none, none, none, none] S) = _
    rw [sSeq_ap, b0 "base" _ _ (by simp), nl, sb_nx, sSeq_ap, b0 "unit" _ _ (by simp), nl, sb_nx, sSeq_ap, b0 "both" _ _ (by simp), nl, sb_nx, sSeq_ap, c1, sb_nx, sSeq_ap, c2, sb_nx, sSeq_ap, c3, sb_nx]
    simp [zi, lp, hb, h8]
  rw [ev, fnC_ap, e]
  exact cut_ok _ (und_tm _ _)
end
end Kz
namespace Kz
open PySem PySem.Spec PyProof.Rows L2 Kw
def At (q : Nat) : Fac → List Kd → Nat → Nat → Nat → D → Prop
  | .mk ws b, Γ, N, u, c, p => (∀ r, p.under r = true) ∧ ∀ (M G : Nat) (wl : List D), Fits q ws Γ M G wl → ∃ t : Tm, tkd Γ t = some (.base b) ∧ kdsT q t ∧ t.ht ≤ max u (c + G) ∧ ∀ (n : Nat) (S : Store), Tab1 S → N + M ≤ n → gotR n p Γ.length wl S = .ok t.d S
def Ats (q : Nat) (L : List Fac) (Γ : List Kd) (N u c : Nat) (xs : List D) : Prop := xs.length = L.length ∧ ∀ (i : Nat) f x, L[i]? = some f → xs[i]? = some x → At q f Γ N u c x
section
variable {q : Nat}
theorem fit_of_at {f : Fac} {Γ : List Kd} {N u c H : Nat} {p : D} (h : ∀ Δ, At q f (Γ ++ Δ) N u c p) (hu : u ≤ H) (hc : c ≤ H) : Fit q f Γ N H p := by
  cases f with
  | mk ws b =>
    rw [Fit]
    refine ⟨(h []).1, fun Δ M G wl hw => ?_⟩
    obtain ⟨t, h1, h2, h4, h3⟩ := (h Δ).2 M G wl hw
    exact ⟨t, h1, h2, by omega, h3⟩
theorem fits_of_ats {L : List Fac} {Γ : List Kd} {N u c H : Nat} {xs : List D} (h : ∀ Δ, Ats q L (Γ ++ Δ) N u c xs) (hu : u ≤ H) (hc : c ≤ H) : Fits q L Γ N H xs :=
  fits_iff.mpr ⟨(h []).1, fun i f x hf hx => fit_of_at (fun Δ => (h Δ).2 i f x hf hx) hu hc⟩
theorem At.mono {f : Fac} {Γ : List Kd} {N N' u u' c c' : Nat} {p : D} (h : At q f Γ N u c p) (hn : N ≤ N') (hu : u ≤ u') (hc : c ≤ c') : At q f Γ N' u' c' p := by
  cases f with
  | mk ws b =>
    refine ⟨h.1, fun M G wl hw => ?_⟩
    obtain ⟨t, h1, h2, h4, h3⟩ := h.2 M G wl hw
    exact ⟨t, h1, h2, by omega, fun n S t1 hm => h3 n S t1 (by omega)⟩
theorem Ats.mono {L : List Fac} {Γ : List Kd} {N N' u u' c c' : Nat} {xs : List D} (h : Ats q L Γ N u c xs) (hn : N ≤ N') (hu : u ≤ u') (hc : c ≤ c') : Ats q L Γ N' u' c' xs := ⟨h.1, fun i f x hf hx => (h.2 i f x hf hx).mono hn hu hc⟩
theorem Ats.app {L M : List Fac} {Γ : List Kd} {N u c : Nat} {xs ys : List D} (h : Ats q L Γ N u c xs) (k : Ats q M Γ N u c ys) : Ats q (L ++ M) Γ N u c (xs ++ ys) := by
  obtain ⟨l, h⟩ := h
  obtain ⟨l', k⟩ := k
  refine ⟨by simp [l, l'], fun i f x hf hx => ?_⟩
  rcases Nat.lt_or_ge i L.length with hi | hi
  · rw [List.getElem?_append_left hi] at hf
    rw [List.getElem?_append_left (by omega)] at hx
    exact h i f x hf hx
  · rw [List.getElem?_append_right hi] at hf
    rw [List.getElem?_append_right (by omega), l] at hx
    exact k _ f x hf hx
theorem Ats.pick {L : List Fac} {Γ : List Kd} {N u c : Nat} {xs : List D} (h : Ats q L Γ N u c xs) : Ats q (sortF L) Γ N u c (pick xs (ordN L)) := by
  obtain ⟨l, h⟩ := h
  refine ⟨by rw [pick_len, ordN_len, (sortF_perm L).length_eq], fun i f x hf hx => ?_⟩
  unfold Kz.pick at hx
  rw [List.getElem?_map] at hx
  cases hp : (ordN L)[i]? with
  | none => rw [hp] at hx; cases hx
  | some j =>
    rw [hp] at hx
    have hj : j < xs.length := by rw [l]; exact ordN_lt (List.mem_of_getElem? hp)
    rw [ordN_at hp] at hf
    have hxj : xs[j]? = some x := by
      rw [List.getElem?_eq_getElem hj]
      simpa [List.getElem?_eq_getElem hj] using hx
    exact h j f x hf hxj
/-- what is asked of a kind's parts -/
def PartsOk (q : Nat) (k : Kd) : Prop := ∀ (Γ : List Kd) (t : Tm), tkd Γ t = some k → kdsT q t → Ats q (nf k) Γ (4 * k.sz) (t.ht + k.sz) (2 * k.sz) (prt k t)
/-- what is asked of what is built -/
def BuiltOk (q : Nat) (k : Kd) : Prop := ∀ (Γ : List Kd) (xs : List D) (M G : Nat), Fits q (nf k) Γ M G xs → ∃ t : Tm, tkd Γ t = some k ∧ kdsT q t ∧ t.ht ≤ 2 * k.sz + G ∧ ∀ (n : Nat) (S : Store) (x : D), Tab1 S → Lx S x xs → 4 * k.sz + 4 + M ≤ n → ev n .f_built [k.d, x, .int (Γ.length : Int)] S = .ok t.d S
theorem disp_resG {A B : Kd} {t : D} {i : Nat} {f : Fac} {P : List Nat} {L : List (Str × FF)} : disR L "got" (resG A B t i f P) = L.lookup ("Result" : Str) := by
  unfold resG; simp [disR]
theorem disp_bodG {p : D} {P : List Nat} {tk : List D} {L : List (Str × FF)} : disR L "got" (bodG p P tk) = L.lookup ("Body" : Str) := by
  unfold bodG; simp [disR]
theorem parts_leaf {i : _root_.Fin 8} : PartsOk q (.base i) := by
  intro Γ t h kt
  refine ⟨rfl, fun j f x hf hx => ?_⟩
  have hj : j = 0 := by
    have := (List.getElem?_eq_some_iff.mp hf).1
    simpa [nf] using this
  subst hj
  have e1 : f = .mk [] i := by
    have : (nf (.base i))[0]? = some (.mk [] i) := rfl
    rw [this] at hf; exact (Option.some.inj hf).symm
  have e2 : x = leafD t.d := by
    have : (prt (.base i) t)[0]? = some (leafD t.d) := rfl
    rw [this] at hx; exact (Option.some.inj hx).symm
  subst e1 e2
  exact ⟨fun r => und_leaf (und_tm _ _), fun M G wl hw => ⟨t, h, kt, by omega, fun n S t1 hm => got_leaf (by simp only [Kd.sz] at hm; omega)⟩⟩
theorem at_res {A B : Kd} {t : Tm} {i : Nat} {f : Fac} {Γ : List Kd} (hA : BuiltOk q A) (hB : PartsOk q B) (hk : Smk (.frm A B)) (hi : (nf B)[i]? = some f) (ht : tkd Γ t = some (.frm A B)) (kt : kdsT q t) : At q (addW (nf A) f) Γ (4 * (Kd.frm A B).sz) (t.ht + (Kd.frm A B).sz) (2 * (Kd.frm A B).sz) (resG A B t.d i f (ordN (f.ws ++ nf A))) := by
  have hsz : (Kd.frm A B).sz = A.sz + B.sz + 1 := rfl
  have pA := A.sz_pos
  have pB := B.sz_pos
  have dB := dep_sz B
  show At q (.mk (sortF (f.ws ++ nf A)) f.b) Γ _ _ _ _
  refine ⟨fun r => by simp [resG, D.under, underL, und_tm, und_F, und_ints], fun M G wl hw => ?_⟩
  have hz := hw.put
  have hr := hz.right
  have hlf := hz.left
  have zl := hz.len
  have wlen := hw.len
  rw [(sortF_perm _).length_eq] at wlen
  obtain ⟨g, g1, g2, g4, g3⟩ := hA Γ _ M G hr
  have hap : tkd Γ (.app t g) = some B := by simp [tkd, ht, g1]
  obtain ⟨pl, pa⟩ := hB Γ (.app t g) hap ⟨kt, g2⟩
  have il : i < (prt B (.app t g)).length := by rw [pl]; exact (List.getElem?_eq_some_iff.mp hi).1
  have hx : (prt B (.app t g))[i]? = some ((prt B (.app t g))[i]) := List.getElem?_eq_getElem il
  generalize (prt B (.app t g))[i] = p at hx
  have at_ := pa i f p hi hx
  cases f with
  | mk ws b =>
    obtain ⟨r, r1, r2, r4, r3⟩ := at_.2 M G _ hlf
    simp only [Tm.ht] at r4
    refine ⟨r, r1, r2, by rw [hsz]; omega, fun n S t1 hn => ?_⟩
    obtain ⟨m, rfl⟩ : ∃ m, n = m + 1 := ⟨n - 1, by omega⟩
    refine got_of_me (F := ev (m + 1) .f_Result_got) (by rw [disp_resG]; simp [List.lookup]) ?_
    have h1 := put_gen (n := m) (S := S) (x := .lst wl) (xs := wl) (P := ordN (ws ++ nf A)) (by omega) (.inl rfl) (by rw [ordN_len]; exact wlen) (fun j hj => by have := ordN_lt hj; simp only [Fac.ws] at wlen; omega) (hz.und _)
    have h2 := g3 m S _ t1 (.inl rfl) (by omega)
    have h3 := parts_sim B (.app t g) (n := m) (S := S) hk.frmR t1 (by omega)
    exact res_got (f := .mk ws b) h1 h2 h3 hx (r3 m S t1 (by omega)) (by have z := zl; simp only [Fac.ws] at z ⊢; rw [z]; simp)
theorem bods_len {A : Kd} {tk : List D} : ∀ {bs : List D} {L : List Fac}, bs.length = L.length → (bods A tk bs L).length = L.length
  | [], [], _ => rfl
  | [], _ :: _, h => by simp at h
  | _ :: _, [], h => by simp at h
  | p :: bs, f :: L, h => by simp [bods, bods_len (bs := bs) (L := L) (by simpa using h)]
theorem bods_at {A : Kd} {tk : List D} : ∀ {bs : List D} {L : List Fac} {i : Nat} {p : D} {f : Fac}, bs[i]? = some p → L[i]? = some f → (bods A tk bs L)[i]? = some (bodG p (ordN (f.ws ++ nf A)) tk)
  | [], _, _, _, _, h, _ => by simp at h
  | _ :: _, [], _, _, _, _, h => by simp at h
  | p :: bs, f :: L, 0, _, _, h, k => by simp at h k; subst h k; simp [bods]
  | p :: bs, f :: L, i + 1, _, _, h, k => by
    simp at h k
    have := bods_at (A := A) (tk := tk) h k
    simp [bods, this]
end
end Kz
namespace Kz
open PySem PySem.Spec PyProof.Rows L2 Kw
section
variable {q : Nat}
theorem built_base_ok {i : _root_.Fin 8} : BuiltOk q (.base i) := by
  intro Γ xs M G h
  have hn : nf (.base i) = [.mk [] i] := rfl
  rw [hn, Fits] at h
  obtain ⟨p, r, rfl, hp, hr⟩ := h
  rw [Fits] at hr
  subst hr
  rw [Fit] at hp
  obtain ⟨t, h1, h2, h4, h3⟩ := hp.2 [] 0 0 [] (by rw [Fits])
  rw [List.append_nil] at h1 h3
  refine ⟨t, h1, h2, by omega, fun n S x t1 hx hm => ?_⟩
  simp only [Kd.sz] at hm
  obtain ⟨m, rfl⟩ : ∃ m, n = m + 2 := ⟨n - 2, by omega⟩
  have g0 := hx.ix 0 (d := p) rfl
  exact built_base_gen (m := m) (S := S) g0 (h3 (m + 1) S t1 (by omega)) (und_tm _ _)
theorem built_unit_ok : BuiltOk q .unit := by
  intro Γ xs M G h
  refine ⟨.unit, rfl, trivial, Nat.zero_le _, fun n S x t1 hx hm => ?_⟩
  exact built_u (by omega)
theorem parts_unit_ok : PartsOk q .unit := by
  intro Γ t h kt
  exact ⟨rfl, fun j f x hf hx => by simp [nf] at hf⟩
theorem parts_both_ok {a b : Kd} (ha : PartsOk q a) (hb : PartsOk q b) : PartsOk q (.both a b) := by
  intro Γ t h kt
  have h1 : tkd Γ (.fst t) = some a := by simp [tkd, h]
  have h2 : tkd Γ (.snd t) = some b := by simp [tkd, h]
  have e1 := (ha Γ (.fst t) h1 kt).mono (N' := 4 * (Kd.both a b).sz) (u' := t.ht + (Kd.both a b).sz) (c' := 2 * (Kd.both a b).sz) (by simp only [Kd.sz]; omega) (by simp only [Kd.sz, Tm.ht]; omega) (by simp only [Kd.sz]; omega)
  have e2 := (hb Γ (.snd t) h2 kt).mono (N' := 4 * (Kd.both a b).sz) (u' := t.ht + (Kd.both a b).sz) (c' := 2 * (Kd.both a b).sz) (by simp only [Kd.sz]; omega) (by simp only [Kd.sz, Tm.ht]; omega) (by simp only [Kd.sz]; omega)
  exact (e1.app e2).pick
theorem built_both_ok {a b : Kd} (hk : Smk (.both a b)) (ha : BuiltOk q a) (hb : BuiltOk q b) : BuiltOk q (.both a b) := by
  intro Γ xs M G h
  have hs : nf (.both a b) = sortF (nf a ++ nf b) := rfl
  rw [hs] at h
  have hz := h.put
  have xl := h.len
  rw [(sortF_perm _).length_eq] at xl
  have zl := hz.len
  obtain ⟨u, u1, u2, u4, u3⟩ := ha Γ _ M G hz.left
  obtain ⟨v, v1, v2, v4, v3⟩ := hb Γ _ M G hz.right
  have pa := a.sz_pos
  have pb := b.sz_pos
  have da := dep_sz a
  have db := dep_sz b
  refine ⟨.both u v, by simp [tkd, u1, v1], ⟨u2, v2⟩, by simp only [Tm.ht, Kd.sz]; omega, fun n S x t1 hx hm => ?_⟩
  simp only [Kd.sz] at hm
  obtain ⟨m, rfl⟩ : ∃ m, n = m + 2 := ⟨n - 2, by omega⟩
  have f1 := pl_k (n := m + 1) (k := a) t1 hk.bothL (by omega)
  have f2 := pl_k (n := m + 1) (k := b) t1 hk.bothR (by omega)
  have d1 := hk.bothL.dp
  have d2 := hk.bothR.dp
  have l1 := hk.bothL.nfl
  have l2 := hk.bothR.nfl
  have s1 := (nf_ok a).2.1
  have s2 := (nf_ok b).2.1
  have sz := hk.sz
  simp only [Kd.sz] at sz
  have o1 := order_N (n := m + 1) (S := S) (L := nf a ++ nf b) t1 (by omega) (by rw [dpL_app]; omega) (by simp; omega)
  rw [dFL_app] at o1
  have b1 := put_gen (n := m + 1) (S := S) (x := x) (xs := xs) (P := ordN (nf a ++ nf b)) (by omega) hx (by rw [ordN_len]; exact xl) (fun j hj => by rw [xl]; exact ordN_lt hj) (hz.und _)
  have hle : (nf a).length ≤ (putB xs (ordN (nf a ++ nf b))).length := by rw [zl]; simp
  have w1 := u3 (m + 1) S _ t1 (.inl rfl) (by omega)
  have w2 := v3 (m + 1) S _ t1 (.inl rfl) (by omega)
  rw [← cutL_takeT hle, ← dFL_len (nf a)] at w1
  rw [← cutL_dropT hle, ← dFL_len (nf a)] at w2
  exact built_both (m := m) (S := S) (a := a) (c := b) (d := Γ.length) (by omega) f1 f2 o1 b1 w1 w2 (und_tm _ _) (und_tm _ _) (by rw [dFL_len, dFL_len]; omega)
theorem parts_frm_ok {A B : Kd} (hk : Smk (.frm A B)) (hA : BuiltOk q A) (hB : PartsOk q B) : PartsOk q (.frm A B) := by
  intro Γ t h kt
  have e : Ats q ((nf B).map (addW (nf A))) Γ (4 * (Kd.frm A B).sz) (t.ht + (Kd.frm A B).sz) (2 * (Kd.frm A B).sz) (resL A B t) := by
    refine ⟨by rw [resL_len]; simp, fun i f x hf hx => ?_⟩
    rw [List.getElem?_map] at hf
    cases hg : (nf B)[i]? with
    | none => rw [hg] at hf; cases hf
    | some g =>
      rw [hg] at hf
      cases hf
      rw [resL_at hg] at hx
      cases hx
      exact at_res hA hB hk hg h kt
  exact e.pick
theorem tkd_giv {Γ Δ : List Kd} {A : Kd} : tkd ((Γ ++ [A]) ++ Δ) (.giv Γ.length) = some A := by simp [tkd]
theorem built_frm_ok {A B : Kd} (hk : Smk (.frm A B)) (hq : A.dep ≤ q ∧ A.sz ≤ 2000000) (hA : PartsOk q A) (hB : BuiltOk q B) : BuiltOk q (.frm A B) := by
  intro Γ xs M G h
  have hs : nf (.frm A B) = sortF ((nf B).map (addW (nf A))) := rfl
  rw [hs] at h
  have hz := h.put
  have xl := h.len
  rw [(sortF_perm _).length_eq] at xl
  have zl := hz.len
  have pA := A.sz_pos
  have pB := B.sz_pos
  have dA := dep_sz A
  have dB := dep_sz B
  generalize hbs : putB xs (ordN ((nf B).map (addW (nf A)))) = bs at *
  have bl : bs.length = (nf B).length := by rw [zl]; simp
  have hu := hz.und
  have tkF : ∀ Δ, Fits q (nf A) ((Γ ++ [A]) ++ Δ) (4 * A.sz) (2 * A.sz) (prt A (.giv Γ.length)) := fun Δ => fits_of_ats (u := (Tm.giv Γ.length).ht + A.sz) (c := 2 * A.sz) (fun Δ' => by
    rw [List.append_assoc]
    exact hA _ _ tkd_giv trivial) (by simp only [Tm.ht]; omega) (by omega)
  have tkU : ∀ r, underL r (prt A (.giv Γ.length)) = true := (tkF []).und
  have hmem : ∀ p ∈ bs, ∀ r, p.under r = true := by
    intro p hp r
    obtain ⟨i, hi⟩ := List.mem_iff_getElem?.mp hp
    have hil := (List.getElem?_eq_some_iff.mp hi).1
    have hf : ((nf B).map (addW (nf A)))[i]? = some (((nf B).map (addW (nf A)))[i]'(by rw [← zl]; exact hil)) := List.getElem?_eq_getElem _
    exact ((fits_iff.mp hz).2 i _ p hf hi).und r
  have bF : Fits q (nf B) (Γ ++ [A]) (M + 4 * A.sz + 1) (G + 2 * A.sz) (bods A (prt A (.giv Γ.length)) bs (nf B)) := by
    refine fits_iff.mpr ⟨bods_len bl, fun i f x hf hx => ?_⟩
    have hil : i < bs.length := by rw [bl]; exact (List.getElem?_eq_some_iff.mp hf).1
    have hp : bs[i]? = some bs[i] := List.getElem?_eq_getElem hil
    have hpm : bs[i] ∈ bs := List.getElem_mem hil
    generalize bs[i] = p at hp hpm
    rw [bods_at hp hf] at hx
    cases hx
    have pf := (fits_iff.mp hz).2 i (addW (nf A) f) p (by rw [List.getElem?_map, hf]; rfl) hp
    have wf := hk.want (List.mem_of_getElem? hf)
    have up := hmem p hpm
    cases f with
    | mk ws b =>
      have ea : addW (nf A) (.mk ws b) = .mk (sortF (ws ++ nf A)) b := rfl
      rw [ea, Fit] at pf
      rw [Fit]
      refine ⟨fun r => by simp [bodG, D.under, underL, up, und_ints, tkU], fun Δ K J wl hw => ?_⟩
      have e1 := hw.mono (N' := max K (4 * A.sz)) (H' := max J (2 * A.sz)) (by omega) (by omega)
      have e2 := (tkF Δ).mono (N' := max K (4 * A.sz)) (H' := max J (2 * A.sz)) (by omega) (by omega)
      have e3 := (e1.app e2).pick
      have wl_ := hw.len
      have tl := (tkF Δ).len
      obtain ⟨t, h1, h2, h4, h3⟩ := pf.2 ([A] ++ Δ) (max K (4 * A.sz)) (max J (2 * A.sz)) _ (by rw [← List.append_assoc]; exact e3)
      rw [← List.append_assoc] at h1 h3
      refine ⟨t, h1, h2, by omega, fun n S t1 hn => ?_⟩
      obtain ⟨m, rfl⟩ : ∃ m, n = m + 1 := ⟨n - 1, by omega⟩
      refine got_of_me (F := ev (m + 1) .f_Body_got) (by rw [disp_bodG]; simp [List.lookup]) ?_
      have w1 := wf.1
      simp only [Fac.ws] at w1
      exact body_got (by omega) (fun j hj => by have := ordN_lt hj; simp only [Fac.ws, List.length_append] at this ⊢; omega) (by rw [ordN_len]; simp only [Fac.ws, List.length_append]; omega) (h3 m S t1 (by omega))
  obtain ⟨t, h1, h2, h4, h3⟩ := hB (Γ ++ [A]) _ _ _ bF
  refine ⟨.mk A t, by simp [tkd, h1], ⟨hq, h2⟩, by simp only [Tm.ht, Kd.sz]; omega, fun n S x t1 hx hm => ?_⟩
  simp only [Kd.sz] at hm
  obtain ⟨m, rfl⟩ : ∃ m, n = m + 2 := ⟨n - 2, by omega⟩
  have p1 := put_gen (n := m + 1) (S := S) (x := x) (xs := xs) (P := ordN ((nf B).map (addW (nf A)))) (by omega) hx (by rw [ordN_len]; exact xl) (fun j hj => by rw [xl]; exact ordN_lt hj) (by rw [hbs]; exact hu _)
  rw [hbs] at p1
  have p2 := parts_sim A (.giv Γ.length) (n := m + 1) (S := S) hk.frmL t1 (by omega)
  have gl : (Γ ++ [A]).length = Γ.length + 1 := by simp
  have p3 := h3 (m + 1) (S ++ [.lst (bods A (prt A (.giv Γ.length)) bs (nf B))]) (.loc S.length) (tab_app t1) (.inr ⟨_, rfl, by simp⟩) (by omega)
  rw [gl] at p3
  exact built_frm (m := m) hk t1 (by omega) bl hmem tkU p1 p2 p3
theorem turn_main : ∀ k : Kd, Smk k → k.dep ≤ q → PartsOk q k ∧ BuiltOk q k
  | .base i, _, _ => ⟨parts_leaf, built_base_ok⟩
  | .unit, _, _ => ⟨parts_unit_ok, built_unit_ok⟩
  | .both a b, hk, hq => by
    simp only [Kd.dep] at hq
    obtain ⟨a1, a2⟩ := turn_main a hk.bothL (by omega)
    obtain ⟨b1, b2⟩ := turn_main b hk.bothR (by omega)
    exact ⟨parts_both_ok a1 b1, built_both_ok hk a2 b2⟩
  | .frm a b, hk, hq => by
    simp only [Kd.dep] at hq
    obtain ⟨a1, a2⟩ := turn_main a hk.frmL (by omega)
    obtain ⟨b1, b2⟩ := turn_main b hk.frmR (by omega)
    exact ⟨parts_frm_ok hk a2 b1, built_frm_ok hk ⟨by omega, by have := hk.frmL.sz; omega⟩ a1 b2⟩
end
end Kz
namespace Kz
open PySem PySem.Spec PyProof.Rows L2 Kw
theorem alike_ok {n : Nat} {a b : Kd} {S : Store} (t1 : Tab1 S) (h : max a.dep b.dep + 5 ≤ n) (h4 : 6 ≤ n) (hs : max a.sz b.sz ≤ 10000) (hd : max (rk a) (rk b) ≤ 90) : ev n .f_alike [a.d, b.d] S = .ok (.bl (decide (nf a = nf b))) S := by
  obtain ⟨m, rfl, h'⟩ := up h4
  have e1 := form_ok (n := m) (k := a) t1 (by omega) h' (by omega) (by omega)
  have e2 := form_ok (n := m) (k := b) t1 (by omega) h' (by omega) (by omega)
  have d1 := (nf_ok a).1
  obtain ⟨c, e3, hc⟩ := gEq_F (nf a) (nf b) S (by omega)
  have ec : c = decide (nf a = nf b) := by
    rw [Bool.eq_iff_iff, hc, decide_eq_true_eq]
  subst ec
  rw [ev, b_alike]
  simp [e1, e2, e3]
end Kz
namespace Kz
open PySem PySem.Spec PyProof.Rows L2 Kw
section
variable {m : Nat} {S : Store}
theorem turner_okT {K1 K2 : Kd} {ps body : D} (al : ev m .f_alike [K1.d, K2.d] S = .ok (.bl true) S) (h1 : ev m .f_parts [K1.d, .tup [.str "given", .int 0]] S = .ok ps S) (h2 : ev m .f_built [K2.d, ps, .int 1] S = .ok body S) : ev (m + 1) .f_turner [K1.d, K2.d] S = .ok (.tup [.str "make", K1.d, body]) S := by
  have h8 : sizeLine = 16777216 := rfl
  rw [ev, b_turner]
  generalize K1.d = A at *
  generalize K2.d = B at *
  simp [al, h1, h2, h8]
end
theorem turner_any {q : Nat} {K1 K2 : Kd} (h1 : Smk K1) (h2 : Smk K2) (d1 : K1.dep ≤ q) (d2 : K2.dep ≤ q) (he : nf K1 = nf K2) : ∃ t : Tm, tkd [] t = some (.frm K1 K2) ∧ kdsT q t ∧ t.ht ≤ 2 * K1.sz + 2 * K2.sz + 1 ∧ ∀ (n : Nat) (S : Store), Tab1 S → 4 * K1.sz + 4 * K2.sz + 12 ≤ n → ev n .f_turner [K1.d, K2.d] S = .ok t.d S := by
  have p1 := K1.sz_pos
  have p2 := K2.sz_pos
  have s1 := dep_sz K1
  have s2 := dep_sz K2
  have z1 := h1.sz
  have z2 := h2.sz
  have r1 := h1.rk_
  have r2 := h2.rk_
  have F : Fits q (nf K2) [K1] (4 * K1.sz) (2 * K1.sz) (prt K1 (.giv 0)) := by
    rw [← he]
    exact fits_of_ats (fun Δ => (turn_main K1 h1 d1).1 _ _ (by simp [tkd]) trivial) (by simp only [Tm.ht]; omega) (by omega)
  obtain ⟨b, b1, b2, b4, b3⟩ := (turn_main K2 h2 d2).2 [K1] _ _ _ F
  refine ⟨.mk K1 b, by simp [tkd, b1], ⟨⟨d1, by omega⟩, b2⟩, by simp only [Tm.ht]; omega, fun n S t1 hn => ?_⟩
  obtain ⟨m, rfl⟩ : ∃ m, n = m + 1 := ⟨n - 1, by omega⟩
  have al := alike_ok (n := m) (a := K1) (b := K2) (S := S) t1 (by omega) (by omega) (by omega) (by omega)
  rw [decide_eq_true he] at al
  have e1 := parts_sim K1 (.giv 0) (n := m) (S := S) h1 t1 (by omega)
  have e2 := b3 m S (.lst (prt K1 (.giv 0))) t1 (.inl rfl) (by omega)
  exact turner_okT al e1 e2
end Kz
namespace Kz
open PySem PySem.Spec PyProof.Rows L2 Kw
mutual
def lvF : Fac → Nat
  | .mk ws _ => lvL ws + 1
def lvL : List Fac → Nat
  | [] => 0
  | f :: L => max (lvF f) (lvL L)
end
mutual
theorem dp_lvF : ∀ f : Fac, (pF f).depth = 2 * lvF f
  | .mk ws b => by
    rw [depthF, lvF]
    have := dp_lvL ws
    unfold dpL at this
    omega
theorem dp_lvL : ∀ L : List Fac, dpL L = 2 * lvL L
  | [] => rfl
  | f :: L => by
    have h1 := dp_lvF f
    have h2 := dp_lvL L
    unfold dpL at h2 ⊢
    simp only [pFL, PyData.depthAll, lvL]
    omega
end
theorem lvL_mem {L : List Fac} {f : Fac} (h : f ∈ L) : lvF f ≤ lvL L := by
  induction L with
  | nil => cases h
  | cons g L ih =>
    simp only [lvL]
    rcases List.mem_cons.mp h with rfl | h
    · omega
    · have := ih h; omega
mutual
/-- no row in it is longer -/
def shF (M : Nat) : Fac → Prop
  | .mk ws _ => ws.length ≤ M ∧ shL M ws
def shL (M : Nat) : List Fac → Prop
  | [] => True
  | f :: L => shF M f ∧ shL M L
end
theorem shL_mem {M : Nat} {L : List Fac} : shL M L ↔ ∀ f ∈ L, shF M f := by
  induction L with
  | nil => simp [shL]
  | cons f L ih => simp [shL, ih]
theorem shF_ws (M : Nat) (f : Fac) : shF M f ↔ f.ws.length ≤ M ∧ shL M f.ws := by cases f; simp [shF, Fac.ws]
theorem gAll_trues {α : Type} (L : List α) (S : Store) : gAll [.lst (L.map fun _ => D.bl true)] S = .ok (.bl true) S := by
  have e : L.map (fun _ => D.bl true) = (L.map fun _ => true).map D.bl := by simp
  rw [e, gAll_lst]
  simp
theorem is_base_ok {n : Nat} {b : _root_.Fin 8} {S : Store} (h : 1 ≤ n) : ev n .f_is_base [.int (b.val : Int)] S = .ok (.bl true) S := by
  obtain ⟨m, rfl, h'⟩ := up (d := 0) (by omega : 0 + 1 ≤ n)
  have : (b.val : Int) ≤ 7 := by have := b.isLt; omega
  rw [ev, b_is_base]
  simp [this]
theorem gEq_LF (L M : List Fac) (S : Store) (h : min (dpL L) (dpL M) < 200) : gEq (.lst (dFL L)) (.lst (dFL M)) S = .ok (.bl (decide (L = M))) S := by
  obtain ⟨c, e, hc⟩ := gEq_F L M S h
  have : c = decide (L = M) := by rw [Bool.eq_iff_iff, hc, decide_eq_true_eq]
  rw [e, this]
mutual
theorem is_factor_F : ∀ (f : Fac) {n M : Nat} {S : Store}, Tab1 S → lvF f + 3 ≤ n → ordF f → shF M f → M ≤ 1000000 → (pF f).depth ≤ 190 → ev n .f_is_factor [dF f] S = .ok (.bl true) S
  | .mk ws b, n, M, S, t1, h, o, sh, hM, hd => by
    have h8 : sizeLine = 16777216 := rfl
    obtain ⟨m, rfl, h'⟩ := up (d := lvL ws + 3) (by simp only [lvF] at h; omega)
    have hdw : dpL ws ≤ 188 := by rw [depthF] at hd; unfold dpL; omega
    have eb := is_base_ok (n := m) (b := b) (S := S) (by omega)
    have ei := in_order_tup (n := m) (L := ws) (S := S) (by omega) t1 (by omega) (by have := sh.1; omega)
    rw [o.1] at ei
    have eq := gEq_LF ws ws S (by omega)
    have hc := compL_of (tg := gN 1) (tt := fYes) (te := fArg (ev m .f_is_factor) (fCons (fVar 1) fNil)) (ρ := [some (dF (.mk ws b)), none]) (S := S) dF (fun _ => D.bl true) ws [] (fun f hf => by
      refine ⟨[some (dF (.mk ws b)), some (dF f)], by simp, rfl, ?_⟩
      have lv := lvL_mem hf
      have e := is_factor_L ws (n := m) (M := M) (S := S) t1 (by omega) o.2 sh.2 hM (by omega) f hf
      simp [e]) (by rw [h8]; have := sh.1; simp; omega)
    rw [← dFL_map] at hc
    have ga := gAll_trues ws S
    have lw : (dFL ws).length ≤ 16777216 := by rw [dFL_len]; have := sh.1; omega
    rw [ev, b_is_factor]
    simp [dF] at hc
    simp [dF, eb, ei, eq, wipeR, hc, ga, h8, lw]
theorem is_factor_L : ∀ (L : List Fac) {n M : Nat} {S : Store}, Tab1 S → lvL L + 3 ≤ n → ordL L → shL M L → M ≤ 1000000 → dpL L ≤ 190 → ∀ f ∈ L, ev n .f_is_factor [dF f] S = .ok (.bl true) S
  | [], _, _, _, _, _, _, _, _, _, f, hf => by cases hf
  | g :: L, n, M, S, t1, h, o, sh, hM, hd, f, hf => by
    have hd' : (pF g).depth ≤ 190 ∧ dpL L ≤ 190 := by
      unfold dpL at hd ⊢
      simp only [pFL, PyData.depthAll] at hd
      omega
    simp only [lvL] at h
    rcases List.mem_cons.mp hf with e | hf
    · rw [e]; exact is_factor_F g (M := M) t1 (by omega) o.1 sh.1 hM hd'.1
    · exact is_factor_L L (M := M) t1 (by omega) o.2 sh.2 hM hd'.2 f hf
end
theorem is_form_F {L : List Fac} {n M : Nat} {S : Store} (t1 : Tab1 S) (h : lvL L + 4 ≤ n) (hs : sortF L = L) (o : ordL L) (sh : shL M L) (hl : L.length ≤ M) (hM : M ≤ 1000000) (hd : dpL L ≤ 190) : ev n .f_is_form [.lst (dFL L)] S = .ok (.bl true) S := by
  have h8 : sizeLine = 16777216 := rfl
  obtain ⟨m, rfl, h'⟩ := up (d := lvL L + 3) h
  have ei := in_order_lst (n := m) (L := L) (S := S) (by omega) t1 hd (by omega)
  rw [hs] at ei
  have eq := gEq_LF L L S (by omega)
  have hc := compL_of (tg := gN 1) (tt := fYes) (te := fArg (ev m .f_is_factor) (fCons (fVar 1) fNil)) (ρ := [some (.lst (dFL L)), none]) (S := S) dF (fun _ => D.bl true) L [] (fun f hf => by
    refine ⟨[some (.lst (dFL L)), some (dF f)], by simp, rfl, ?_⟩
    have e := is_factor_L L (n := m) (M := M) (S := S) t1 (by omega) o sh hM hd f hf
    simp [e]) (by rw [h8]; simp; omega)
  rw [← dFL_map] at hc
  have ga := gAll_trues L S
  rw [ev, b_is_form]
  simp [ei, eq, wipeR, hc, ga]
mutual
/-- the kind of a factor, of factors -/
def kF : Fac → Kd
  | .mk [] b => .base b
  | .mk (w :: ws) b => .frm (kL (w :: ws)) (.base b)
def kL : List Fac → Kd
  | [] => .unit
  | [f] => kF f
  | f :: g :: L => .both (kF f) (kL (g :: L))
end
theorem dF_mk (ws : List Fac) (b : _root_.Fin 8) : dF (.mk ws b) = .tup [.tup (dFL ws), .int (b.val : Int)] := rfl
theorem kind_by_step {m : Nat} {S : Store} {x : D} {L : List Fac} (hg : gLen [x] S = .ok (.int ((L.length : Nat) : Int)) S) (hne : L ≠ []) (hl : L.length ≤ 1000000) {f : Fac} {r : List Fac} (hL : L = f :: r) (hi : gIx x (.int 0) S = .ok (dF f) S)
    {y : D} (hs : gSl false x (some 1) none S = .ok y S) (ew : ∀ w ws, f.ws = w :: ws → ev m .f_kind_by [.tup (dFL f.ws)] S = .ok (kL f.ws).d S) (er : r ≠ [] → ev m .f_kind_by [y] S = .ok (kL r).d S) : ev (m + 1) .f_kind_by [x] S = .ok (kL L).d S := by
  have h8 : sizeLine = 16777216 := rfl
  subst hL
  have n0 : ¬ ((((f :: r).length : Nat) : Int) = 0) := by simp; omega
  cases f with
  | mk ws b =>
    simp only [Fac.ws] at ew
    have key : ∀ V : Kd, (kF (.mk ws b) = V) → True := fun _ _ => trivial
    cases ws with
    | nil =>
      cases r with
      | nil =>
        rw [ev, b_kind_by]
        simp at hg
        simp [hg, hi, dF_mk, dFL, kL, kF, Kd.d, h8]
      | cons g r =>
        have er' := er (by simp)
        have n1 : ¬ ((((Fac.mk [] b :: g :: r).length : Nat) : Int) = 1) := by simp; omega
        generalize (((Fac.mk [] b :: g :: r).length : Nat) : Int) = V at *
        rw [ev, b_kind_by]
        simp [hg, n0, n1, hi, dF_mk, dFL, kL, kF, Kd.d, h8, hs, er']
    | cons w ws =>
      have ew' := ew w ws rfl
      have e0 : (dFL (w :: ws)).isEmpty = false := rfl
      generalize hX : dFL (w :: ws) = X at *
      have hk : kF (.mk (w :: ws) b) = .frm (kL (w :: ws)) (.base b) := by rw [kF]
      generalize hK : kL (w :: ws) = K at *
      cases r with
      | nil =>
        rw [ev, b_kind_by]
        simp at hg
        simp [hg, hi, dF_mk, hX, e0, ew', kL, hk, Kd.d, h8]
      | cons g r =>
        have er' := er (by simp)
        have n1 : ¬ ((((Fac.mk (w :: ws) b :: g :: r).length : Nat) : Int) = 1) := by simp; omega
        generalize (((Fac.mk (w :: ws) b :: g :: r).length : Nat) : Int) = V at *
        rw [ev, b_kind_by]
        simp [hg, n0, n1, hi, dF_mk, hX, e0, ew', kL, hk, Kd.d, h8, hs, er']
theorem kind_by_ok (N : Nat) : ∀ (L : List Fac) {n M : Nat} {S : Store}, (kL L).dep ≤ N → N + 1 ≤ n → shL M L → L.length ≤ M → M ≤ 1000000 → ev n .f_kind_by [.lst (dFL L)] S = .ok (kL L).d S ∧ ev n .f_kind_by [.tup (dFL L)] S = .ok (kL L).d S := by
  have h8 : sizeLine = 16777216 := rfl
  induction N with
  | zero =>
    intro L n M S hN hn sh hl hM
    obtain ⟨m, rfl, h'⟩ := up (d := 0) hn
    cases L with
    | nil => constructor <;> (rw [ev, b_kind_by]; simp [dFL, kL, Kd.d, h8])
    | cons f r =>
      have hr : r = [] := by
        cases r with
        | nil => rfl
        | cons g r => simp [kL, Kd.dep] at hN
      subst hr
      have hw : f.ws = [] := by
        cases f with
        | mk ws b =>
          cases ws with
          | nil => rfl
          | cons w ws => simp [kL, kF, Kd.dep] at hN
      constructor
      · exact kind_by_step (L := [f]) (r := []) (y := .lst []) (by simp [dFL]) (by simp) (by simp) rfl (gIx_lstF (L := [f]) 0 f rfl) (by simp [dFL, cutL1]) (fun w ws e => by rw [hw] at e; cases e) (fun z => absurd rfl z)
      · exact kind_by_step (L := [f]) (r := []) (y := .tup []) (by simp [dFL]) (by simp) (by simp) rfl (gIx_tupF (L := [f]) 0 f rfl) (by simp [dFL, cutL1]) (fun w ws e => by rw [hw] at e; cases e) (fun z => absurd rfl z)
  | succ N ih =>
    intro L n M S hN hn sh hl hM
    obtain ⟨m, rfl, h'⟩ := up (d := N + 1) hn
    cases L with
    | nil => constructor <;> (rw [ev, b_kind_by]; simp [dFL, kL, Kd.d, h8])
    | cons f r =>
      have ew : ∀ w ws, f.ws = w :: ws → ev m .f_kind_by [.tup (dFL f.ws)] S = .ok (kL f.ws).d S := by
        intro w ws e
        have shf := (shF_ws M f).mp sh.1
        refine (ih f.ws (M := M) ?_ h' shf.2 shf.1 hM).2
        have hk : (kF f).dep ≤ N + 1 := by
          cases r with
          | nil => simpa [kL] using hN
          | cons g r => simp only [kL, Kd.dep] at hN; omega
        cases f with
        | mk us b =>
          simp only [Fac.ws] at e
          subst e
          simp only [kF, Kd.dep] at hk
          simp only [Fac.ws]
          omega
      have er : r ≠ [] → (kL r).dep ≤ N := by
        intro hr
        cases r with
        | nil => exact absurd rfl hr
        | cons g r => simp only [kL, Kd.dep] at hN; omega
      simp only [List.length_cons] at hl
      constructor
      · exact kind_by_step (L := f :: r) (r := r) (y := .lst (dFL r)) (by simp [dFL_len]) (by simp) (by simp; omega) rfl (gIx_lstF (L := f :: r) 0 f rfl) (by simp [dFL, cutL1]) ew (fun hr => (ih r (M := M) (er hr) h' sh.2 (by omega) hM).1)
      · exact kind_by_step (L := f :: r) (r := r) (y := .tup (dFL r)) (by simp [dFL_len]) (by simp) (by simp; omega) rfl (gIx_tupF (L := f :: r) 0 f rfl) (by simp [dFL, cutL1]) ew (fun hr => (ih r (M := M) (er hr) h' sh.2 (by omega) hM).2)
theorem kind_of_ok {L : List Fac} {n M : Nat} {S : Store} (t1 : Tab1 S) (h : lvL L + 5 ≤ n) (hk : (kL L).dep + 2 ≤ n) (hs : sortF L = L) (o : ordL L) (sh : shL M L) (hl : L.length ≤ M) (hM : M ≤ 1000000) (hd : dpL L ≤ 190) : ev n .f_kind_of [.lst (dFL L)] S = .ok (kL L).d S := by
  obtain ⟨m, rfl, h'⟩ := up (d := lvL L + 4) h
  have e1 := is_form_F (n := m) (M := M) t1 h' hs o sh hl hM hd
  have e2 := (kind_by_ok (kL L).dep L (n := m) (M := M) (S := S) (Nat.le_refl _) (by omega) sh hl hM).1
  rw [ev, b_kind_of]
  simp [e1, e2]
end Kz
namespace Kz
open PySem PySem.Spec PyProof.Rows L2 Kw
mutual
theorem nf_kF : ∀ f : Fac, ordF f → nf (kF f) = [f]
  | .mk [] b, _ => rfl
  | .mk (w :: ws) b, h => by
    have e := nf_kL (w :: ws) h.2
    rw [h.1] at e
    rw [kF]
    show sortF ([Fac.mk [] b].map (addW (nf (kL (w :: ws))))) = _
    rw [e, List.map_singleton, sortF_one]
    show [Fac.mk (sortF ([] ++ (w :: ws))) b] = _
    rw [List.nil_append, h.1]
theorem nf_kL : ∀ L : List Fac, ordL L → nf (kL L) = sortF L
  | [], _ => sortF_nil.symm
  | [f], h => by
    rw [kL, nf_kF f h.1, sortF_one]
  | f :: g :: L, h => by
    rw [kL]
    show sortF (nf (kF f) ++ nf (kL (g :: L))) = _
    rw [nf_kF f h.1, nf_kL (g :: L) h.2]
    exact sortF_eq (List.Perm.append (List.Perm.refl _) (sortF_perm _))
end
end Kz
namespace Kz
open PySem PySem.Spec PyProof.Rows L2 Kw
mutual
def tF : Fac → Nat
  | .mk ws _ => tL ws + 1
def tL : List Fac → Nat
  | [] => 0
  | f :: L => tF f + tL L
end
theorem tF_ws (f : Fac) : tF f = tL f.ws + 1 := by cases f; rfl
theorem tL_app (L M : List Fac) : tL (L ++ M) = tL L + tL M := by
  induction L with
  | nil => simp [tL]
  | cons f L ih => simp [tL, ih]; omega
theorem tL_perm {L M : List Fac} (p : L.Perm M) : tL L = tL M := by
  induction p with
  | nil => rfl
  | cons f _ ih => simp only [tL, ih]
  | swap f g L => simp only [tL]; omega
  | trans _ _ h1 h2 => exact h1.trans h2
def lfk : Kd → Nat
  | .base _ => 1
  | .unit => 1
  | .both a b => lfk a + lfk b
  | .frm a b => lfk a + lfk b
theorem lfk_sz : ∀ k : Kd, k.sz + 1 = 2 * lfk k
  | .base _ => rfl
  | .unit => rfl
  | .both a b => by have := lfk_sz a; have := lfk_sz b; simp only [Kd.sz, lfk]; omega
  | .frm a b => by have := lfk_sz a; have := lfk_sz b; simp only [Kd.sz, lfk]; omega
theorem lfk_pos (k : Kd) : 1 ≤ lfk k := by have := lfk_sz k; omega
theorem nf_lfk : ∀ k : Kd, (nf k).length ≤ lfk k
  | .base i => Nat.le_refl 1
  | .unit => by simp [nf]
  | .both a b => by
    have ha := nf_lfk a; have hb := nf_lfk b
    show (sortF (nf a ++ nf b)).length ≤ _
    rw [(sortF_perm _).length_eq, List.length_append]; simp only [lfk]; omega
  | .frm a b => by
    have hb := nf_lfk b
    show (sortF _).length ≤ _
    rw [(sortF_perm _).length_eq, List.length_map]; simp only [lfk]; omega
theorem tL_map_addW (A : List Fac) : ∀ L : List Fac, tL (L.map (addW A)) = tL L + L.length * tL A
  | [] => by simp [tL]
  | f :: L => by
    have e : tF (addW A f) = tF f + tL A := by
      rw [tF_ws, tF_ws]
      show tL (sortF (f.ws ++ A)) + 1 = _
      rw [tL_perm (sortF_perm _), tL_app]; omega
    simp only [List.map_cons, tL, List.length_cons, tL_map_addW A L, e, Nat.succ_mul]
    omega
end Kz
namespace Kz
open PySem PySem.Spec PyProof.Rows L2 Kw
mutual
theorem undF (n : Nat) : ∀ f : Fac, (dF f).under n = true
  | .mk ws b => by
    have := undFL n ws
    simp [dF, D.under, underL, this]
theorem undFL (n : Nat) : ∀ L : List Fac, underL n (dFL L) = true
  | [] => rfl
  | f :: L => by
    have h1 := undF n f
    have h2 := undFL n L
    simp [dFL, underL, h1, h2]
end
theorem und_lst (n : Nat) (L : List Fac) : (D.lst (dFL L)).under n = true := by
  have := undFL n L
  simp [D.under, this]
theorem cut_self {S : Store} {d : D} (h : d.under S.length = true) : cutR S (.ok d S) = .ok d S := by
  have := cut_ok (S := S) (d := d) [] h
  simpa using this
end Kz
namespace Kz
open PySem PySem.Spec PyProof.Rows L2 Kw
theorem eqv_F (f g : Fac) : PyData.eqv (pF f) (pF g) = decide (f = g) := by
  rw [Bool.eq_iff_iff, decide_eq_true_eq]
  exact ⟨eqvF f g, fun h => h ▸ eqF f⟩
theorem py0_F : ∀ f : Fac, py0 (dF f) = some (pF f) := by
  have key : ∀ f : Fac, py0 (dF f) = some (pF f) := by
    intro f
    refine Fac.rec (motive_1 := fun f => py0 (dF f) = some (pF f)) (motive_2 := fun L => py0L (dFL L) = some (pFL L)) ?_ rfl ?_ f
    · intro ws b ih
      show (py0L [.tup (dFL ws), .int (b.val : Int)]).map PyData.tuple = _
      simp [py0L, py0, ih, pF]
    · intro f L h1 h2
      show (py0 (dF f)).bind (fun a => (py0L (dFL L)).map (a :: ·)) = _
      rw [h1, h2]; rfl
  exact key
theorem py0L_F : ∀ L : List Fac, py0L (dFL L) = some (pFL L)
  | [] => rfl
  | f :: L => by
    show (py0 (dF f)).bind (fun a => (py0L (dFL L)).map (a :: ·)) = _
    rw [py0_F f, py0L_F L]; rfl
theorem any_F (f : Fac) : ∀ L : List Fac, (pFL L).any (fun z => PyData.eqv z (pF f)) = decide (f ∈ L)
  | [] => by simp [pFL]
  | g :: L => by
    rw [pFL, List.any_cons, any_F f L, eqv_F, Bool.eq_iff_iff]
    simp only [Bool.or_eq_true, decide_eq_true_eq, List.mem_cons]
    exact ⟨fun h => h.elim (fun z => .inl z.symm) .inr, fun h => h.elim (fun z => .inl z.symm) .inr⟩
theorem rem_F (f : Fac) : ∀ L : List Fac, f ∈ L → ∃ j, (pFL L).findIdx? (fun z => PyData.eqv z (pF f)) = some j ∧ (dFL L).eraseIdx j = dFL (L.erase f)
  | [], h => nomatch h
  | g :: L, h => by
    by_cases e : g = f
    · subst e
      exact ⟨0, by simp [pFL, List.findIdx?_cons, eqv_F], by simp [dFL]⟩
    · have hm : f ∈ L := by
        rcases List.mem_cons.mp h with h | h
        · exact absurd h.symm e
        · exact h
      obtain ⟨j, h1, h2⟩ := rem_F f L hm
      refine ⟨j + 1, by simp [pFL, List.findIdx?_cons, eqv_F, e, h1], ?_⟩
      rw [List.erase_cons_tail (by simpa using e)]
      simp [dFL, h2]
theorem dp_mem {L : List Fac} {q : Nat} (h : dpL L ≤ q) {M : List Fac} (s : ∀ f ∈ M, f ∈ L) : dpL M ≤ q := dpL_le.mpr fun f hf => dpL_le.mp h f (s f hf)
theorem in_cellF {neg : Bool} {f : Fac} {L : List Fac} {n : Nat} {S : Store} (h : Kw.cellOf S n = some (dFL L)) (hd : dpL L ≤ 190) : gIn neg (dF f) (.loc n) S = .ok (.bl (if neg then !decide (f ∈ L) else decide (f ∈ L))) S := by
  have h1 : pyS S (.loc n) = some (.list (pFL L)) := by
    show ((Kw.cellOf S n).bind py0L).map PyData.list = _
    rw [h]
    simp [py0L_F]
  unfold gIn
  rw [h1]
  simp only [pyS_F]
  have hd' : min (PyData.depthAll (pFL L)) (pF f).depth ≤ 190 := Nat.le_trans (Nat.min_le_left _ _) hd
  rw [layF, layFL, decide_eq_true hd', any_F]
  rfl
theorem rem_cellF {f : Fac} {L : List Fac} {n : Nat} {S : Store} (h : Kw.cellM S n = some (dFL L)) (hd : dpL L ≤ 190) (hl : L.length ≤ 1000000) (hm : f ∈ L) : gRem (.loc n) [dF f] S = .ok .non (S.set n (.lst (dFL (L.erase f)))) := by
  have h8 : sizeLine = 16777216 := rfl
  obtain ⟨j, h1, h2⟩ := rem_F f L hm
  unfold gRem
  have hd' : min (PyData.depthAll (pFL L)) (pF f).depth ≤ 190 := Nat.le_trans (Nat.min_le_left _ _) hd
  have hl' : (dFL L).length ≤ sizeLine := by rw [dFL_len, h8]; omega
  simp only [h, pySL_F, pyS_F, layF, layFL, decide_eq_true hd', decide_eq_true hl', h1, h2]
  rfl
/-- what is left of some factors without some of them -/
noncomputable def wo : List Fac → List Fac → Option (List Fac)
  | L, [] => some L
  | L, x :: r => if x ∈ L then wo (L.erase x) r else none
theorem wo_sub : ∀ (M : List Fac) {L m : List Fac}, wo L M = some m → m.Sublist L
  | [], L, m, h => by
    simp only [wo] at h
    cases h; exact List.Sublist.refl _
  | x :: M, L, m, h => by
    simp only [wo] at h
    split at h
    · exact (wo_sub M h).trans List.erase_sublist
    · cases h
def oF : Option (List Fac) → D
  | none => .non
  | some m => .lst (dFL m)
theorem wo_loop {m : Nat} {S : Store} {x0 x1 : Option D} : ∀ (M L : List Fac) (x3 : Option D), L.length ≤ 1000000 → dpL L ≤ 190 →
    (∃ y3 r, wo L M = some r ∧ forL (gN 3) (l_without_0 (ev m)) none (dFL M) [x0, x1, some (.loc S.length), x3] (S ++ [.lst (dFL L)]) = .nx [x0, x1, some (.loc S.length), y3] (S ++ [.lst (dFL r)])) ∨
    (∃ c, wo L M = none ∧ forL (gN 3) (l_without_0 (ev m)) none (dFL M) [x0, x1, some (.loc S.length), x3] (S ++ [.lst (dFL L)]) = .rt .non (S ++ [c]))
  | [], L, x3, hl, hd => .inl ⟨x3, L, rfl, by simp [dFL]⟩
  | f :: M, L, x3, hl, hd => by
    have ic := in_cellF (neg := true) (f := f) (L := L) (n := S.length) (S := S ++ [.lst (dFL L)]) cellOf_app hd
    by_cases hf : f ∈ L
    · have hr := rem_cellF (f := f) (L := L) (n := S.length) (S := S ++ [.lst (dFL L)]) cellM_app hd hl hf
      have hm := mthR_loc (n := S.length) (S := S ++ [.lst (dFL L)]) (ρ := [x0, x1, some (.loc S.length), some (dF f)]) (xs := dFL L) (g := gRem) (a := fCons (fVar 3) fNil) cellOf_app
      have es : (S ++ [Cell.lst (dFL L)]).set S.length (.lst (dFL (L.erase f))) = S ++ [.lst (dFL (L.erase f))] := by simp
      have bd : l_without_0 (ev m) [x0, x1, some (.loc S.length), some (dF f)] (S ++ [.lst (dFL L)]) = .nx [x0, x1, some (.loc S.length), some (dF f)] (S ++ [.lst (dFL (L.erase f))]) := by
        rw [l_without_0, ← es]
        generalize dF f = F at *
        simp [ic, hf, hm, hr]
      have ih := wo_loop (m := m) (S := S) (x0 := x0) (x1 := x1) M (L.erase f) (some (dF f)) (Nat.le_trans List.erase_sublist.length_le hl) (dp_mem hd fun g hg => List.mem_of_mem_erase hg)
      have e0 : wo L (f :: M) = wo (L.erase f) M := by simp only [wo]; rw [if_pos hf]
      rw [e0]
      have st : forL (gN 3) (l_without_0 (ev m)) none (dFL (f :: M)) [x0, x1, some (.loc S.length), x3] (S ++ [.lst (dFL L)]) = forL (gN 3) (l_without_0 (ev m)) none (dFL M) [x0, x1, some (.loc S.length), some (dF f)] (S ++ [.lst (dFL (L.erase f))]) := by
        rw [dFL, forL_cons]
        simp [bd]
      rw [st]
      exact ih
    · refine .inr ⟨.lst (dFL L), by simp only [wo]; rw [if_neg hf], ?_⟩
      rw [dFL, forL_cons]
      have bd : l_without_0 (ev m) [x0, x1, some (.loc S.length), some (dF f)] (S ++ [.lst (dFL L)]) = .rt .non (S ++ [.lst (dFL L)]) := by
        rw [l_without_0]
        generalize dF f = F at *
        simp [ic, hf]
      simp [bd]
theorem under_oF (o : Option (List Fac)) (n : Nat) : (oF o).under n = true := by
  cases o with
  | none => rfl
  | some m => exact und_lst n m
theorem without_ok {n : Nat} {S : Store} {L M : List Fac} (h : 1 ≤ n) (hl : L.length ≤ 1000000) (hd : dpL L ≤ 190) : ev n .f_without [.tup (dFL L), .tup (dFL M)] S = .ok (oF (wo L M)) S := by
  have h8 : sizeLine = 16777216 := rfl
  obtain ⟨m, rfl, h'⟩ := up (d := 0) h
  have gl : gList true [.tup (dFL L)] S = .ok (.loc S.length) (S ++ [.lst (dFL L)]) := rfl
  rcases wo_loop (m := m) (S := S) (x0 := some (.tup (dFL L))) (x1 := some (.tup (dFL M))) M L none hl hd with ⟨y3, r, e1, e2⟩ | ⟨c, e1, e2⟩
  · have hc := cut_ok (S := S) (d := oF (some r)) [.dead] (under_oF (some r) _)
    rw [e1]
    rw [oF] at hc ⊢
    rw [ev, b_without, fnC_ap]
    generalize dFL L = A at *
    generalize dFL M = B at *
    generalize dFL r = R at *
    simp [e2, gl, gFz, hc]
  · have hc := cut_ok (S := S) (d := oF none) [c] (under_oF none _)
    rw [e1]
    rw [oF] at hc ⊢
    rw [ev, b_without, fnC_ap]
    generalize dFL L = A at *
    generalize dFL M = B at *
    simp [e2, gl, hc]
theorem with_more_ok {n : Nat} {S : Store} {M w : List Fac} (t1 : Tab1 S) (h : 3 ≤ n) (hl : M.length + w.length ≤ 1000000) (hw : ∀ f ∈ M, f.ws.length + w.length ≤ 1000000) (hd : dpL M ≤ 180) (hd2 : dpL w ≤ 180) : ev n .f_with_more [.lst (dFL M), .lst (dFL w)] S = .ok (.lst (dFL (sortF (M.map (addW w))))) S := by
  have h8 : sizeLine = 16777216 := rfl
  obtain ⟨m, rfl, h'⟩ := up (d := 2) h
  have hz : dpL (M.map (addW w)) ≤ 190 := by
    refine dpL_le.mpr fun g hg => ?_
    obtain ⟨f, hf, rfl⟩ := List.mem_map.mp hg
    have e := dpL_le.mp hd f hf
    rw [depth_ws] at e ⊢
    show 2 + dpL (sortF (f.ws ++ w)) ≤ 190
    rw [dpL_perm (sortF_perm _), dpL_app]
    omega
  have eo := in_order_lst (n := m) (S := S) (L := M.map (addW w)) h' t1 hz (by rw [List.length_map]; omega)
  have hc := compL_of (tg := gTu 2 (gsCons (gN 2) (gsCons (gN 3) gsNil))) (tt := fYes) (te := fArg mkTup (fCons (fArg gTuple (fCons (fArg (ev m .f_in_order) (fCons (f2 (gAdd false) (fArg (gList false) (fCons (fVar 2) fNil)) (fVar 1)) fNil)) fNil)) (fCons (fVar 3) fNil)))
    (ρ := [some (.lst (dFL M)), some (.lst (dFL w)), none, none]) (S := S) dF (fun f => dF (addW w f)) M [] (fun f hf => ⟨[some (.lst (dFL M)), some (.lst (dFL w)), some (.tup (dFL f.ws)), some (.int (f.b.val : Int))], by
      have e0 : dF f = .tup [.tup (dFL f.ws), .int (f.b.val : Int)] := by cases f; rfl
      rw [e0]; simp, rfl, by
      have e := dpL_le.mp hd f hf
      rw [depth_ws] at e
      have l := hw f hf
      have ef := in_order_lst (n := m) (S := S) (L := f.ws ++ w) h' t1 (by rw [dpL_app]; omega) (by rw [List.length_append]; omega)
      rw [dFL_app] at ef
      have l1 : (dFL f.ws).length + (dFL w).length ≤ 16777216 := by rw [dFL_len, dFL_len]; omega
      have l2 : (dFL f.ws).length ≤ 16777216 := by omega
      have l3 : (dFL (sortF (f.ws ++ w))).length ≤ 16777216 := by rw [dFL_len, (sortF_perm _).length_eq, List.length_append]; omega
      show _ = RE.ok (D.tup [.tup (dFL (sortF (f.ws ++ w))), .int (f.b.val : Int)]) S
      generalize dFL (sortF (f.ws ++ w)) = Y at *
      generalize dFL f.ws = Z at *
      generalize dFL w = W at *
      simp [h8, ef, l1, l2, l3]⟩) (by rw [h8]; simp; omega)
  have e2 : M.map (fun f => dF (addW w f)) = dFL (M.map (addW w)) := by
    rw [dFL_map, List.map_map]; rfl
  rw [e2, ← dFL_map] at hc
  rw [ev, b_with_more]
  generalize dFL (M.map (addW w)) = Y at *
  generalize dFL (sortF (M.map (addW w))) = Y2 at *
  generalize dFL M = A at *
  generalize dFL w = W at *
  simp [wipeR, hc, eo]
end Kz
namespace Kz
open PySem PySem.Spec PyProof.Rows L2 Kw
def pM (m : List Fac) : PyData := .list (pFL m)
def dM (m : List Fac) : D := .lst (dFL m)
noncomputable def srtM (L : List (List Fac)) : List (List Fac) := L.mergeSort (PySem.W.dataLe false pM)
theorem srtM_perm (L : List (List Fac)) : (srtM L).Perm L := List.mergeSort_perm _ _
theorem pySL_M (S : Store) : ∀ L : List (List Fac), pySL S (L.map dM) = some (L.map pM)
  | [] => rfl
  | m :: L => by
    show (pyS S (dM m)).bind (fun a => (pySL S (L.map dM)).map (a :: ·)) = _
    have e : pyS S (dM m) = some (pM m) := by
      show (pySL S (dFL m)).map PyData.list = _
      rw [pySL_F]; rfl
    rw [e, pySL_M S L]; rfl
theorem places_M (L : List (List Fac)) : ∃ Z : List (Nat × List Fac), places (L.map pM) = Z.map (fun z => D.int (z.1 : Int)) ∧ Z.map Prod.snd = srtM L ∧ ∀ z ∈ Z, L[z.1]? = some z.2 := by
  refine ⟨((List.range L.length).zip L).mergeSort (PySem.W.dataLe false fun z => pM z.2), ?_, ?_, fun z hm => ?_⟩
  · unfold places
    rw [List.length_map]
    have e1 : (List.range L.length).map (fun (i : Nat) => D.int (i : Int)) = ((List.range L.length).zip L).map fun z => D.int (z.1 : Int) := by
      have : (fun z : Nat × List Fac => D.int (z.1 : Int)) = (fun (i : Nat) => D.int (i : Int)) ∘ Prod.fst := rfl
      rw [this, ← List.map_map, List.map_fst_zip (by simp)]
    have e2 : L.map pM = ((List.range L.length).zip L).map fun z => pM z.2 := by
      have : (fun z : Nat × List Fac => pM z.2) = pM ∘ Prod.snd := rfl
      rw [this, ← List.map_map, List.map_snd_zip (by simp)]
    rw [e1, e2, sortB_map]
  · have := List.map_mergeSort (f := Prod.snd) (r := PySem.W.dataLe false fun z : Nat × List Fac => pM z.2) (s := PySem.W.dataLe false pM) (l := (List.range L.length).zip L) (fun a _ b _ => rfl)
    rw [this, List.map_snd_zip (by simp)]
    rfl
  · have hm' := (List.mergeSort_perm _ _).mem_iff.mp hm
    obtain ⟨k, hk⟩ := List.mem_iff_getElem?.mp hm'
    rw [List.getElem?_zip_eq_some] at hk
    obtain ⟨h1, h2⟩ := hk
    have h3 := List.getElem?_eq_some_iff.mp h1
    obtain ⟨h4, h5⟩ := h3
    simp at h5
    rw [← h5]; exact h2
theorem depth_M (m : List Fac) : (pM m).depth = 1 + dpL m := by
  simp [pM, PyData.depth, dpL, Nat.add_comm]
theorem order_M {n : Nat} {S : Store} {c : Nat} {L : List (List Fac)} (h : 1 ≤ n) (t1 : Tab1 S) (hx : Kw.cellOf S c = some (L.map dM)) (hd : ∀ m ∈ L, dpL m ≤ 180) (hl : L.length ≤ 1000000) :
    ev n .f_order_of [.loc c] S = .ok (.lst (places (L.map pM))) S := by
  obtain ⟨m, rfl, h'⟩ := up (d := 0) (by omega : 0 + 1 ≤ n)
  have al : PySem.W.AllAlike (L.map pM) := PySem.W.AllAlike.of fun a b => by
    show PySem.W.alike (.list (pFL a)) (.list (pFL b)) = true
    have := alikeFL a b
    simpa [PySem.W.alike] using this
  have so : PySem.W.Sortable (L.map pM) := PySem.W.Sortable.others fun m => ⟨(fun z => nomatch z), (fun xs z => nomatch z)⟩
  have hd' : PyData.depthAll (L.map pM) ≤ 190 := depthAll_le.mpr fun p hp => by
    obtain ⟨m, hm, rfl⟩ := List.mem_map.mp hp
    have := hd m hm
    rw [depth_M]; omega
  have hg : gLen [.loc c] S = .ok (.int ((L.length : Nat) : Int)) S := by
    have e1 : seqA S (.loc c) = some (L.map dM) := hx
    simp [gLen, e1]
  have e : fOrder 1 "order_of" (fArg gLen (fCons (fVar 0) fNil)) 0 [some (.loc c)] S = .ok (.lst (places (L.map pM))) S := by
    unfold fOrder
    have e1 : fArg gLen (fCons (fVar 0) fNil) [some (.loc c)] S = .ok (.int ((L.length : Nat) : Int)) S := by simp [hg]
    rw [e1]
    simp only [RE.bnd, List.getElem?_cons_zero]
    unfold gOrder
    have e2 : seqA S (.loc c) = some (L.map dM) := hx
    simp only [e2, pySL_M]
    rw [if_pos ⟨by rw [List.length_map], by omega, t1, al, so, hd', trivial⟩]
    rfl
  rw [ev, b_order_of]
  simp [e]
theorem gIx_cell {c i : Nat} {S : Store} {ds : List D} {d : D} (hx : Kw.cellOf S c = some ds) (hi : ds[i]? = some d) : gIx (.loc c) (.int (i : Int)) S = .ok d S := by
  have e : gIx (.loc c) (.int (i : Int)) S = ixR ds (i : Int) S := gIx_loc hx
  rw [e, ixR_nat, hi]
theorem in_order_M {n : Nat} {S : Store} {c : Nat} {L : List (List Fac)} (h : 2 ≤ n) (t1 : Tab1 S) (hx : Kw.cellOf S c = some (L.map dM)) (hd : ∀ m ∈ L, dpL m ≤ 180) (hl : L.length ≤ 1000000) :
    ev n .f_in_order [.loc c] S = .ok (.lst ((srtM L).map dM)) S := by
  have h8 : sizeLine = 16777216 := rfl
  obtain ⟨m, rfl, h'⟩ := up h
  have eo := order_M (n := m) h' t1 hx hd hl
  obtain ⟨Z, z1, z2, z3⟩ := places_M L
  have zl : Z.length = L.length := by
    have := congrArg List.length z2
    rw [List.length_map, (srtM_perm L).length_eq] at this
    exact this
  have hc := compL_of (tg := gN 1) (tt := fYes) (te := f2 gIx (fVar 0) (fVar 1)) (ρ := [some (.loc c), none]) (S := S) (fun z : Nat × List Fac => D.int (z.1 : Int)) (fun z => dM z.2) Z [] (fun z hz => ⟨[some (.loc c), some (.int (z.1 : Int))], by simp, rfl, by
    have := gIx_cell (i := z.1) (d := dM z.2) hx (by rw [List.getElem?_map, z3 z hz]; rfl)
    show (RE.ok (D.loc c) S).bnd _ = _
    simp [this]⟩) (by rw [h8, zl]; simp; omega)
  have e2 : Z.map (fun z => dM z.2) = (srtM L).map dM := by
    rw [← z2, List.map_map]; rfl
  rw [e2, ← z1] at hc
  rw [ev, b_in_order]
  simp [eo, wipeR, hc]
end Kz
namespace Kz
open PySem PySem.Spec PyProof.Rows L2 Kw
/-- what the factor f leaves to hand in, if what is wished then is what is there -/
noncomputable def ca (M L : List Fac) (f : Fac) : Option (List Fac) := match M with
  | [] => none
  | g :: _ => if f.b = g.b then (match wo f.ws g.ws with
    | none => none
    | some m => if sortF (M.map (addW m)) = L then some m else none) else none
noncomputable def cands (M L Z : List Fac) : List (List Fac) := Z.filterMap (ca M L)
/-- what is left to hand in to what has the form L, for the form M -/
noncomputable def lh (L M : List Fac) : Option (List Fac) := if L = M then some [] else (srtM (cands M L L)).head?
theorem ca_sub {M L : List Fac} {f : Fac} {m : List Fac} (h : ca M L f = some m) : M ≠ [] ∧ m.Sublist f.ws ∧ sortF (M.map (addW m)) = L := by
  unfold ca at h
  cases M with
  | nil => cases h
  | cons g M =>
    simp only at h
    split at h
    · cases e : wo f.ws g.ws with
      | none => rw [e] at h; cases h
      | some w =>
        rw [e] at h
        simp only at h
        split at h
        · rename_i h2
          cases h
          exact ⟨by simp, wo_sub _ e, h2⟩
        · cases h
    · cases h
theorem lh_at {L M m : List Fac} (h : lh L M = some m) : (L = M ∧ m = []) ∨ (L ≠ M ∧ M ≠ [] ∧ (∃ f ∈ L, m.Sublist f.ws) ∧ sortF (M.map (addW m)) = L) := by
  unfold lh at h
  split at h
  · rename_i e
    cases h; exact .inl ⟨e, rfl⟩
  · rename_i e
    have hm : m ∈ srtM (cands M L L) := List.mem_of_mem_head? h
    have hm' := (srtM_perm _).mem_iff.mp hm
    obtain ⟨f, hf, hc⟩ := List.mem_filterMap.mp hm'
    obtain ⟨a, b, c⟩ := ca_sub hc
    exact .inr ⟨e, a, ⟨f, hf, b⟩, c⟩
theorem gEq_bool (L M : List Fac) (S : Store) (h : min (dpL L) (dpL M) < 200) : gEq (.lst (dFL L)) (.lst (dFL M)) S = .ok (.bl (decide (L = M))) S := gEq_LF L M S h
theorem ne_of_eq {x y : D} {b : Bool} {S : Store} (h : gEq x y S = .ok (.bl b) S) : gNe x y S = .ok (.bl (!b)) S := by
  unfold gEq at h
  unfold gNe
  cases he : eqE S x y with
  | some k => simp only [he] at h ⊢; cases h; rfl
  | none =>
    cases hx : pyS S x with
    | none => simp only [he, hx] at h; cases h
    | some p =>
      cases hy : pyS S y with
      | none => simp only [he, hx, hy] at h; cases h
      | some r =>
        simp only [he, hx, hy] at h ⊢
        by_cases hk : okPy p r = true
        · rw [if_pos hk] at h ⊢; cases h; rfl
        · rw [if_neg hk] at h; cases h
theorem fin8_eq (a b : _root_.Fin 8) : (((a.val : Nat) : Int) = ((b.val : Nat) : Int)) ↔ a = b := by
  constructor
  · intro h; exact Fin.ext (by omega)
  · intro h; rw [h]
/-- bounds of two forms -/
structure Sml (L M : List Fac) : Prop where
  ll : L.length ≤ 1000
  ml : M.length ≤ 1000
  lw : ∀ f ∈ L, f.ws.length ≤ 1000
  mw : ∀ f ∈ M, f.ws.length ≤ 1000
  ld : dpL L ≤ 170
  md : dpL M ≤ 170
theorem ws_dp {f : Fac} {L : List Fac} {q : Nat} (hf : f ∈ L) (h : dpL L ≤ q) : dpL f.ws + 2 ≤ q := by
  have := dpL_le.mp h f hf
  rw [depth_ws] at this
  omega
theorem lti_body {m : Nat} {S : Store} {L M : List Fac} (t1 : Tab1 S) (h : 3 ≤ m) (hS : Sml L M) {f : Fac} (hf : f ∈ L) (A : List (List Fac)) (hA : A.length ≤ 1000) {x5 : Option D} :
    ∃ y5, l_left_to_hand_in_0 (ev m) [some (.lst (dFL L)), some (.lst (dFL M)), some (.loc S.length), some (.tup (dFL f.ws)), some (.int (f.b.val : Int)), x5] (S ++ [.lst (A.map dM)]) = .nx [some (.lst (dFL L)), some (.lst (dFL M)), some (.loc S.length), some (.tup (dFL f.ws)), some (.int (f.b.val : Int)), y5] (S ++ [.lst ((A ++ (ca M L f).toList).map dM)]) := by
  have h8 : sizeLine = 16777216 := rfl
  have tS : Tab1 (S ++ [.lst (A.map dM)]) := tab_app t1
  have en := gEq_bool M [] (S ++ [.lst (A.map dM)]) (by have := hS.md; omega)
  have ene : gNe (.lst (dFL M)) (.lst []) (S ++ [.lst (A.map dM)]) = .ok (.bl (!decide (M = []))) (S ++ [.lst (A.map dM)]) := by
    rw [show dFL [] = [] from rfl] at en
    exact ne_of_eq en
  cases M with
  | nil =>
    refine ⟨x5, ?_⟩
    have e0 : ca [] L f = none := rfl
    rw [e0, l_left_to_hand_in_0]
    rw [show dFL [] = [] from rfl] at *
    generalize dFL L = X at *
    generalize dFL f.ws = Z at *
    simp [ene]
  | cons g M =>
    have hd0 : dF g = .tup [.tup (dFL g.ws), .int (g.b.val : Int)] := by cases g; rfl
    have e1 : dFL (g :: M) = .tup [.tup (dFL g.ws), .int (g.b.val : Int)] :: dFL M := by rw [dFL, hd0]
    have hn : decide (g :: M = []) = false := by simp
    rw [hn] at ene
    by_cases hb : f.b = g.b
    · have ew := without_ok (n := m) (S := S ++ [.lst (A.map dM)]) (L := f.ws) (M := g.ws) (by omega) (by have := hS.lw f hf; omega) (by have := ws_dp hf hS.ld; omega)
      cases hw : wo f.ws g.ws with
      | none =>
        refine ⟨some .non, ?_⟩
        have e0 : ca (g :: M) L f = none := by simp [ca, hb, hw]
        rw [hw, oF] at ew
        rw [e0, l_left_to_hand_in_0]
        rw [e1] at ene ⊢
        rw [hb]
        generalize dFL L = X at *
        generalize dFL f.ws = Z at *
        generalize dFL g.ws = Z2 at *
        generalize dFL M = Z3 at *
        simp [ene, ew]
      | some w =>
        have sub := wo_sub _ hw
        have wd : dpL w ≤ 170 := dp_mem (by have := ws_dp hf hS.ld; omega) fun x hx => sub.subset hx
        have wl : w.length ≤ 1000 := Nat.le_trans sub.length_le (hS.lw f hf)
        have em := with_more_ok (n := m) (S := S ++ [.lst (A.map dM)]) (M := g :: M) (w := w) tS h (by have := hS.ml; omega) (fun x hx => by have := hS.mw x hx; omega) (by have := hS.md; omega) (by omega)
        have eq2 := gEq_bool (sortF ((g :: M).map (addW w))) L (S ++ [.lst (A.map dM)]) (by have := hS.ld; omega)
        rw [hw, oF] at ew
        by_cases hL : sortF ((g :: M).map (addW w)) = L
        · refine ⟨some (.lst (dFL w)), ?_⟩
          have e0 : ca (g :: M) L f = some w := by simp only [ca, hb, hw, if_true]; rw [if_pos hL]
          have hm := mthR_loc (n := S.length) (S := S ++ [.lst (A.map dM)]) (ρ := [some (.lst (dFL L)), some (.lst (dFL (g :: M))), some (.loc S.length), some (.tup (dFL f.ws)), some (.int (g.b.val : Int)), some (.lst (dFL w))]) (xs := A.map dM) (g := gAppend) (a := fCons (fVar 5) fNil) cellOf_app
          have ga := gAppend_loc (n := S.length) (S := S ++ [.lst (A.map dM)]) (xs := A.map dM) (d := .lst (dFL w)) cellM_app (by rw [h8, List.length_map]; omega)
          have es : (S ++ [Cell.lst (A.map dM)]).set S.length (.lst (A.map dM ++ [.lst (dFL w)])) = S ++ [.lst ((A ++ [w]).map dM)] := by simp [dM]
          rw [es] at ga
          rw [e0, Option.toList, l_left_to_hand_in_0]
          rw [decide_eq_true hL] at eq2
          generalize sortF ((g :: M).map (addW w)) = Y at *
          rw [e1] at ene em hm ⊢
          rw [hb]
          generalize (A ++ [w]).map dM = A2 at *
          generalize A.map dM = A1 at *
          generalize dFL Y = Y1 at *
          generalize dFL L = X at *
          generalize dFL f.ws = Z at *
          generalize dFL g.ws = Z2 at *
          generalize dFL M = Z3 at *
          generalize dFL w = Z4 at *
          simp [ene, ew, em, eq2, hm, ga, wl]
        · refine ⟨some (.lst (dFL w)), ?_⟩
          have e0 : ca (g :: M) L f = none := by simp only [ca, hb, hw, if_true]; rw [if_neg hL]
          rw [e0, l_left_to_hand_in_0]
          rw [decide_eq_false hL] at eq2
          generalize sortF ((g :: M).map (addW w)) = Y at *
          rw [e1] at ene em ⊢
          rw [hb]
          generalize dFL Y = Y1 at *
          generalize dFL L = X at *
          generalize dFL f.ws = Z at *
          generalize dFL g.ws = Z2 at *
          generalize dFL M = Z3 at *
          generalize dFL w = Z4 at *
          simp [ene, ew, em, eq2]
    · refine ⟨x5, ?_⟩
      have e0 : ca (g :: M) L f = none := by simp [ca, hb]
      have hb' : ¬ ((f.b.val : Int) = (g.b.val : Int)) := fun z => hb ((fin8_eq _ _).mp z)
      rw [e0, l_left_to_hand_in_0]
      rw [e1] at ene ⊢
      generalize ((f.b.val : Nat) : Int) = B1 at *
      generalize ((g.b.val : Nat) : Int) = B2 at *
      generalize dFL L = X at *
      generalize dFL f.ws = Z at *
      generalize dFL g.ws = Z2 at *
      generalize dFL M = Z3 at *
      simp [ene, hb']
theorem lti_loop {m : Nat} {S : Store} {L M : List Fac} (t1 : Tab1 S) (h : 3 ≤ m) (hS : Sml L M) : ∀ (Z : List Fac) (A : List (List Fac)) {x3 x4 x5 : Option D}, (∀ f ∈ Z, f ∈ L) → A.length + Z.length ≤ 1000 →
    ∃ y3 y4 y5, forL (gTu 2 (gsCons (gN 3) (gsCons (gN 4) gsNil))) (l_left_to_hand_in_0 (ev m)) none (dFL Z) [some (.lst (dFL L)), some (.lst (dFL M)), some (.loc S.length), x3, x4, x5] (S ++ [.lst (A.map dM)]) = .nx [some (.lst (dFL L)), some (.lst (dFL M)), some (.loc S.length), y3, y4, y5] (S ++ [.lst ((A ++ cands M L Z).map dM)])
  | [], A, x3, x4, x5, _, _ => ⟨x3, x4, x5, by simp [dFL, cands]⟩
  | f :: Z, A, x3, x4, x5, hz, hl => by
    simp only [List.length_cons] at hl
    obtain ⟨z5, e1⟩ := lti_body (m := m) t1 h hS (hz f List.mem_cons_self) A (by omega) (x5 := x5)
    have hle : (ca M L f).toList.length ≤ 1 := by cases ca M L f <;> simp
    obtain ⟨y3, y4, y5, e2⟩ := lti_loop t1 h hS Z (A ++ (ca M L f).toList) (x3 := some (.tup (dFL f.ws))) (x4 := some (.int (f.b.val : Int))) (x5 := z5) (fun g hg => hz g (List.mem_cons_of_mem _ hg)) (by rw [List.length_append]; omega)
    refine ⟨y3, y4, y5, ?_⟩
    have e3 : A ++ cands M L (f :: Z) = (A ++ (ca M L f).toList) ++ cands M L Z := by
      unfold cands
      rw [List.filterMap_cons]
      cases ca M L f <;> simp
    have e0 : dF f = .tup [.tup (dFL f.ws), .int (f.b.val : Int)] := by cases f; rfl
    rw [e3, ← e2, dFL, forL_cons, e0]
    generalize (A ++ (ca M L f).toList).map dM = A2 at *
    generalize A.map dM = A1 at *
    simp [e1]
theorem srtM_nil {L : List (List Fac)} : srtM L = [] ↔ L = [] := by
  constructor
  · intro h
    have := (srtM_perm L).length_eq
    rw [h] at this
    exact List.length_eq_zero_iff.mp this.symm
  · intro h
    subst h
    exact List.Perm.eq_nil (srtM_perm [])
theorem lti_ok {n : Nat} {S : Store} {L M : List Fac} (t1 : Tab1 S) (h : 4 ≤ n) (hS : Sml L M) : ev n .f_left_to_hand_in [.lst (dFL L), .lst (dFL M)] S = .ok (oF (lh L M)) S := by
  have h8 : sizeLine = 16777216 := rfl
  obtain ⟨m, rfl, h'⟩ := up (d := 3) h
  have eq1 := gEq_bool L M S (by have := hS.ld; omega)
  by_cases hLM : L = M
  · have e0 : lh L M = some [] := by unfold lh; rw [if_pos hLM]
    rw [decide_eq_true hLM] at eq1
    have hc := cut_self (S := S) (under_oF (some []) S.length)
    rw [e0, oF, show dFL [] = [] from rfl] at *
    rw [ev, b_left_to_hand_in, fnC_ap]
    generalize dFL L = X at *
    generalize dFL M = Y at *
    simp [eq1, hc]
  · have e0 : lh L M = (srtM (cands M L L)).head? := by unfold lh; rw [if_neg hLM]
    rw [decide_eq_false hLM] at eq1
    obtain ⟨y3, y4, y5, e2⟩ := lti_loop (m := m) (S := S) (L := L) (M := M) t1 h' hS L [] (x3 := none) (x4 := none) (x5 := none) (fun f hf => hf) (by have := hS.ll; simp; omega)
    rw [List.nil_append, List.map_nil] at e2
    have cl : (cands M L L).length ≤ 1000 := Nat.le_trans (List.length_filterMap_le _ _) hS.ll
    have cd : ∀ w ∈ cands M L L, dpL w ≤ 180 := fun w hw => by
      obtain ⟨f, hf, hc⟩ := List.mem_filterMap.mp hw
      exact dp_mem (by have := ws_dp hf hS.ld; omega) fun x hx => (ca_sub hc).2.1.subset hx
    have tS : Tab1 (S ++ [.lst ((cands M L L).map dM)]) := tab_app t1
    have eo := in_order_M (n := m) (S := S ++ [.lst ((cands M L L).map dM)]) (c := S.length) (L := cands M L L) (by omega) tS cellOf_app cd (by omega)
    have en : gNe (.loc S.length) (.lst []) (S ++ [.lst ((cands M L L).map dM)]) = .ok (.bl (!decide (cands M L L = []))) (S ++ [.lst ((cands M L L).map dM)]) := by
      rw [gNe_nil cellOf_app]
      have : ((cands M L L).map dM).isEmpty = decide (cands M L L = []) := by
        cases cands M L L <;> simp
      rw [this]
    rw [e0]
    cases hs : srtM (cands M L L) with
    | nil =>
      have hcn := srtM_nil.mp hs
      have hc := cut_ok (S := S) (d := oF none) [.lst ((cands M L L).map dM)] (under_oF none _)
      rw [decide_eq_true hcn] at en
      rw [List.head?_nil]
      rw [oF] at hc ⊢
      rw [ev, b_left_to_hand_in, fnC_ap]
      generalize (cands M L L).map dM = C at *
      generalize dFL L = X at *
      generalize dFL M = Y at *
      simp [eq1, e2, en, hc]
    | cons w W =>
      have hcn : ¬ cands M L L = [] := fun z => by rw [srtM_nil.mpr z] at hs; cases hs
      have hc := cut_ok (S := S) (d := oF (some w)) [.lst ((cands M L L).map dM)] (under_oF (some w) _)
      rw [decide_eq_false hcn] at en
      rw [hs] at eo
      rw [List.head?_cons]
      rw [oF] at hc ⊢
      rw [ev, b_left_to_hand_in, fnC_ap]
      have ed : (w :: W).map dM = .lst (dFL w) :: W.map dM := rfl
      rw [ed] at eo
      generalize (cands M L L).map dM = C at *
      generalize dFL L = X at *
      generalize dFL M = Y at *
      generalize dFL w = Z at *
      generalize W.map dM = Z2 at *
      simp [eq1, e2, en, eo, hc]
end Kz
namespace Kz
open PySem PySem.Spec PyProof.Rows L2 Kw
def rowB : D → Bool
  | .tup [.str _, k] => isK k
  | _ => false
def rowN : D → Str
  | .tup [.str s, _] => s
  | _ => ""
theorem metS_mem (acc : List Str) (x y : Str) : y ∈ metS acc x ↔ y ∈ acc ∨ y = x := by
  unfold metS
  by_cases h : x ∈ acc
  · rw [if_pos h]
    exact ⟨.inl, fun z => z.elim id fun e => e ▸ h⟩
  · rw [if_neg h]; simp
theorem onceS_full : ∀ (xs acc : List Str), (xs.foldl metS acc).length = acc.length + xs.length ↔ (xs.Nodup ∧ ∀ x ∈ xs, x ∉ acc)
  | [], acc => by simp
  | x :: xs, acc => by
    rw [List.foldl_cons]
    have le := onceS_acc xs (metS acc x)
    by_cases h : x ∈ acc
    · have e : metS acc x = acc := by unfold metS; rw [if_pos h]
      rw [e] at le ⊢
      constructor
      · intro z; simp only [List.length_cons] at z; omega
      · intro z; exact absurd h (z.2 x List.mem_cons_self)
    · have e : metS acc x = acc ++ [x] := by unfold metS; rw [if_neg h]
      have ih := onceS_full xs (metS acc x)
      have l : (metS acc x).length = acc.length + 1 := by rw [e]; simp
      rw [l] at ih
      rw [List.length_cons, show acc.length + (xs.length + 1) = acc.length + 1 + xs.length by omega, ih, List.nodup_cons]
      constructor
      · rintro ⟨h1, h2⟩
        refine ⟨⟨fun z => h2 x z ((metS_mem _ _ _).mpr (.inr rfl)), h1⟩, fun y hy => ?_⟩
        rcases List.mem_cons.mp hy with rfl | hy
        · exact h
        · exact fun z => h2 y hy ((metS_mem _ _ _).mpr (.inl z))
      · rintro ⟨⟨h1, h2⟩, h3⟩
        refine ⟨h2, fun y hy z => ?_⟩
        rcases (metS_mem _ _ _).mp z with z | rfl
        · exact h3 y (List.mem_cons_of_mem _ hy) z
        · exact h1 hy
theorem onceS_nodup (xs : List Str) : ((onceS xs).length : Int) = (xs.length : Int) ↔ xs.Nodup := by
  have := onceS_full xs []
  simp only [List.length_nil, Nat.zero_add, List.not_mem_nil, not_false_eq_true, implies_true, and_true] at this
  rw [← this]
  unfold onceS
  omega
theorem textsOf_str : ∀ xs : List Str, textsOf (xs.map D.str) = some xs
  | [] => rfl
  | x :: xs => by simp [textsOf, textsOf_str xs]
theorem row_go {m : Nat} (h : 3 ≤ m) {d : D} (l : lay d) (hn : nd d ≤ 8000000) {S : Store} {x0 x2 x3 x4 : Option D} : l_is_library_0 (ev m) [x0, some d, x2, x3, x4] S = if rowB d = true then .nx [x0, some d, x2, x3, x4] S else .rt (.bl false) S := by
  rw [l_is_library_0]
  by_cases ht : ∃ ds, d = .tup ds
  · obtain ⟨ds, rfl⟩ := ht
    match ds, l, hn with
    | [], _, _ => simp [rowB]
    | [a], _, _ => simp [rowB]
    | a :: b :: c :: r, _, _ =>
      have e : ((r.length : Int) + 1 + 1 + 1 == 2) = false := by rw [beq_eq_false_iff_ne]; omega
      have e' : ¬ (r.length : Int) + 1 + 1 + 1 = 2 := by omega
      simp [rowB, e, e']
    | [a, b], l, hn =>
      have ll := lay_tup l
      rw [layL_cons, layL_cons] at ll
      by_cases hs : ∃ s, a = .str s
      · obtain ⟨s, rfl⟩ := hs
        have hb : nd b ≤ 8000000 := by simp only [nd, ndL] at hn; omega
        have e := is_kind_gen (n := m) (S := S) h hb ll.2.1
        cases hk : isK b <;> rw [hk] at e <;> simp [rowB, hk, e]
      · have hs' : ∀ s, a ≠ .str s := fun s z => hs ⟨s, z⟩
        have e := isi_nostr (S := S) ll.1 hs'
        have e2 : rowB (.tup [a, b]) = false := by
          unfold rowB
          split
          · rename_i hh; cases hh; exact absurd rfl (hs' _)
          · rfl
        simp [e, e2]
  · have ht' : ∀ ds, d ≠ .tup ds := fun ds z => ht ⟨ds, z⟩
    have e := isi_notup (S := S) l ht'
    have e2 : rowB d = false := by
      unfold rowB
      split
      · exact absurd rfl (ht' _)
      · rfl
    simp [e, e2]
theorem lib_loop {m : Nat} (h : 3 ≤ m) {S : Store} {x0 x2 x3 x4 : Option D} : ∀ (ds : List D) (x1 : Option D), layL ds → (∀ d ∈ ds, nd d ≤ 8000000) →
    forL (gN 1) (l_is_library_0 (ev m)) none ds [x0, x1, x2, x3, x4] S = if ds.all rowB = true then .nx [x0, (ds.getLast?).or x1, x2, x3, x4] S else .rt (.bl false) S
  | [], x1, _, _ => by simp
  | d :: ds, x1, l, hn => by
    rw [layL_cons] at l
    have e := row_go h l.1 (hn d List.mem_cons_self) (S := S) (x0 := x0) (x2 := x2) (x3 := x3) (x4 := x4)
    have ih := lib_loop h (S := S) (x0 := x0) (x2 := x2) (x3 := x3) (x4 := x4) ds (some d) l.2 fun y hy => hn y (List.mem_cons_of_mem _ hy)
    rw [forL_cons, gN_ap, tgR_some]
    show loopR _ (l_is_library_0 (ev m) [x0, some d, x2, x3, x4] S) = _
    rw [e]
    by_cases hb : rowB d = true
    · rw [if_pos hb, loopR_nx, ih]
      have e3 : (d :: ds).all rowB = ds.all rowB := by simp [hb]
      rw [e3]
      have e4 : ((d :: ds).getLast?).or x1 = (ds.getLast?).or (some d) := by
        cases ds with
        | nil => simp
        | cons a r =>
          rw [List.getLast?_cons_cons]
          cases hh : (a :: r).getLast? with
          | none => simp at hh
          | some y => simp
      rw [e4]
    · rw [if_neg hb]
      have e3 : (d :: ds).all rowB = false := by simp [hb]
      rw [e3]; simp
theorem rowB_at {d : D} (h : rowB d = true) : ∃ s k, d = .tup [.str s, k] ∧ isK k = true := by
  unfold rowB at h
  split at h
  · exact ⟨_, _, rfl, h⟩
  · cases h
theorem is_library_lst {n : Nat} (h : 4 ≤ n) {ds : List D} (l : layL ds) (hn : ∀ d ∈ ds, nd d ≤ 8000000) (hl : ds.length ≤ 1000) {S : Store} : ev n .f_is_library [.lst ds] S = .ok (.bl (ds.all rowB && decide (ds.map rowN).Nodup)) S := by
  have h8 : sizeLine = 16777216 := rfl
  obtain ⟨m, rfl, h'⟩ := up (d := 3) h
  have e := lib_loop h' (S := S) (x0 := some (.lst ds)) (x2 := none) (x3 := none) (x4 := none) ds none l hn
  by_cases hb : ds.all rowB = true
  · rw [if_pos hb] at e
    have hc := compL_of (tg := gTu 2 (gsCons (gN 3) (gsCons (gN 4) gsNil))) (tt := fYes) (te := fVar 3) (ρ := [some (.lst ds), (ds.getLast?).or none, none, none, none]) (S := S) id (fun d => .str (rowN d)) ds [] (fun d hd => by
      obtain ⟨s, k, rfl, hk⟩ := rowB_at (List.all_eq_true.mp hb d hd)
      exact ⟨[some (.lst ds), (ds.getLast?).or none, none, some (.str s), some k], by simp, rfl, by simp [rowN]⟩) (by rw [h8]; simp; omega)
    rw [List.map_id, List.nil_append] at hc
    have e2 : ds.map (fun d => D.str (rowN d)) = (ds.map rowN).map D.str := by rw [List.map_map]; rfl
    rw [e2] at hc
    have e3 : gLenSet (.lst ((ds.map rowN).map D.str)) S = .ok (.int ((onceS (ds.map rowN)).length : Int)) S := by
      unfold gLenSet
      have : seqL S (.lst ((ds.map rowN).map D.str)) = some ((ds.map rowN).map D.str) := rfl
      simp only [this, textsOf_str]
      rw [if_pos (by simp; omega)]
    have e4 := onceS_nodup (ds.map rowN)
    have e5 : ((((onceS (ds.map rowN)).length : Nat) : Int) == (((ds.map rowN).length : Nat) : Int)) = decide (ds.map rowN).Nodup := by
      rw [Bool.eq_iff_iff, beq_iff_eq, decide_eq_true_eq, e4]
    have e6 : ((((ds.map rowN).map D.str).length : Nat) : Int) = (((ds.map rowN).length : Nat) : Int) := by simp
    rw [hb, Bool.true_and, ← e5]
    rw [ev, b_is_library]
    generalize ((onceS (ds.map rowN)).length : Int) = V at *
    generalize ((ds.map rowN).length : Int) = V2 at *
    generalize (ds.map rowN).map D.str = N at *
    generalize (ds.getLast?).or none = G at *
    simp [e, wipeR, hc, e3, e6]
  · rw [if_neg hb] at e
    have e1 : ds.all rowB = false := by simpa using hb
    rw [ev, b_is_library, e1]
    simp [e]
theorem sure_library_ok {n : Nat} (h : 1 ≤ n) {d : D} {S : Store} (l : ev (n - 1) .f_is_library [d] S = .ok (.bl true) S) : ev n .f_sure_library [d] S = .ok .non S := by
  obtain ⟨m, rfl, h'⟩ := up (d := 0) h
  rw [Nat.add_sub_cancel] at l
  rw [ev, b_sure_library]
  simp [l]
theorem sure_library_bad {n : Nat} (h : 1 ≤ n) {d : D} {S : Store} (l : ev (n - 1) .f_is_library [d] S = .ok (.bl false) S) : ev n .f_sure_library [d] S = .ex ⟨"NoLibrary", [], []⟩ S := by
  obtain ⟨m, rfl, h'⟩ := up (d := 0) h
  rw [Nat.add_sub_cancel] at l
  rw [ev, b_sure_library]
  simp [l]
end Kz
namespace Kz
open PySem PySem.Spec PyProof.Rows L2 Kw
mutual
theorem kF_szx : ∀ f : Fac, (kF f).sz + 1 = 2 * tF f
  | .mk [] b => by simp [kF, Kd.sz, tF, tL]
  | .mk (w :: ws) b => by
    have e := kL_szx (w :: ws) (by simp)
    rw [kF]
    simp only [Kd.sz, tF]
    omega
theorem kL_szx : ∀ L : List Fac, L ≠ [] → (kL L).sz + 1 = 2 * tL L
  | [], h => absurd rfl h
  | [f], _ => by
    have := kF_szx f
    rw [kL]; simp only [tL]; omega
  | f :: g :: L, _ => by
    have h1 := kF_szx f
    have h2 := kL_szx (g :: L) (by simp)
    rw [kL]
    have e : tL (f :: g :: L) = tF f + tL (g :: L) := rfl
    simp only [Kd.sz]
    omega
end
mutual
theorem lv_tF : ∀ f : Fac, lvF f ≤ tF f
  | .mk ws b => by
    have := lv_tL ws
    simp only [lvF, tF]; omega
theorem lv_tL : ∀ L : List Fac, lvL L ≤ tL L
  | [] => by simp [lvL, tL]
  | f :: L => by
    have h1 := lv_tF f
    have h2 := lv_tL L
    simp only [lvL, tL]
    omega
end
theorem tF_pos (f : Fac) : 1 ≤ tF f := by rw [tF_ws]; omega
theorem len_tL : ∀ L : List Fac, L.length ≤ tL L
  | [] => by simp
  | f :: L => by
    have h1 := tF_pos f
    have h2 := len_tL L
    simp only [List.length_cons, tL]; omega
mutual
theorem sh_tF : ∀ (f : Fac) {M : Nat}, tF f ≤ M → shF M f
  | .mk ws b, M, h => by
    have e : tF (.mk ws b) = tL ws + 1 := rfl
    have := len_tL ws
    exact (shF_ws M (.mk ws b)).mpr ⟨by show ws.length ≤ M; omega, sh_tL ws (by omega)⟩
theorem sh_tL : ∀ (L : List Fac) {M : Nat}, tL L ≤ M → shL M L
  | [], M, _ => shL_mem.mpr fun f hf => nomatch hf
  | f :: L, M, h => by
    have e : tL (f :: L) = tF f + tL L := rfl
    have h1 := sh_tF f (M := M) (by omega)
    have h2 := sh_tL L (M := M) (by omega)
    exact shL_mem.mpr fun g hg => by
      rcases List.mem_cons.mp hg with rfl | hg
      · exact h1
      · exact shL_mem.mp h2 g hg
end
/-- what is wished, with the form w left to hand in -/
noncomputable def goal (w : List Fac) (W : Kd) : Kd := if w = [] then W else .frm (kL w) W
theorem ord_sub {L w : List Fac} (h : ordL L) (s : w.Sublist L) : ordL w := ordL_mem.mpr fun f hf => ordL_mem.mp h f (s.subset hf)
theorem sortF_sub {L w : List Fac} (h : sortF L = L) (s : w.Sublist L) : sortF w = w := sortF_of ((h ▸ sortF_pw L : L.Pairwise fun a b => PySem.W.dataLe false pF a b = true).sublist s)
/-- a form that is left is a form -/
theorem lh_form {K W : Kd} {w : List Fac} (h : lh (nf K) (nf W) = some w) : sortF w = w ∧ ordL w := by
  rcases lh_at h with ⟨_, rfl⟩ | ⟨_, _, ⟨f, hf, s⟩, _⟩
  · exact ⟨sortF_nil, ordL_mem.mpr fun f hf => nomatch hf⟩
  · have o := ordL_mem.mp (nf_ord K) f hf
    rw [ordF_ws] at o
    exact ⟨sortF_sub o.1 s, ord_sub o.2 s⟩
theorem nf_kLw {w : List Fac} (h : sortF w = w ∧ ordL w) : nf (kL w) = w := by rw [nf_kL w h.2, h.1]
theorem goal_nf {K W : Kd} {w : List Fac} (h : lh (nf K) (nf W) = some w) : nf (goal w W) = nf K := by
  have hf := lh_form h
  rcases lh_at h with ⟨e, rfl⟩ | ⟨_, _, _, e⟩
  · unfold goal; rw [if_pos rfl, e]
  · unfold goal
    by_cases hw : w = []
    · subst hw
      rw [if_pos rfl, ← e]
      have e1 : ∀ L : List Fac, ordL L → L.map (addW []) = L := fun L o => by
        conv => rhs; rw [← List.map_id L]
        exact List.map_congr_left fun f hf => addW_nil (ordL_mem.mp o f hf)
      rw [e1 _ (nf_ord W), nf_sort]
    · rw [if_neg hw, ← e]
      show sortF ((nf W).map (addW (nf (kL w)))) = _
      rw [nf_kLw hf]
theorem wished_from_ok {n : Nat} {S : Store} {w : List Fac} {W : Kd} (t1 : Tab1 S) (h : tL w ≤ 60) (hn : 130 ≤ n) (hf : sortF w = w ∧ ordL w) : ev n .f_wished_from [.lst (dFL w), W.d] S = .ok (goal w W).d S := by
  have h8 : sizeLine = 16777216 := rfl
  obtain ⟨m, rfl, h'⟩ := up (d := 129) hn
  have eq1 : gEq (.lst (dFL w)) (.lst []) S = .ok (.bl (decide (w = []))) S := by
    have := gEq_bool w [] S (by have := lv_tL w; have := dp_lvL w; omega)
    rw [show dFL [] = [] from rfl] at this
    exact this
  by_cases hw : w = []
  · rw [decide_eq_true hw] at eq1
    rw [ev, b_wished_from]
    unfold goal
    rw [if_pos hw]
    generalize W.d = X at *
    generalize dFL w = Y at *
    simp [eq1]
  · rw [decide_eq_false hw] at eq1
    have s1 := kL_szx w hw
    have s2 := dep_sz (kL w)
    have s3 := lv_tL w
    have s4 := dp_lvL w
    have s5 := len_tL w
    have ek := kind_of_ok (n := m) (S := S) (M := 60) t1 (by omega) (by omega) hf.1 hf.2 (sh_tL w h) (by omega) (by omega) (by omega)
    rw [ev, b_wished_from]
    unfold goal
    rw [if_neg hw]
    show _ = RE.ok (D.tup [.str "from", (kL w).d, W.d]) S
    generalize W.d = X at *
    generalize (kL w).d = X2 at *
    generalize dFL w = Y at *
    simp [eq1, ek, h8]
/-- a turner as the program tells it -/
def IsTn (K1 K2 : Kd) (t : Tm) : Prop := tkd [] t = some (.frm K1 K2) ∧ kdsT 1000 t ∧ t.ht ≤ 2 * K1.sz + 2 * K2.sz + 1 ∧ ∀ (n : Nat) (S : Store), Tab1 S → 4 * K1.sz + 4 * K2.sz + 12 ≤ n → ev n .f_turner [K1.d, K2.d] S = .ok t.d S
open Classical in
noncomputable def tnr (K1 K2 : Kd) : Tm := if h : ∃ t, IsTn K1 K2 t then Classical.choose h else .giv 0
theorem tnr_is {K1 K2 : Kd} (h1 : Smk K1) (h2 : Smk K2) (he : nf K1 = nf K2) : IsTn K1 K2 (tnr K1 K2) := by
  have d1 := dep_sz K1
  have d2 := dep_sz K2
  have z1 := h1.sz
  have z2 := h2.sz
  have h : ∃ t, IsTn K1 K2 t := turner_any h1 h2 (by omega) (by omega) he
  unfold tnr
  rw [dif_pos h]
  exact Classical.choose_spec h
abbrev Found := Str × List Fac × Tm × Tm
def dFd (o : Found) : D := .tup [.str o.1, .lst (dFL o.2.1), o.2.2.1.d, o.2.2.2.d]
def dRow (r : Str × Kd) : D := .tup [.str r.1, r.2.d]
noncomputable def found (W : Kd) (r : Str × Kd) : Option Found := (lh (nf r.2) (nf W)).map fun w => (r.1, w, tnr r.2 (goal w W), tnr (goal w W) r.2)
/-- a row's kind is not too great -/
structure RowOk (m : Nat) (W K : Kd) : Prop where
  sm : Smk K
  dep : K.dep + 3 ≤ m
  fit : ∀ w, lh (nf K) (nf W) = some w → Smk (goal w W) ∧ 4 * K.sz + 4 * (goal w W).sz + 12 ≤ m ∧ tL w ≤ 60
theorem Smk.sml {K W : Kd} (h : Smk K) (k : Smk W) : Sml (nf K) (nf W) := by
  have a1 := h.nfl
  have a2 := h.dp
  have a3 := h.sz
  have b1 := k.nfl
  have b2 := k.dp
  have b3 := k.sz
  exact ⟨a1, b1, fun f hf => by have := (nf_ok K).2.2 f hf; omega, fun f hf => by have := (nf_ok W).2.2 f hf; omega, a2, b2⟩
theorem sea_body {m : Nat} {S : Store} {W : Kd} {x0 : Option D} (t1 : Tab1 S) (h : 130 ≤ m) (hW : Smk W) (dW : W.dep + 3 ≤ m) {r : Str × Kd} (hr : RowOk m W r.2) (A : List Found) (hA : A.length ≤ 1000) {x5 x6 : Option D} :
    ∃ y5 y6, l_search_0 (ev m) [x0, some W.d, some (.loc S.length), some (.str r.1), some r.2.d, x5, x6] (S ++ [.lst (A.map dFd)]) = .nx [x0, some W.d, some (.loc S.length), some (.str r.1), some r.2.d, y5, y6] (S ++ [.lst ((A ++ (found W r).toList).map dFd)]) := by
  have h8 : sizeLine = 16777216 := rfl
  obtain ⟨s, K⟩ := r
  have tS : Tab1 (S ++ [.lst (A.map dFd)]) := tab_app t1
  have e1 := pl_k (n := m) (S := S ++ [.lst (A.map dFd)]) tS hr.sm hr.dep
  have e2 := pl_k (n := m) (S := S ++ [.lst (A.map dFd)]) tS hW dW
  have e3 := lti_ok (n := m) (S := S ++ [.lst (A.map dFd)]) tS (by omega) (hr.sm.sml hW)
  simp only at e1 e2 e3
  cases hl : lh (nf K) (nf W) with
  | none =>
    have ef : found W (s, K) = none := by simp [found, hl]
    rw [hl, oF] at e3
    refine ⟨some .non, x6, ?_⟩
    rw [ef, l_search_0]
    generalize dFL (nf K) = F1 at *
    generalize dFL (nf W) = F2 at *
    generalize K.d = X at *
    generalize W.d = Y at *
    simp [e1, e2, e3]
  | some w =>
    obtain ⟨g1, g2, g3⟩ := hr.fit w hl
    have gn := goal_nf hl
    have ew := wished_from_ok (n := m) (S := S ++ [.lst (A.map dFd)]) (W := W) tS g3 h (lh_form hl)
    have k1 := (tnr_is hr.sm g1 gn.symm).2.2.2 m (S ++ [.lst (A.map dFd)]) tS g2
    have k2 := (tnr_is g1 hr.sm gn).2.2.2 m (S ++ [.lst (A.map dFd)]) tS (by simp only at g2 ⊢; omega)
    have ef : found W (s, K) = some (s, w, tnr K (goal w W), tnr (goal w W) K) := by simp [found, hl]
    rw [hl, oF] at e3
    refine ⟨some (.lst (dFL w)), some (goal w W).d, ?_⟩
    have hm := mthR_loc (n := S.length) (S := S ++ [.lst (A.map dFd)]) (ρ := [x0, some W.d, some (.loc S.length), some (.str s), some K.d, some (.lst (dFL w)), some (goal w W).d]) (xs := A.map dFd) (g := gAppend) (a := fCons (fArg mkTup (fCons (fVar 3) (fCons (fVar 5) (fCons (fArg (ev m .f_turner) (fCons (fVar 4) (fCons (fVar 6) fNil))) (fCons (fArg (ev m .f_turner) (fCons (fVar 6) (fCons (fVar 4) fNil))) fNil))))) fNil) cellOf_app
    have ga := gAppend_loc (n := S.length) (S := S ++ [.lst (A.map dFd)]) (xs := A.map dFd) (d := dFd (s, w, tnr K (goal w W), tnr (goal w W) K)) cellM_app (by rw [h8, List.length_map]; omega)
    have es : (S ++ [Cell.lst (A.map dFd)]).set S.length (.lst (A.map dFd ++ [dFd (s, w, tnr K (goal w W), tnr (goal w W) K)])) = S ++ [.lst ((A ++ [(s, w, tnr K (goal w W), tnr (goal w W) K)]).map dFd)] := by simp
    rw [es] at ga
    rw [ef, Option.toList, l_search_0]
    generalize (A ++ [(s, w, tnr K (goal w W), tnr (goal w W) K)]).map dFd = A2 at *
    rw [dFd] at ga
    simp only at ga k1 k2
    generalize A.map dFd = A1 at *
    generalize (tnr K (goal w W)).d = T1 at *
    generalize (tnr (goal w W) K).d = T2 at *
    generalize (goal w W).d = G at *
    generalize dFL (nf K) = F1 at *
    generalize dFL (nf W) = F2 at *
    generalize dFL w = F3 at *
    generalize K.d = X at *
    generalize W.d = Y at *
    simp [e1, e2, e3, ew, k1, k2, hm, ga, h8]
theorem sea_loop {m : Nat} {S : Store} {W : Kd} {x0 : Option D} (t1 : Tab1 S) (h : 130 ≤ m) (hW : Smk W) (dW : W.dep + 3 ≤ m) : ∀ (rows : List (Str × Kd)) (A : List Found) {x3 x4 x5 x6 : Option D}, (∀ r ∈ rows, RowOk m W r.2) → A.length + rows.length ≤ 1000 →
    ∃ y3 y4 y5 y6, forL (gTu 2 (gsCons (gN 3) (gsCons (gN 4) gsNil))) (l_search_0 (ev m)) none (rows.map dRow) [x0, some W.d, some (.loc S.length), x3, x4, x5, x6] (S ++ [.lst (A.map dFd)]) = .nx [x0, some W.d, some (.loc S.length), y3, y4, y5, y6] (S ++ [.lst ((A ++ rows.filterMap (found W)).map dFd)])
  | [], A, x3, x4, x5, x6, _, _ => ⟨x3, x4, x5, x6, by simp⟩
  | r :: rows, A, x3, x4, x5, x6, hr, hl => by
    simp only [List.length_cons] at hl
    obtain ⟨z5, z6, e1⟩ := sea_body (m := m) (x0 := x0) t1 h hW dW (hr r List.mem_cons_self) A (by omega) (x5 := x5) (x6 := x6)
    have hle : (found W r).toList.length ≤ 1 := by cases found W r <;> simp
    obtain ⟨y3, y4, y5, y6, e2⟩ := sea_loop (x0 := x0) t1 h hW dW rows (A ++ (found W r).toList) (x3 := some (.str r.1)) (x4 := some r.2.d) (x5 := z5) (x6 := z6) (fun g hg => hr g (List.mem_cons_of_mem _ hg)) (by rw [List.length_append]; omega)
    refine ⟨y3, y4, y5, y6, ?_⟩
    have e3 : A ++ (r :: rows).filterMap (found W) = (A ++ (found W r).toList) ++ rows.filterMap (found W) := by
      rw [List.filterMap_cons]
      cases found W r <;> simp
    rw [e3, ← e2, List.map_cons, forL_cons]
    rw [show dRow r = .tup [.str r.1, r.2.d] from rfl]
    generalize (A ++ (found W r).toList).map dFd = A2 at *
    generalize A.map dFd = A1 at *
    generalize r.2.d = X at *
    generalize W.d = Y at *
    simp [e1]
end Kz
namespace Kz
open PySem PySem.Spec PyProof.Rows L2 Kw
theorem und_fds (q : Nat) : ∀ L : List Found, underL q (L.map dFd) = true
  | [] => rfl
  | o :: L => by
    have h1 := und_fds q L
    have h2 := und_tm q o.2.2.1
    have h3 := und_tm q o.2.2.2
    have h4 := und_lst q o.2.1
    simp only [List.map_cons, underL, dFd, D.under, h2, h3, h4, h1, Bool.and_true, Bool.and_self]
    simpa [D.under] using h4
/-- a library of good kinds -/
structure Lib (rows : List (Str × Kd)) : Prop where
  len : rows.length ≤ 500
  txt : ∀ r ∈ rows, PyData.strOk r.1 = true
  siz : ∀ r ∈ rows, r.2.sz ≤ 1000
theorem rowB_dRow (r : Str × Kd) : rowB (dRow r) = true := isK_kd r.2
theorem dRow_lay {r : Str × Kd} (h : PyData.strOk r.1 = true) : lay (dRow r) := by
  have := lay_kd r.2
  simp only [lay] at this
  simp [dRow, lay, pl, plL, h, this]
theorem dRow_nd {r : Str × Kd} (h : r.2.sz ≤ 1000) : nd (dRow r) ≤ 8000000 := by
  have := nd_kd r.2
  simp only [dRow, nd, ndL]
  omega
theorem layL_map {α : Type} {f : α → D} : ∀ {L : List α}, (∀ x ∈ L, lay (f x)) → layL (L.map f)
  | [], _ => rfl
  | x :: L, h => layL_cons.mpr ⟨h x List.mem_cons_self, layL_map fun y hy => h y (List.mem_cons_of_mem _ hy)⟩
theorem rowN_rows : ∀ rows : List (Str × Kd), (rows.map dRow).map rowN = rows.map Prod.fst
  | [] => rfl
  | r :: rows => by rw [List.map_cons, List.map_cons, List.map_cons, rowN_rows rows]; rfl
theorem is_lib {n : Nat} (h : 4 ≤ n) {rows : List (Str × Kd)} (L : Lib rows) {S : Store} : ev n .f_is_library [.lst (rows.map dRow)] S = .ok (.bl (decide (rows.map Prod.fst).Nodup)) S := by
  have e := is_library_lst (n := n) (S := S) h (ds := rows.map dRow) (layL_map fun r hr => dRow_lay (L.txt r hr)) (fun d hd => by
    obtain ⟨r, hr, rfl⟩ := List.mem_map.mp hd
    exact dRow_nd (L.siz r hr)) (by rw [List.length_map]; have := L.len; omega)
  have e1 : (rows.map dRow).all rowB = true := by
    rw [List.all_eq_true]
    intro d hd
    obtain ⟨r, hr, rfl⟩ := List.mem_map.mp hd
    exact rowB_dRow r
  rw [e, e1, rowN_rows, Bool.true_and]
theorem search_ok {n : Nat} {S : Store} {rows : List (Str × Kd)} {W : Kd} (h : 131 ≤ n) (t1 : Tab1 S) (L : Lib rows) (hn : (rows.map Prod.fst).Nodup) (hW : Smk W) (dW : W.dep + 4 ≤ n) (hr : ∀ r ∈ rows, RowOk (n - 1) W r.2) : ev n .f_search [.lst (rows.map dRow), W.d] S = .ok (.lst ((rows.filterMap (found W)).map dFd)) S := by
  have h8 : sizeLine = 16777216 := rfl
  obtain ⟨m, rfl, h'⟩ := up (d := 130) h
  rw [Nat.add_sub_cancel] at hr
  have e1 := sure_kind_kd (n := m) (k := W) (S := S) (by omega) (by have := hW.sz; omega)
  have e2 := sure_library_ok (n := m) (d := .lst (rows.map dRow)) (S := S) (by omega) (by rw [is_lib (by omega) L, decide_eq_true hn])
  obtain ⟨y3, y4, y5, y6, e3⟩ := sea_loop (m := m) (S := S) (W := W) (x0 := some (.lst (rows.map dRow))) t1 (by omega) hW (by omega) rows [] (x3 := none) (x4 := none) (x5 := none) (x6 := none) hr (by have := L.len; simp; omega)
  rw [List.map_nil, List.nil_append] at e3
  have hc := cut_ok (S := S) (d := .lst ((rows.filterMap (found W)).map dFd)) [.dead] (by simpa [D.under] using und_fds _ _)
  rw [ev, b_search, fnC_ap]
  generalize (rows.filterMap (found W)).map dFd = A at *
  generalize rows.map dRow = R at *
  generalize W.d = Y at *
  simp [e1, e2, e3, gFz, hc]
theorem search_nolib {n : Nat} {S : Store} {x d : D} (h : 5 ≤ n) (hk : ev (n - 1) .f_sure_kind [d] S = .ok .non S) (hl : ev (n - 1 - 1) .f_is_library [x] S = .ok (.bl false) S) : ev n .f_search [x, d] S = .ex ⟨"NoLibrary", [], []⟩ S := by
  obtain ⟨m, rfl, h'⟩ := up (d := 4) h
  rw [Nat.add_sub_cancel] at hk hl
  have e1 := sure_library_bad (n := m) (d := x) (S := S) (by omega) hl
  have hc := cut_ex (S := S) (e := ⟨"NoLibrary", [], []⟩) [] rfl
  rw [List.append_nil] at hc
  rw [ev, b_search, fnC_ap]
  simp [hk, e1, hc]
theorem sf_nolib {n : Nat} {S : Store} {x d y z : D} (h : 5 ≤ n) (hk : ev (n - 1) .f_sure_kind [d] S = .ok .non S) (hl : ev (n - 1 - 1) .f_is_library [x] S = .ok (.bl false) S) : ev n .f_search_fault [x, d, y, z] S = .ex ⟨"NoLibrary", [], []⟩ S := by
  obtain ⟨m, rfl, h'⟩ := up (d := 4) h
  rw [Nat.add_sub_cancel] at hk hl
  have e1 := sure_library_bad (n := m) (d := x) (S := S) (by omega) hl
  rw [ev, b_search_fault]
  simp [hk, e1]
/-- the kinds by a name -/
def byN (rows : List (Str × Kd)) (y : D) : List Kd := match y with
  | .str s => (rows.filter fun r => r.1 == s).map Prod.snd
  | _ => []
theorem byN_comp {S : Store} {lib kd y z : D} (ly : lay y) : ∀ (rows : List (Str × Kd)) (acc : List D), (acc.length + rows.length ≤ 1000) →
    compL (gTu 2 (gsCons (gN 8) (gsCons (gN 6) gsNil))) (fAnd (fTru (fIsi "str" (fVar 2))) (fB (f2 gEq (fVar 8) (fVar 2)))) (fVar 6) none [some lib, some kd, some y, some z, none, none, none, none, none] (rows.map dRow) acc S = .ok (acc ++ (byN rows y).map Kd.d) S
  | [], acc, _ => by
    rw [List.map_nil, compL_nil (by unfold gd; trivial)]
    have : byN [] y = [] := by unfold byN; cases y <;> rfl
    rw [this]; simp
  | r :: rows, acc, hl => by
    have h8 : sizeLine = 16777216 := rfl
    simp only [List.length_cons] at hl
    have tg : (gTu 2 (gsCons (gN 8) (gsCons (gN 6) gsNil))) (dRow r) [some lib, some kd, some y, some z, none, none, none, none, none] S = some ([some lib, some kd, some y, some z, none, none, some r.2.d, none, some (.str r.1)], S) := by
      rw [dRow]
      generalize r.2.d = X
      simp
    by_cases hs : ∃ s, y = .str s
    · obtain ⟨s, rfl⟩ := hs
      have tt : (fAnd (fTru (fIsi "str" (fVar 2))) (fB (f2 gEq (fVar 8) (fVar 2)))) [some lib, some kd, some (.str s), some z, none, none, some r.2.d, none, some (.str r.1)] S = .ok (r.1 == s) S := by
        generalize r.2.d = X
        simp
      by_cases he : (r.1 == s) = true
      · have ih := byN_comp (S := S) (lib := lib) (kd := kd) (z := z) ly rows (acc ++ [r.2.d]) (by simp; omega)
        rw [he] at tt
        rw [List.map_cons, compL_step (y := r.2.d) (S3 := S) (by unfold gd; trivial) tg tt (by simp) (by omega), ih]
        have : byN (r :: rows) (.str s) = r.2 :: byN rows (.str s) := by simp [byN, List.filter_cons, he]
        rw [this]; simp
      · have he' : (r.1 == s) = false := by simpa using he
        have ih := byN_comp (S := S) (lib := lib) (kd := kd) (z := z) ly rows acc (by omega)
        rw [he'] at tt
        rw [List.map_cons, compL_skip (by unfold gd; trivial) tg tt, ih]
        have : byN (r :: rows) (.str s) = byN rows (.str s) := by simp [byN, List.filter_cons, he']
        rw [this]
    · have hs' : ∀ s, y ≠ .str s := fun s e => hs ⟨s, e⟩
      have e := isi_nostr (S := S) ly hs'
      have tt : (fAnd (fTru (fIsi "str" (fVar 2))) (fB (f2 gEq (fVar 8) (fVar 2)))) [some lib, some kd, some y, some z, none, none, some r.2.d, none, some (.str r.1)] S = .ok false S := by
        generalize r.2.d = X
        simp [e]
      have ih := byN_comp (S := S) (lib := lib) (kd := kd) (z := z) ly rows acc (by omega)
      rw [List.map_cons, compL_skip (by unfold gd; trivial) tg tt, ih]
      have : ∀ rs, byN rs y = [] := fun rs => by
        unfold byN
        split
        · exact absurd rfl (hs' _)
        · rfl
      rw [this, this]
theorem sf_form {n : Nat} {S : Store} {rows : List (Str × Kd)} {W K : Kd} {Ks : List Kd} {y z : D} (h : 6 ≤ n) (L : Lib rows) (hn : (rows.map Prod.fst).Nodup) (hW : W.sz ≤ 1000) (ly : lay y) (hy : byN rows y = K :: Ks)
    (hz : isiR "tuple" z S = .ok (.bl false) S) : ev n .f_search_fault [.lst (rows.map dRow), W.d, y, z] S = .ok (.tup [.str "form"]) S := by
  have h8 : sizeLine = 16777216 := rfl
  obtain ⟨m, rfl, h'⟩ := up (d := 5) h
  have e1 := sure_kind_kd (n := m) (k := W) (S := S) (by omega) (by omega)
  have e2 := sure_library_ok (n := m) (d := .lst (rows.map dRow)) (S := S) (by omega) (by rw [is_lib (by omega) L, decide_eq_true hn])
  have e3 := byN_comp (S := S) (lib := .lst (rows.map dRow)) (kd := W.d) (z := z) ly rows [] (by have := L.len; simp; omega)
  rw [hy, List.map_cons, List.nil_append] at e3
  rw [ev, b_search_fault]
  generalize rows.map dRow = R at *
  generalize W.d = Y at *
  generalize K.d = Z at *
  simp [e1, e2, e3, wipeR, hz, h8]
end Kz
namespace Kz
open PySem PySem.Spec PyProof.Rows L2 Kw
/-- how many leaves a form has at most -/
def Tt : Nat → Nat
  | 0 => 0 | 1 => 1 | 2 => 2 | 3 => 4 | 4 => 7 | 5 => 11 | 6 => 16 | _ => 0
theorem Tt_fin : ∀ a b : _root_.Fin 7, 1 ≤ a.val → 1 ≤ b.val → a.val + b.val < 7 → Tt a.val + Tt b.val ≤ Tt (a.val + b.val) ∧ Tt b.val + b.val * Tt a.val ≤ Tt (a.val + b.val) := by decide
theorem Tt_ok (a : Nat) (ha : a < 7) (b : Nat) (hb : b < 7) : 1 ≤ a → 1 ≤ b → a + b < 7 → Tt a + Tt b ≤ Tt (a + b) ∧ Tt b + b * Tt a ≤ Tt (a + b) := Tt_fin ⟨a, ha⟩ ⟨b, hb⟩
theorem nf_T : ∀ k : Kd, lfk k ≤ 6 → tL (nf k) ≤ Tt (lfk k)
  | .base i, _ => by simp [nf, tL, tF, lfk, Tt]
  | .unit, _ => by simp [nf, tL, lfk, Tt]
  | .both a b, h => by
    simp only [lfk] at h ⊢
    have pa := lfk_pos a
    have pb := lfk_pos b
    have ha := nf_T a (by omega)
    have hb := nf_T b (by omega)
    have e : tL (nf (.both a b)) = tL (nf a) + tL (nf b) := by
      show tL (sortF (nf a ++ nf b)) = _
      rw [tL_perm (sortF_perm _), tL_app]
    have := (Tt_ok (lfk a) (by omega) (lfk b) (by omega) pa pb (by omega)).1
    omega
  | .frm a b, h => by
    simp only [lfk] at h ⊢
    have pa := lfk_pos a
    have pb := lfk_pos b
    have ha := nf_T a (by omega)
    have hb := nf_T b (by omega)
    have e : tL (nf (.frm a b)) = tL (nf b) + (nf b).length * tL (nf a) := by
      show tL (sortF ((nf b).map (addW (nf a)))) = _
      rw [tL_perm (sortF_perm _), tL_map_addW]
    have l := nf_lfk b
    have l2 : (nf b).length * tL (nf a) ≤ lfk b * Tt (lfk a) := Nat.mul_le_mul l ha
    have := (Tt_ok (lfk a) (by omega) (lfk b) (by omega) pa pb (by omega)).2
    omega
/-- kinds to which no more than so much is to be handed in -/
def Mor (B : Nat) (K W : Kd) : Prop := ∀ w, nf W ≠ [] → sortF ((nf W).map (addW w)) = nf K → tL w ≤ B
theorem mor_eq {K W : Kd} {w : List Fac} (h : sortF ((nf W).map (addW w)) = nf K) : tL (nf K) = tL (nf W) + (nf W).length * tL w := by
  rw [← h, tL_perm (sortF_perm _), tL_map_addW]
theorem ne_len {L : List Fac} (h : L ≠ []) : 1 ≤ L.length := List.length_pos_iff.mpr h
theorem mor_of {K W : Kd} {B : Nat} (h : tL (nf K) ≤ B + 1) : Mor B K W := fun w hw he => by
  have e := mor_eq he
  have l := ne_len hw
  have l2 := len_tL (nf W)
  have : 1 * tL w ≤ (nf W).length * tL w := Nat.mul_le_mul l (Nat.le_refl _)
  omega
theorem lfk_dep (k : Kd) : k.dep + 1 ≤ lfk k := by
  induction k with
  | base i => simp [Kd.dep, lfk]
  | unit => simp [Kd.dep, lfk]
  | both a b ha hb => simp only [Kd.dep, lfk]; omega
  | frm a b ha hb => simp only [Kd.dep, lfk]; omega
theorem row_ok {m : Nat} {W K : Kd} (h : 215 ≤ m) (hK : K.sz ≤ 23) (hW : lfk W ≤ 4) (hM : Mor 10 K W) : RowOk m W K := by
  have dk := dep_sz K
  have rK := rk_dep K
  have sw := lfk_sz W
  have dw := lfk_dep W
  have rw_ := rk_dep W
  refine ⟨⟨by omega, by omega⟩, by omega, fun w hl => ?_⟩
  have hf := lh_form hl
  by_cases hw : w = []
  · subst hw
    have e : goal [] W = W := by unfold goal; rw [if_pos rfl]
    rw [e]
    exact ⟨⟨by omega, by omega⟩, by omega, by simp [tL]⟩
  · have hb : tL w ≤ 10 := by
      rcases lh_at hl with ⟨_, e⟩ | ⟨_, e1, _, e2⟩
      · exact absurd e hw
      · exact hM w e1 e2
    have e : goal w W = .frm (kL w) W := by unfold goal; rw [if_neg hw]
    have s := kL_szx w hw
    have dq := dep_sz (kL w)
    have rq := rk_dep (kL w)
    rw [e]
    exact ⟨⟨by simp only [Kd.sz]; omega, by simp only [rk]; omega⟩, by simp only [Kd.sz]; omega, by omega⟩
end Kz
namespace Kz
open PySem PySem.Spec PyProof.Rows L2 Kw
theorem lt_of_at {S : Store} {w : Nat} {c : Cell} (h : S[w]? = some c) : w < S.length := by
  rcases Nat.lt_or_ge w S.length with hh | hh
  · exact hh
  · rw [List.getElem?_eq_none hh] at h; cases h
/-- a well lies at w -/
def Well (S : Store) (w : Nat) : Prop := ∃ a b c : Int, 0 ≤ a ∧ 0 ≤ c ∧ S[w]? = some (.lst [.int a, .int b, .int c])
/-- only the well was changed -/
structure WS (S : Store) (w : Nat) (S' : Store) : Prop where
  len : S'.length = S.length
  same : ∀ i, i ≠ w → S'[i]? = S[i]?
  well : Well S' w
theorem WS.refl {S : Store} {w : Nat} (h : Well S w) : WS S w S := ⟨rfl, fun _ _ => rfl, h⟩
theorem WS.trans {S S1 S2 : Store} {w : Nat} (h : WS S w S1) (k : WS S1 w S2) : WS S w S2 := ⟨k.len.trans h.len, fun i hi => (k.same i hi).trans (h.same i hi), k.well⟩
theorem WS.set {S : Store} {w : Nat} {a b c : Int} {x : Cell} (h : S[w]? = some x) (ha : 0 ≤ a) (hc : 0 ≤ c) : WS S w (S.set w (.lst [.int a, .int b, .int c])) :=
  ⟨by simp, fun i hi => by rw [List.getElem?_set_ne (Ne.symm hi)], a, b, c, ha, hc, List.getElem?_set_self (lt_of_at h)⟩
theorem well_new {n : Nat} {S : Store} {i : Int} (h : 1 ≤ n) : ∃ S', ev n .f__law_well [.int i] S = .ok (.loc S.length) (S ++ [S']) ∧ Well (S ++ [S']) S.length := by
  obtain ⟨m, rfl, h'⟩ := up h
  have m1 : CMul i (if i ≥ 10 ^ 18 then 1 else 0) ∨ CMulW i (if i ≥ 10 ^ 18 then 1 else 0) := .inl (.inr (by split <;> omega))
  refine ⟨.lst [.int (i * (if i ≥ 10 ^ 18 then 1 else 0)), .int i, .int 0], ?_, i * (if i ≥ 10 ^ 18 then 1 else 0), i, 0, ?_, by omega, by simp⟩
  · rw [ev, b__law_well]
    have h8 : sizeLine = 16777216 := rfl
    have e : (10 : Int) ^ 18 = 1000000000000000000 := by decide
    rw [e] at m1 ⊢
    by_cases h : (1000000000000000000 : Int) ≤ i
    · have h' : i ≥ 1000000000000000000 := h
      rw [if_pos h'] at m1 ⊢
      simp [h, m1, h8]
    · have h' : ¬ i ≥ 1000000000000000000 := h
      rw [if_neg h'] at m1 ⊢
      simp [h, m1, h8]
  · split
    · omega
    · omega
theorem draw_sp {n : Nat} {S : Store} {w : Nat} {m : Int} (h : 1 ≤ n) (hw : Well S w) (hm : 0 < m) (hm' : m < 1000000000) : ∃ r S', ev n .f__law_draw [.loc w, .int m] S = .ok (.int r) S' ∧ 0 ≤ r ∧ r < m ∧ WS S w S' := by
  obtain ⟨n, rfl, h'⟩ := up h
  obtain ⟨a, b, c, ha, hc, at_⟩ := hw
  have hw := lt_of_at at_
  have hlog : m.natAbs.log2 < 9000 := by
    rcases Nat.eq_zero_or_pos m.natAbs with h0 | h0
    · rw [h0]; decide
    · have : m.natAbs.log2 < 40 := (Nat.log2_lt (by omega)).mpr (by omega)
      omega
  rw [ev, b__law_draw]
  by_cases h0 : 0 < a
  · refine ⟨a % m, S.set w (.lst [.int (a / m), .int b, .int c]), ?_, Int.emod_nonneg _ (by omega), Int.emod_lt_of_pos _ hm, WS.set at_ (Int.ediv_nonneg ha (by omega)) hc⟩
    simp [cellOf_of at_, h0, hm, hlog, gSb, gSetI, cellM_of at_, L2.ixN]
  · have l1 : (1013 : Nat).log2 < 9000 := by decide
    have l2 : (2011 : Nat).log2 < 9000 := by decide
    have l3 : (2147483629 : Nat).log2 < 9000 := by decide +kernel
    have at2 : (S.set w (.lst [.int a, .int b, .int (c + 1)]))[w]? = some (.lst [.int a, .int b, .int (c + 1)]) := List.getElem?_set_self hw
    have c1 : ∀ i j : Int, 0 ≤ j → j < 18446744073709551616 → (CMul i j ∨ CMulW i j) = True := fun i j h1 h2 => eq_true (.inl (.inr ⟨by omega, by omega⟩))
    have c2 : ∀ i j : Int, 0 ≤ i → i < 18446744073709551616 → (CMul i j ∨ CMulW i j) = True := fun i j h1 h2 => eq_true (.inl (.inl ⟨by omega, by omega⟩))
    have b1 : ∀ x : Int, 0 ≤ x % 2147483647 ∧ x % 2147483647 < 2147483647 := fun x => by omega
    have b2 : ∀ x : Int, 0 ≤ x % 2147483629 ∧ x % 2147483629 < 2147483629 := fun x => by omega
    have k1 := fun (x y : Int) => c2 (x % 2147483647) y (b1 x).1 (by have := (b1 x).2; omega)
    have k2 := fun (x y : Int) => c2 (x % 2147483629) y (b2 x).1 (by have := (b2 x).2; omega)
    have k3 := fun (x : Int) => c1 x 48271 (by omega) (by omega)
    have k4 := fun (x : Int) => c2 69623 x (by omega) (by omega)
    have k5 := fun (x : Int) => c1 x 30013 (by omega) (by omega)
    obtain ⟨L0, hL0⟩ : ∃ L0 : Int, L0 = (b % 2147483629 + b / 2147483629 * 30013 + 69623 * (c + 1) + 1) * 48271 % 2147483647 := ⟨_, rfl⟩
    obtain ⟨L1, hL1⟩ : ∃ L1 : Int, L1 = L0 * (L0 / 1013 + 69621 + (c + 1)) % 2147483629 := ⟨_, rfl⟩
    refine ⟨(L1 * (L1 / 2011 + 40692) % 2147483399) % m, S.set w (.lst [.int a, .int b, .int (c + 1)]), ?_, Int.emod_nonneg _ (by omega), Int.emod_lt_of_pos _ hm, WS.set at_ ha (by omega)⟩
    subst hL1; subst hL0
    simp [cellOf_of at_, h0, hm, hlog, gSb, gSetI, cellM_of at_, L2.ixN, cellOf_of at2, k1, k2, k3, k4, k5, l1, l2, l3]
end Kz
namespace Kz
open PySem PySem.Spec PyProof.Rows L2 Kw
structure WX (S : Store) (w : Nat) (S' : Store) : Prop where
  le : S.length ≤ S'.length
  same : ∀ i, i < S.length → i ≠ w → S'[i]? = S[i]?
  well : Well S' w
theorem WS.wx {S S' : Store} {w : Nat} (h : WS S w S') : WX S w S' := ⟨by rw [h.len]; exact Nat.le_refl _, fun i _ hi => h.same i hi, h.well⟩
theorem WX.trans {S S1 S2 : Store} {w : Nat} (h : WX S w S1) (k : WX S1 w S2) : WX S w S2 := ⟨Nat.le_trans h.le k.le, fun i hl hi => (k.same i (Nat.lt_of_lt_of_le hl h.le) hi).trans (h.same i hl hi), k.well⟩
theorem well_app {S T : Store} {w : Nat} (h : Well S w) : Well (S ++ T) w := by
  obtain ⟨a, b, c, h1, h2, at_⟩ := h
  exact ⟨a, b, c, h1, h2, by rw [List.getElem?_append_left (lt_of_at at_)]; exact at_⟩
theorem WX.app {S S1 T : Store} {w : Nat} (h : WX S w S1) : WX S w (S1 ++ T) :=
  ⟨by simp; have := h.le; omega, fun i hl hi => by rw [List.getElem?_append_left (by have := h.le; omega)]; exact h.same i hl hi, well_app h.well⟩
theorem WX.set {S S1 : Store} {w v : Nat} {c : Cell} (h : WX S w S1) (hv : S.length ≤ v) (hw : w < S.length) : WX S w (S1.set v c) := by
  have ne : w ≠ v := by omega
  refine ⟨by simp; exact h.le, fun i hl hi => ?_, ?_⟩
  · rw [List.getElem?_set_ne (by omega)]; exact h.same i hl hi
  · obtain ⟨a, b, d, h1, h2, at_⟩ := h.well
    exact ⟨a, b, d, h1, h2, by rw [List.getElem?_set_ne (Ne.symm ne)]; exact at_⟩
theorem WX.cut {S S' : Store} {w : Nat} {d : D} (h : WX S w S') (hw : w < S.length) (hd : d.under S.length = true) : ∃ S'', cutR S (.ok d S') = .ok d S'' ∧ WS S w S'' := by
  have hc : CutOk S S' := by
    refine ⟨h.le, fun i c hi e => ?_⟩
    by_cases hiw : i = w
    · subst hiw
      obtain ⟨a, b, f, _, _, at_⟩ := h.well
      rw [at_] at e
      cases e
      right
      simp [Cell.under, underL, D.under]
    · left; rw [← h.same i hi hiw]; exact e
  refine ⟨S'.take S.length, by unfold cutR; simp only; rw [if_pos ⟨hd, hc⟩], ?_, fun i hi => ?_, ?_⟩
  · rw [List.length_take]; exact Nat.min_eq_left h.le
  · by_cases hl : i < S.length
    · rw [List.getElem?_take_of_lt hl]; exact h.same i hl hi
    · rw [List.getElem?_eq_none (by rw [List.length_take]; omega), List.getElem?_eq_none (by omega)]
  · obtain ⟨a, b, f, h1, h2, at_⟩ := h.well
    exact ⟨a, b, f, h1, h2, by rw [List.getElem?_take_of_lt hw]; exact at_⟩
theorem gSb_loc {i j v p : Nat} {ρ : FEnv} {S : Store} {ds : List D} {d : D} (h1 : ρ[i]? = some (some (.loc v))) (h2 : ρ[j]? = some (some (.int (p : Int)))) (at_ : S[v]? = some (.lst ds)) (hp : p < ds.length) :
    gSb (fVar i) (fVar j) d ρ S = some (ρ, S.set v (.lst (ds.set p d))) := by
  have e1 : fVar i ρ S = .ok (.loc v) S := by unfold fVar; rw [h1]
  have e2 : fVar j ρ S = .ok (.int (p : Int)) S := by unfold fVar; rw [h2]
  have e3 : L2.ixN ds.length (p : Int) = some p := by
    unfold L2.ixN
    rw [if_pos (by omega), if_pos (by omega)]
    rw [Int.toNat_natCast]
  unfold gSb
  rw [e1]
  simp only
  rw [e2]
  simp only [gSetI]
  rw [cellM_of at_]
  simp only
  rw [e3]
theorem gAdd_ll {xs ys : List D} {S : Store} (h : xs.length + ys.length ≤ sizeLine) : gAdd false (.lst xs) (.lst ys) S = .ok (.lst (xs ++ ys)) S := by
  show catL false (some xs) (some ys) S = _
  simp [catL, h]
end Kz
namespace Kw
open PySem PySem.Spec PyProof.Rows L2
noncomputable def tryCR (es : List Str) (cs : List ClF) (r : RS) : RS := match r with
  | .ex x ρ' S' => if x.cls ∈ es ∧ x.ns = [] then clsR x ρ' S' cs else .no
  | r => r
theorem sTryC_ap {es : List Str} {cs : List ClF} {b : FS} {ρ : FEnv} {S : Store} : sTryC es cs b ρ S = tryCR es cs (b ρ S) := by
  unfold sTryC tryCR
  cases b ρ S <;> rfl
section
variable {es : List Str} {cs : List ClF} {sub : Str → Bool} {o : Option Nat} {i : Nat} {c : Str → Addr → FS} {ρ : FEnv} {S : Store} {d : D} {y : Str} {r : RS}
@[simp] theorem tryCR_rt : tryCR es cs (.rt d S) = .rt d S := rfl
@[simp] theorem tryCR_nx : tryCR es cs (.nx ρ S) = .nx ρ S := rfl
theorem tryCR_ex (hy : y ∈ es) (h : clsR ⟨y, [], []⟩ ρ S cs = r) : tryCR es cs (.ex ⟨y, [], []⟩ ρ S) = r := by
  show (if y ∈ es ∧ ([] : List Str) = [] then _ else _) = _
  rw [if_pos ⟨hy, rfl⟩, h]
theorem clsR_hit (hs : sub y = true) (h : ∀ a, clRun o (c y) ρ S a = r) : clsR ⟨y, [], []⟩ ρ S ((sub, o, c) :: cs) = r := by
  unfold clsR
  rw [if_pos hs]
  exact aInd_eq h
end
end Kw
namespace Kz
open PySem PySem.Spec PyProof.Rows L2 Kw
def nms : List Str := ["", "a", "A", "a ", " a", "find", "1", "findall", "~", "aa"]
def rotN (t : Int) : List Str := cutL nms (some t) none ++ cutL nms none (some t)
theorem rot_all : ∀ t : _root_.Fin 10, ∀ z : _root_.Fin 7, (cutL (rotN (t.val : Int)) none (some (2 + (z.val : Int)))).Nodup ∧ (cutL (rotN (t.val : Int)) none (some (2 + (z.val : Int)))).length = 2 + z.val ∧ ∀ s ∈ cutL (rotN (t.val : Int)) none (some (2 + (z.val : Int))), s ∈ nms := by decide +kernel
theorem rot_ok {t z : Int} (h0 : 0 ≤ t) (h1 : t < 10) (h2 : 0 ≤ z) (h3 : z < 7) : (cutL (rotN t) none (some (2 + z))).Nodup ∧ 2 ≤ (cutL (rotN t) none (some (2 + z))).length ∧ (cutL (rotN t) none (some (2 + z))).length ≤ 8 ∧ ∀ s ∈ cutL (rotN t) none (some (2 + z)), s ∈ nms := by
  have h := rot_all ⟨t.toNat, by omega⟩ ⟨z.toNat, by omega⟩
  simp only at h
  rw [show ((t.toNat : Nat) : Int) = t by omega, show ((z.toNat : Nat) : Int) = z by omega] at h
  exact ⟨h.1, by omega, by omega, h.2.2⟩
theorem nms_txt : ∀ s ∈ nms, PyData.strOk s = true := by decide +kernel
theorem cutL_map {α β : Type} (f : α → β) (L : List α) (lo hi : Option Int) : cutL (L.map f) lo hi = (cutL L lo hi).map f := by
  simp [cutL, List.map_drop, List.map_take]
theorem ix_mem {α : Type} (f : α → D) {L : List α} {r : Int} {S : Store} (h0 : 0 ≤ r) (h1 : r < L.length) : ∃ x ∈ L, gIx (.lst (L.map f)) (.int r) S = .ok (f x) S := by
  obtain ⟨k, rfl⟩ : ∃ k : Nat, r = (k : Int) := ⟨r.toNat, by omega⟩
  have hk : k < L.length := by omega
  refine ⟨L[k], List.getElem_mem _, ?_⟩
  have e : (L.map f)[k]? = some (f L[k]) := by simp [List.getElem?_eq_getElem hk]
  have hk2 : k < (L.map f).length := by simpa using hk
  generalize L.map f = M at *
  have e2 : M[k] = f L[k] := by
    rw [List.getElem?_eq_getElem hk2] at e
    exact Option.some.inj e
  generalize f L[k] = y at *
  simp [hk2, List.getElem?_eq_getElem hk2, e2]
theorem base_of {r : Int} (h0 : 0 ≤ r) (h1 : r < 8) : ∃ k : Kd, k.d = .tup [.str "base", .int r] ∧ k.dep = 0 ∧ k.sz = 1 := by
  refine ⟨.base ⟨r.toNat, by omega⟩, ?_, rfl, rfl⟩
  simp [Kd.d]; omega
noncomputable def rowE (cl : Fn → FF) : FE := fArg mkTup (fCons (fVar 6) (fCons (f2 gIx (fVar 5) (fArg (cl .f__law_draw) (fCons (fVar 0) (fCons (fC (.int 7)) fNil)))) fNil))
theorem rows_loop {m w : Nat} (hm : 1 ≤ m) {KS : List Kd} (hk : KS.length = 7) {x1 x2 x3 x4 : Option D} : ∀ (ns : List Str) (acc : List D) {S : Store}, Well S w → acc.length + ns.length ≤ 100 →
    ∃ (rows : List (Str × Kd)) (S' : Store), compL (gN 6) fYes (rowE (ev m)) none [some (.loc w), x1, x2, x3, x4, some (.lst (KS.map Kd.d)), none] (ns.map D.str) acc S = .ok (acc ++ rows.map dRow) S' ∧ rows.map Prod.fst = ns ∧ (∀ r ∈ rows, r.2 ∈ KS) ∧ WS S w S'
  | [], acc, S, hw, _ => ⟨[], S, by simp [compL_nil (show gd none S by unfold gd; trivial)], rfl, by simp, WS.refl hw⟩
  | s :: ns, acc, S, hw, hl => by
    have h8 : sizeLine = 16777216 := rfl
    have s2 : 2 ≤ sizeLine := by omega
    obtain ⟨r, S1, e1, a1, b1, w1⟩ := draw_sp (n := m) (S := S) (w := w) (m := 7) (by omega) hw (by omega) (by omega)
    obtain ⟨K, hK, e2⟩ := ix_mem Kd.d (L := KS) (S := S1) a1 (by rw [hk]; omega)
    simp only [List.length_cons] at hl
    obtain ⟨rows, S2, e3, f1, f2, w2⟩ := rows_loop (x1 := x1) (x2 := x2) (x3 := x3) (x4 := x4) hm hk ns (acc ++ [dRow (s, K)]) w1.well (by simp; omega)
    refine ⟨(s, K) :: rows, S2, ?_, by rw [List.map_cons, f1], fun r hr => ?_, w1.trans w2⟩
    · rw [List.map_cons, compL_step (ρ1 := [some (.loc w), x1, x2, x3, x4, some (.lst (KS.map Kd.d)), some (.str s)]) (S1 := S) (S2 := S) (S3 := S1) (y := dRow (s, K)) (by unfold gd; trivial) rfl rfl ?_ (by omega), e3]
      · simp
      · unfold rowE dRow
        generalize KS.map Kd.d = M at *
        generalize K.d = Y at *
        simp [e1, e2, s2]
    · rcases List.mem_cons.mp hr with rfl | hr
      · exact hK
      · exact f2 r hr
noncomputable def A0 : FS := sSet 1 (fArg mkLst (fCons (fC (.str "")) (fCons (fC (.str "a")) (fCons (fC (.str "A")) (fCons (fC (.str "a ")) (fCons (fC (.str " a")) (fCons (fC (.str "find")) (fCons (fC (.str "1")) (fCons (fC (.str "findall")) (fCons (fC (.str "~")) (fCons (fC (.str "aa")) fNil)))))))))))
noncomputable def A1 (cl : Fn → FF) : FS := sSet 2 (fArg (cl .f__law_draw) (fCons (fVar 0) (fCons (fC (.int 10)) fNil)))
noncomputable def A2 (cl : Fn → FF) : FS := sSet 1 (fSl (gSl false) (f2 (gAdd false) (fSl (gSl false) (fVar 1) (fSome (fVar 2)) fNone) (fSl (gSl false) (fVar 1) fNone (fSome (fVar 2)))) fNone (fSome (f2 (gAdd false) (fC (.int 2)) (fArg (cl .f__law_draw) (fCons (fVar 0) (fCons (fC (.int 7)) fNil))))))
noncomputable def A3 (cl : Fn → FF) : FS := sPar 3 4 (fCons (fArg mkTup (fCons (fC (.str "base")) (fCons (fArg (cl .f__law_draw) (fCons (fVar 0) (fCons (fC (.int 8)) fNil))) fNil))) (fCons (fArg mkTup (fCons (fC (.str "base")) (fCons (fArg (cl .f__law_draw) (fCons (fVar 0) (fCons (fC (.int 8)) fNil))) fNil))) fNil))
noncomputable def A4 : FS := sSet 5 (fArg mkLst (fCons (fVar 3) (fCons (fVar 4) (fCons (fArg mkTup (fCons (fC (.str "both")) (fCons (fVar 3) (fCons (fVar 4) fNil)))) (fCons (fArg mkTup (fCons (fC (.str "both")) (fCons (fVar 4) (fCons (fVar 3) fNil)))) (fCons (fArg mkTup (fCons (fC (.str "from")) (fCons (fVar 3) (fCons (fVar 4) fNil)))) (fCons (fArg mkTup (fCons (fC (.str "unit")) fNil)) (fCons (fVar 3) fNil))))))))
noncomputable def A5 (cl : Fn → FF) : FS := sRet (fLc false (fiL (fVar 1)) (gN 6) fYes (rowE cl) [6])
theorem lib_eq (cl : Fn → FF) : b__law_library cl = sSeq A0 (sSeq (A1 cl) (sSeq (A2 cl) (sSeq (A3 cl) (sSeq A4 (A5 cl))))) := rfl
def kds7 (A B : Kd) : List Kd := [A, B, .both A B, .both B A, .frm A B, .unit, A]
theorem library_sp {n w : Nat} {S : Store} (h : 3 ≤ n) (hw : Well S w) : ∃ (rows : List (Str × Kd)) (S' : Store), ev n .f__law_library [.loc w] S = .ok (.lst (rows.map dRow)) S' ∧ WS S w S' ∧ 2 ≤ rows.length ∧ rows.length ≤ 8 ∧ (rows.map Prod.fst).Nodup ∧ (∀ r ∈ rows, r.1 ∈ nms) ∧ ∀ r ∈ rows, r.2.sz ≤ 3 := by
  obtain ⟨m, rfl, h'⟩ := up h
  have h8 : sizeLine = 16777216 := rfl
  obtain ⟨t, S1, e1, a1, b1, w1⟩ := draw_sp (n := m) (S := S) (w := w) (m := 10) (by omega) hw (by omega) (by omega)
  obtain ⟨z, S2, e2, a2, b2, w2⟩ := draw_sp (n := m) (S := S1) (w := w) (m := 7) (by omega) w1.well (by omega) (by omega)
  obtain ⟨a, S3, e3, a3, b3, w3⟩ := draw_sp (n := m) (S := S2) (w := w) (m := 8) (by omega) w2.well (by omega) (by omega)
  obtain ⟨b, S4, e4, a4, b4, w4⟩ := draw_sp (n := m) (S := S3) (w := w) (m := 8) (by omega) w3.well (by omega) (by omega)
  obtain ⟨A, dA, _, sA⟩ := base_of a3 b3
  obtain ⟨B, dB, _, sB⟩ := base_of a4 b4
  obtain ⟨n1, n2, n3, n4⟩ := rot_ok a1 b1 a2 b2
  generalize hN : cutL (rotN t) none (some (2 + z)) = N at *
  obtain ⟨rows, S5, e5, f1, f2, w5⟩ := rows_loop (m := m) (w := w) (KS := kds7 A B) (x1 := some (.lst (N.map D.str))) (x2 := some (.int t)) (x3 := some A.d) (x4 := some B.d) (by omega) rfl N [] w4.well (by simp; omega)
  refine ⟨rows, S5, ?_, (((w1.trans w2).trans w3).trans w4).trans w5, ?_, ?_, by rw [f1]; exact n1, fun r hr => ?_, fun r hr => ?_⟩
  · have q0 : A0 [some (.loc w), none, none, none, none, none, none] S = .nx [some (.loc w), some (.lst (nms.map D.str)), none, none, none, none, none] S := by
      simp [A0, h8, nms]
    have q1 : A1 (ev m) [some (.loc w), some (.lst (nms.map D.str)), none, none, none, none, none] S = .nx [some (.loc w), some (.lst (nms.map D.str)), some (.int t), none, none, none, none] S1 := by
      generalize nms.map D.str = M
      simp [A1, e1]
    have ad : gAdd false (.lst (cutL (nms.map D.str) (some t) none)) (.lst (cutL (nms.map D.str) none (some t))) S1 = .ok (.lst ((rotN t).map D.str)) S1 := by
      rw [cutL_map, cutL_map, gAdd_ll]
      · rw [rotN, List.map_append]
      · have c1 : ∀ (lo hi : Option Int), (cutL nms lo hi).length ≤ 10 := fun lo hi => by
          unfold cutL
          rw [List.length_take, List.length_drop]
          have : nms.length = 10 := rfl
          omega
        have := c1 (some t) none
        have := c1 none (some t)
        simp only [List.length_map]
        omega
    have q2 : A2 (ev m) [some (.loc w), some (.lst (nms.map D.str)), some (.int t), none, none, none, none] S1 = .nx [some (.loc w), some (.lst (N.map D.str)), some (.int t), none, none, none, none] S2 := by
      have e : cutL ((rotN t).map D.str) none (some (2 + z)) = N.map D.str := by rw [cutL_map, hN]
      generalize nms.map D.str = M at *
      generalize (rotN t).map D.str = R at *
      generalize N.map D.str = N2 at *
      simp [A2, ad, e2, e]
    have q3 : A3 (ev m) [some (.loc w), some (.lst (N.map D.str)), some (.int t), none, none, none, none] S2 = .nx [some (.loc w), some (.lst (N.map D.str)), some (.int t), some A.d, some B.d, none, none] S4 := by
      generalize N.map D.str = N2 at *
      rw [dA, dB]
      simp [A3, e3, e4, h8]
    have q4 : A4 [some (.loc w), some (.lst (N.map D.str)), some (.int t), some A.d, some B.d, none, none] S4 = .nx [some (.loc w), some (.lst (N.map D.str)), some (.int t), some A.d, some B.d, some (.lst ((kds7 A B).map Kd.d)), none] S4 := by
      generalize N.map D.str = N2 at *
      have ek : (kds7 A B).map Kd.d = [A.d, B.d, .tup [.str "both", A.d, B.d], .tup [.str "both", B.d, A.d], .tup [.str "from", A.d, B.d], .tup [.str "unit"], A.d] := by
        simp [kds7, Kd.d]
      rw [ek]
      generalize A.d = X
      generalize B.d = Y
      simp [A4, h8]
    have q5 : A5 (ev m) [some (.loc w), some (.lst (N.map D.str)), some (.int t), some A.d, some B.d, some (.lst ((kds7 A B).map Kd.d)), none] S4 = .rt (.lst (rows.map dRow)) S5 := by
      rw [List.nil_append] at e5
      generalize (kds7 A B).map Kd.d = KD at *
      generalize N.map D.str = N2 at *
      generalize rows.map dRow = RD at *
      unfold A5
      generalize rowE (ev m) = TE at *
      simp [wipeR, e5]
    rw [ev, lib_eq, fnB_1]
    show RS.fin (sSeq _ _ [some (.loc w), none, none, none, none, none, none] S) = _
    rw [sSeq_ap, q0, sb_nx, sSeq_ap, q1, sb_nx, sSeq_ap, q2, sb_nx, sSeq_ap, q3, sb_nx, sSeq_ap, q4, sb_nx, q5, fin_rt]
  · have : rows.length = N.length := by rw [← f1, List.length_map]
    omega
  · have : rows.length = N.length := by rw [← f1, List.length_map]
    omega
  · exact n4 r.1 (by rw [← f1]; exact List.mem_map_of_mem hr)
  · have := f2 r hr
    simp only [kds7, List.mem_cons, List.not_mem_nil, or_false] at this
    rcases this with z | z | z | z | z | z | z <;> rw [z] <;> first | omega | (simp only [Kd.sz]; omega)
end Kz
namespace Kz
open PySem PySem.Spec PyProof.Rows L2 Kw
theorem ix_at {α : Type} (f : α → D) {L : List α} {k : Nat} {S : Store} (hk : k < L.length) : gIx (.lst (L.map f)) (.int (k : Int)) S = .ok (f L[k]) S := by
  have e : (L.map f)[k]? = some (f L[k]) := by simp [List.getElem?_eq_getElem hk]
  have hk2 : k < (L.map f).length := by simpa using hk
  generalize L.map f = M at *
  have e2 : M[k] = f L[k] := by
    rw [List.getElem?_eq_getElem hk2] at e
    exact Option.some.inj e
  generalize f L[k] = y at *
  simp [hk2, List.getElem?_eq_getElem hk2, e2]
theorem row0 {r : Str × Kd} {S : Store} : gIx (dRow r) (.int 0) S = .ok (.str r.1) S := by simp [dRow]
theorem row1 {r : Str × Kd} {S : Store} : gIx (dRow r) (.int 1) S = .ok r.2.d S := by
  unfold dRow
  generalize r.2.d = Y
  simp
theorem not_nodup {L : List Str} {i j : Nat} (hi : i < L.length) (hj : j < L.length) (hne : i ≠ j) (he : L[i] = L[j]) : ¬ L.Nodup := fun h => by
  have h2 := List.pairwise_iff_getElem.mp h
  rcases Nat.lt_or_gt_of_ne hne with z | z
  · exact h2 i j hi hj z he
  · exact h2 j i hj hi z he.symm
theorem kd_und : ∀ (k : Kd) (n : Nat), k.d.under n = true
  | .base i, n => by simp [Kd.d, D.under, underL]
  | .unit, n => by simp [Kd.d, D.under, underL]
  | .both a b, n => by simp [Kd.d, D.under, underL, kd_und a n, kd_und b n]
  | .frm a b, n => by simp [Kd.d, D.under, underL, kd_und a n, kd_und b n]
noncomputable def B0 (cl : Fn → FF) : FS := sSet 2 (fArg (cl .f__law_draw) (fCons (fVar 0) (fCons (fArg gLen (fCons (fVar 1) fNil)) fNil)))
noncomputable def B1 (cl : Fn → FF) : FS := sSet 3 (fArg mkLst (fCons (f2 gMod (f2 (gAdd false) (f2 (gAdd false) (fVar 2) (fC (.int 1))) (fArg (cl .f__law_draw) (fCons (fVar 0) (fCons (f2 gSub (fArg gLen (fCons (fVar 1) fNil)) (fC (.int 1))) fNil)))) (fArg gLen (fCons (fVar 1) fNil))) (fCons (f2 gMod (f2 (gAdd false) (fVar 2) (fC (.int 1))) (fArg gLen (fCons (fVar 1) fNil))) fNil)))
noncomputable def B2 (cl : Fn → FF) : FS := sSet 3 (f2 gIx (fVar 3) (fArg (cl .f__law_draw) (fCons (fVar 0) (fCons (fC (.int 2)) fNil))))
noncomputable def B3 : FS := sSet 4 (f2 gIx (f2 gIx (fVar 1) (fVar 2)) (fC (.int 0)))
noncomputable def B4 : FS := sSet 5 (fArg (gList true) (fCons (fVar 1) fNil))
noncomputable def B5e (cl : Fn → FF) : FE := fArg mkTup (fCons (fVar 4) (fCons (f2 gIx (fArg mkLst (fCons (f2 gIx (f2 gIx (fVar 1) (fVar 3)) (fC (.int 1))) (fCons (f2 gIx (f2 gIx (fVar 1) (fVar 2)) (fC (.int 1))) fNil))) (fArg (cl .f__law_draw) (fCons (fVar 0) (fCons (fC (.int 2)) fNil)))) fNil))
noncomputable def B5 (cl : Fn → FF) : FS := sAsg (B5e cl) (gSb (fVar 5) (fVar 3))
noncomputable def B6 : FS := sRet (fArg mkTup (fCons (f1 gFz (fVar 5)) (fCons (fVar 4) fNil)))
theorem tw_eq (cl : Fn → FF) : b__law_twice cl = sSeq (B0 cl) (sSeq (B1 cl) (sSeq (B2 cl) (sSeq B3 (sSeq B4 (sSeq (B5 cl) B6))))) := rfl
/-- a library in which a name stands twice -/
structure Twc (rows bad : List (Str × Kd)) : Prop where
  len : bad.length = rows.length
  dup : ¬ (bad.map Prod.fst).Nodup
  txt : ∀ r ∈ bad, r.1 ∈ nms
  siz : ∀ r ∈ bad, r.2.sz ≤ 3
theorem other_ne {s V d : Int} (hs : 0 ≤ s) (hs2 : s < V) (hV : 2 ≤ V) (hV8 : V ≤ 8) (hd : 0 ≤ d) (hd2 : d < V - 1) : 0 ≤ (s + 1 + d) % V ∧ (s + 1 + d) % V < V ∧ (s + 1 + d) % V ≠ s := by
  refine ⟨Int.emod_nonneg _ (by omega), Int.emod_lt_of_pos _ (by omega), fun e => ?_⟩
  by_cases h : s + 1 + d < V
  · rw [Int.emod_eq_of_lt (by omega) h] at e; omega
  · have e2 : (s + 1 + d) % V = s + 1 + d - V := by
      rw [← Int.sub_emod_right (s + 1 + d) V]
      exact Int.emod_eq_of_lt (by omega) (by omega)
    omega
theorem twice_sp {n w : Nat} {S : Store} {rows : List (Str × Kd)} (h : 3 ≤ n) (hw : Well S w) (h2 : 2 ≤ rows.length) (h8' : rows.length ≤ 8) (ht : ∀ r ∈ rows, r.1 ∈ nms) (hz : ∀ r ∈ rows, r.2.sz ≤ 3) :
    ∃ (bad : List (Str × Kd)) (nm : Str) (S' : Store), ev n .f__law_twice [.loc w, .lst (rows.map dRow)] S = .ok (.tup [.lst (bad.map dRow), .str nm]) S' ∧ WS S w S' ∧ Twc rows bad ∧ nm ∈ nms := by
  obtain ⟨m, rfl, h'⟩ := up h
  have h8 : sizeLine = 16777216 := rfl
  have s2 : 2 ≤ sizeLine := by omega
  obtain ⟨V, hV⟩ : ∃ V : Int, V = (rows.length : Int) := ⟨_, rfl⟩
  have eL : ∀ T : Store, gLen [.lst (rows.map dRow)] T = .ok (.int V) T := fun T => by
    rw [hV, ← List.length_map (f := dRow)]
    generalize rows.map dRow = M
    simp
  obtain ⟨s, S1, e1, a1, b1, w1⟩ := draw_sp (n := m) (S := S) (w := w) (m := V) (by omega) hw (by omega) (by omega)
  obtain ⟨d, S2, e2, a2, b2, w2⟩ := draw_sp (n := m) (S := S1) (w := w) (m := V - 1) (by omega) w1.well (by omega) (by omega)
  obtain ⟨o1, o2, o3⟩ := other_ne a1 b1 (by omega) (by omega) a2 b2
  obtain ⟨p1, p2, p3⟩ := other_ne (d := 0) a1 b1 (by omega) (by omega) (by omega) (by omega)
  rw [Int.add_zero] at p1 p2 p3
  obtain ⟨c3, S3, e3, a3, b3, w3⟩ := draw_sp (n := m) (S := S2) (w := w) (m := 2) (by omega) w2.well (by omega) (by omega)
  obtain ⟨p, hp, ep⟩ := ix_mem D.int (L := [(s + 1 + d) % V, (s + 1) % V]) (S := S3) a3 b3
  have pf : 0 ≤ p ∧ p < V ∧ p ≠ s := by
    simp only [List.mem_cons, List.not_mem_nil, or_false] at hp
    rcases hp with rfl | rfl
    · exact ⟨o1, o2, o3⟩
    · exact ⟨p1, p2, p3⟩
  obtain ⟨pN, rfl⟩ : ∃ k : Nat, p = (k : Int) := ⟨p.toNat, by omega⟩
  obtain ⟨sN, rfl⟩ : ∃ k : Nat, s = (k : Int) := ⟨s.toNat, by omega⟩
  have hpl : pN < rows.length := by omega
  have hsl : sN < rows.length := by omega
  have ips : ∀ T : Store, gIx (.lst (rows.map dRow)) (.int (pN : Int)) T = .ok (dRow rows[pN]) T := fun T => ix_at dRow hpl
  have iss : ∀ T : Store, gIx (.lst (rows.map dRow)) (.int (sN : Int)) T = .ok (dRow rows[sN]) T := fun T => ix_at dRow hsl
  have wl : w < S3.length := lt_of_at w3.well.choose_spec.choose_spec.choose_spec.2.2
  have w3' : Well (S3 ++ [.lst (rows.map dRow)]) w := well_app w3.well
  obtain ⟨c4, S4, e4, a4, b4, w4⟩ := draw_sp (n := m) (S := S3 ++ [.lst (rows.map dRow)]) (w := w) (m := 2) (by omega) w3' (by omega) (by omega)
  obtain ⟨K, hK, eK⟩ := ix_mem Kd.d (L := [rows[pN].2, rows[sN].2]) (S := S4) a4 b4
  have at4 : S4[S3.length]? = some (.lst (rows.map dRow)) := by
    rw [w4.same S3.length (by omega)]; simp
  refine ⟨rows.set pN (rows[sN].1, K), rows[sN].1, ?_⟩
  have eset : (rows.map dRow).set pN (dRow (rows[sN].1, K)) = (rows.set pN (rows[sN].1, K)).map dRow := by rw [List.map_set]
  have q0 : B0 (ev m) [some (.loc w), some (.lst (rows.map dRow)), none, none, none, none] S = .nx [some (.loc w), some (.lst (rows.map dRow)), some (.int (sN : Int)), none, none, none] S1 := by
    generalize rows.map dRow = M at *
    generalize (sN : Int) = s at *
    simp [B0, eL, e1]
  have q1 : B1 (ev m) [some (.loc w), some (.lst (rows.map dRow)), some (.int (sN : Int)), none, none, none] S1 = .nx [some (.loc w), some (.lst (rows.map dRow)), some (.int (sN : Int)), some (.lst [.int (((sN : Int) + 1 + d) % V), .int (((sN : Int) + 1) % V)]), none, none] S2 := by
    have v0 : 0 < V := by omega
    clear ips iss eK ep at4 e3 e4
    generalize rows.map dRow = M at *
    generalize (sN : Int) = s at *
    simp [B1, eL, e2, v0, s2]
  have q2 : B2 (ev m) [some (.loc w), some (.lst (rows.map dRow)), some (.int (sN : Int)), some (.lst [.int (((sN : Int) + 1 + d) % V), .int (((sN : Int) + 1) % V)]), none, none] S2 = .nx [some (.loc w), some (.lst (rows.map dRow)), some (.int (sN : Int)), some (.int (pN : Int)), none, none] S3 := by
    simp only [List.map_cons, List.map_nil] at ep
    clear ips iss eK at4 e4
    generalize rows.map dRow = M at *
    generalize D.lst [D.int (((sN : Int) + 1 + d) % V), D.int (((sN : Int) + 1) % V)] = OL at *
    generalize (sN : Int) = s at *
    generalize (pN : Int) = p at *
    simp [B2, e3, ep]
  have q3 : B3 [some (.loc w), some (.lst (rows.map dRow)), some (.int (sN : Int)), some (.int (pN : Int)), none, none] S3 = .nx [some (.loc w), some (.lst (rows.map dRow)), some (.int (sN : Int)), some (.int (pN : Int)), some (.str rows[sN].1), none] S3 := by
    have r0 := row0 (r := rows[sN]) (S := S3)
    clear ips eK at4 e4
    generalize rows.map dRow = M at *
    generalize dRow rows[sN] = Y at *
    generalize (sN : Int) = s at *
    generalize (pN : Int) = p at *
    simp [B3, iss, r0]
  have q4 : B4 [some (.loc w), some (.lst (rows.map dRow)), some (.int (sN : Int)), some (.int (pN : Int)), some (.str rows[sN].1), none] S3 = .nx [some (.loc w), some (.lst (rows.map dRow)), some (.int (sN : Int)), some (.int (pN : Int)), some (.str rows[sN].1), some (.loc S3.length)] (S3 ++ [.lst (rows.map dRow)]) := by
    clear ips iss eK at4 e4
    have g : gList true [.lst (rows.map dRow)] S3 = .ok (.loc S3.length) (S3 ++ [.lst (rows.map dRow)]) := rfl
    generalize rows.map dRow = M at *
    generalize (sN : Int) = s at *
    generalize (pN : Int) = p at *
    generalize hv : S3.length = v at *
    simp [B4, g]
  have q5 : B5 (ev m) [some (.loc w), some (.lst (rows.map dRow)), some (.int (sN : Int)), some (.int (pN : Int)), some (.str rows[sN].1), some (.loc S3.length)] (S3 ++ [.lst (rows.map dRow)]) = .nx [some (.loc w), some (.lst (rows.map dRow)), some (.int (sN : Int)), some (.int (pN : Int)), some (.str rows[sN].1), some (.loc S3.length)] (S4.set S3.length (.lst ((rows.set pN (rows[sN].1, K)).map dRow))) := by
    have gs := gSb_loc (i := 5) (j := 3) (ρ := [some (.loc w), some (.lst (rows.map dRow)), some (.int (sN : Int)), some (.int (pN : Int)), some (.str rows[sN].1), some (.loc S3.length)]) (d := dRow (rows[sN].1, K)) rfl rfl at4 (by rw [List.length_map]; exact hpl)
    rw [eset] at gs
    have e5 : B5e (ev m) [some (.loc w), some (.lst (rows.map dRow)), some (.int (sN : Int)), some (.int (pN : Int)), some (.str rows[sN].1), some (.loc S3.length)] (S3 ++ [.lst (rows.map dRow)]) = .ok (dRow (rows[sN].1, K)) S4 := by
      have r1 := row1 (r := rows[sN]) (S := S3 ++ [.lst (rows.map dRow)])
      have r2 := row1 (r := rows[pN]) (S := S3 ++ [.lst (rows.map dRow)])
      have i1 := ips (S3 ++ [.lst (rows.map dRow)])
      have i2 := iss (S3 ++ [.lst (rows.map dRow)])
      simp only [List.map_cons, List.map_nil] at eK
      clear ips iss gs eset at4
      unfold B5e
      rw [show dRow (rows[sN].1, K) = .tup [.str rows[sN].1, K.d] from rfl]
      generalize S3 ++ [.lst (rows.map dRow)] = T at *
      generalize rows.map dRow = M at *
      generalize dRow rows[sN] = Y1 at *
      generalize dRow rows[pN] = Y2 at *
      generalize rows[sN].2.d = Z1 at *
      generalize rows[pN].2.d = Z2 at *
      generalize K.d = Z3 at *
      generalize (sN : Int) = s at *
      generalize (pN : Int) = p at *
      simp [-gIx_lst, i1, i2, r1, r2, e4, eK, s2]
    rw [B5, sAsg_ap, e5, toS_ok, gs]
    rfl
  have at5 : (S4.set S3.length (.lst ((rows.set pN (rows[sN].1, K)).map dRow)))[S3.length]? = some (.lst ((rows.set pN (rows[sN].1, K)).map dRow)) := by
    rw [List.getElem?_set_self (lt_of_at at4)]
  have q6 : B6 [some (.loc w), some (.lst (rows.map dRow)), some (.int (sN : Int)), some (.int (pN : Int)), some (.str rows[sN].1), some (.loc S3.length)] (S4.set S3.length (.lst ((rows.set pN (rows[sN].1, K)).map dRow))) = .rt (.tup [.lst ((rows.set pN (rows[sN].1, K)).map dRow), .str rows[sN].1]) ((S4.set S3.length (.lst ((rows.set pN (rows[sN].1, K)).map dRow))).set S3.length .dead) := by
    have gf : gFz (.loc S3.length) (S4.set S3.length (.lst ((rows.set pN (rows[sN].1, K)).map dRow))) = .ok (.lst ((rows.set pN (rows[sN].1, K)).map dRow)) ((S4.set S3.length (.lst ((rows.set pN (rows[sN].1, K)).map dRow))).set S3.length .dead) := by
      simp only [gFz, cellM_of at5]
    clear ips iss eK at4 at5 eset
    generalize rows.map dRow = M at *
    generalize (sN : Int) = s at *
    generalize (pN : Int) = p at *
    generalize (S4.set S3.length (.lst ((rows.set pN (rows[sN].1, K)).map dRow))) = T at *
    generalize T.set S3.length .dead = T2 at *
    generalize (rows.set pN (rows[sN].1, K)).map dRow = B at *
    generalize S3.length = v at *
    simp [B6, gf, s2]
  have wx : WX S w ((S4.set S3.length (.lst ((rows.set pN (rows[sN].1, K)).map dRow))).set S3.length .dead) := by
    have l3 : S3.length = S.length := by rw [w3.len, w2.len, w1.len]
    have x3 : WX S w S3 := ((w1.trans w2).trans w3).wx
    have x4 : WX S w S4 := (x3.app (T := [.lst (rows.map dRow)])).trans w4.wx
    have hw' : w < S.length := by omega
    exact (x4.set (by omega) hw').set (by omega) hw'
  have und : (D.tup [.lst ((rows.set pN (rows[sN].1, K)).map dRow), .str rows[sN].1]).under S.length = true := by
    have hu : ∀ L : List (Str × Kd), underL S.length (L.map dRow) = true := fun L => by
      induction L with
      | nil => rfl
      | cons r L ih =>
        rw [List.map_cons, underL, ih]
        have : (dRow r).under S.length = true := by
          have hk := kd_und r.2 S.length
          simp [dRow, D.under, underL, hk]
        rw [this]; rfl
    simp only [D.under, underL, hu, Bool.and_self]
  obtain ⟨S'', hc, w''⟩ := wx.cut (d := .tup [.lst ((rows.set pN (rows[sN].1, K)).map dRow), .str rows[sN].1]) (by have := w1.len; have := w2.len; have := w3.len; omega) und
  refine ⟨S'', ?_, w'', ⟨by simp, ?_, fun r hr => ?_, fun r hr => ?_⟩, ht _ (List.getElem_mem _)⟩
  · rw [ev, fnC_ap, tw_eq, fnB_2]
    show cutR S (RS.fin (sSeq _ _ [some (.loc w), some (.lst (rows.map dRow)), none, none, none, none] S)) = _
    rw [sSeq_ap, q0, sb_nx, sSeq_ap, q1, sb_nx, sSeq_ap, q2, sb_nx, sSeq_ap, q3, sb_nx, sSeq_ap, q4, sb_nx, sSeq_ap, q5, sb_nx, q6, fin_rt, hc]
  · refine not_nodup (i := sN) (j := pN) (by simpa using hsl) (by simpa using hpl) (by omega) ?_
    have hne : ¬ pN = sN := by omega
    simp [List.getElem_set, hne]
  · rcases List.mem_or_eq_of_mem_set hr with z | z
    · exact ht r z
    · rw [z]; exact ht rows[sN] (List.getElem_mem hsl)
  · rcases List.mem_or_eq_of_mem_set hr with z | z
    · exact hz r z
    · rw [z]
      simp only [List.mem_cons, List.not_mem_nil, or_false] at hK
      rcases hK with k | k
      · rw [k]; exact hz rows[pN] (List.getElem_mem hpl)
      · rw [k]; exact hz rows[sN] (List.getElem_mem hsl)
end Kz
namespace Kz
open PySem PySem.Spec PyProof.Rows L2 Kw
theorem word_lib {act : FE} {x : Option D} {S : Store} (h : act [x, some (.str "none")] S = .ex ⟨"NoLibrary", [], []⟩ S) : (b__law_word act [x, none] S).fin = .ok (.str "library") S := by
  have ht : sTryC excs [((fun y => isx y "NoLibrary"), none, (fun y a => (sSet 1 (fC (.str "library"))))), ((fun y => isx y "SwapError"), none, (fun y a => (sSet 1 (fC (.str "other")))))] (sExp act) [x, some (.str "none")] S = .nx [x, some (.str "library")] S := by
    rw [sTryC_ap]
    have e : sExp act [x, some (.str "none")] S = .ex ⟨"NoLibrary", [], []⟩ [x, some (.str "none")] S := by
      rw [sExp_ap, h]; rfl
    rw [e]
    refine tryCR_ex (by decide +kernel) (clsR_hit (by decide +kernel) fun a => ?_)
    rfl
  have q0 : sSet 1 (fC (.str "none")) [x, none] S = .nx [x, some (.str "none")] S := rfl
  rw [b__law_word, sSeq_ap, q0, sb_nx, sSeq_ap, ht, sb_nx]
  rfl
theorem act_at {i : Nat} {q : Str} {ob : Ob} {σ : L2.St} {tb : FE} {ρw : FEnv} {x : Option D} {S : Store} : fActV S.length i q ob σ tb [some (.lam i q ob), x] (S ++ [.gst ρw σ]) = tb ρw (S ++ [.gst ρw σ]) := by
  simp [fActV]
theorem gth {tbs : List (Ob × FE)} {i : Nat} {q : Str} {ob : Ob} {tb : FE} {ρw : FEnv} {S : Store} (hi : tbs[i]? = some (ob, tb)) (h : ∀ T : Store, tb ρw T = .ex ⟨"NoLibrary", [], []⟩ T) : gThunkV q 2 b__law_word tbs ρw (.lam i q ob) S = .ok (.str "library") S := by
  unfold gThunkV
  simp only [hi]
  rw [if_pos (by simp)]
  refine aInd2_eq fun f σ => ?_
  have e := word_lib (act := fActV S.length i q ob σ tb) (x := some (.lam i q ob)) (S := S ++ [.gst ρw σ]) (by rw [act_at]; exact h _)
  show cutR S ((b__law_word (fActV S.length i q ob σ tb) [some (.lam i q ob), none] (S ++ [.gst ρw σ])).fin) = _
  rw [e, cut_ok _ rfl]
/-- [g(x) for x in a list of two kept lambdas] -/
theorem asks_sp {tb0 tb1 : FE} {o0 o1 : Ob} {q : Str} {x0 x1 x2 x3 x4 x5 x6 x7 x8 x9 x10 x12 : Option D} {a : Nat} {S : Store} (at_ : S[a]? = some (.lst [.lam 0 q o0, .lam 1 q o1]))
    (h0 : ∀ T : Store, tb0 [x0, x1, x2, x3, x4, x5, x6, x7, x8, x9, x10, some (.loc a), none] T = .ex ⟨"NoLibrary", [], []⟩ T) (h1 : ∀ T : Store, tb1 [x0, x1, x2, x3, x4, x5, x6, x7, x8, x9, x10, some (.loc a), none] T = .ex ⟨"NoLibrary", [], []⟩ T) :
    fLc false (fiL (fVar 11)) (gN 12) fYes (fThunkV q 2 b__law_word [(o0, tb0), (o1, tb1)] [12] (fVar 12)) [12] [x0, x1, x2, x3, x4, x5, x6, x7, x8, x9, x10, some (.loc a), x12] S = .ok (.lst [.str "library", .str "library"]) S := by
  have h8 : sizeLine = 16777216 := rfl
  have hg : gd (some (a, [D.lam 0 q o0, .lam 1 q o1])) S := cellOf_of at_
  have ei : fiL (fVar 11) [x0, x1, x2, x3, x4, x5, x6, x7, x8, x9, x10, some (.loc a), x12] S = .ok ([.lam 0 q o0, .lam 1 q o1], some (a, [.lam 0 q o0, .lam 1 q o1])) S := by
    rw [fiL_ap]
    show itL (.loc a) S = _
    unfold itL iSeq
    simp only [cellOf_of at_]
    rfl
  have t0 : fThunkV q 2 b__law_word [(o0, tb0), (o1, tb1)] [12] (fVar 12) [x0, x1, x2, x3, x4, x5, x6, x7, x8, x9, x10, some (.loc a), some (.lam 0 q o0)] S = .ok (.str "library") S := by
    show gThunkV q 2 b__law_word [(o0, tb0), (o1, tb1)] [x0, x1, x2, x3, x4, x5, x6, x7, x8, x9, x10, some (.loc a), none] (.lam 0 q o0) S = _
    exact gth rfl h0
  have t1 : fThunkV q 2 b__law_word [(o0, tb0), (o1, tb1)] [12] (fVar 12) [x0, x1, x2, x3, x4, x5, x6, x7, x8, x9, x10, some (.loc a), some (.lam 1 q o1)] S = .ok (.str "library") S := by
    show gThunkV q 2 b__law_word [(o0, tb0), (o1, tb1)] [x0, x1, x2, x3, x4, x5, x6, x7, x8, x9, x10, some (.loc a), none] (.lam 1 q o1) S = _
    exact gth rfl h1
  rw [fLc_ap, ei, bnd_ok]
  show lcR false (compL (gN 12) fYes _ (some (a, [D.lam 0 q o0, .lam 1 q o1])) [x0, x1, x2, x3, x4, x5, x6, x7, x8, x9, x10, some (.loc a), none] [D.lam 0 q o0, .lam 1 q o1] [] S) = _
  rw [compL_step hg (d := .lam 0 q o0) (ρ1 := [x0, x1, x2, x3, x4, x5, x6, x7, x8, x9, x10, some (.loc a), some (.lam 0 q o0)]) (S1 := S) (S2 := S) rfl rfl t0 (by rw [h8]; decide),
    compL_step hg (d := .lam 1 q o1) (ρ1 := [x0, x1, x2, x3, x4, x5, x6, x7, x8, x9, x10, some (.loc a), some (.lam 1 q o1)]) (S1 := S) (S2 := S) rfl rfl t1 (by rw [h8]; decide), compL_nil hg]
  rfl
theorem bad_lib {n : Nat} (h : 4 ≤ n) {rows bad : List (Str × Kd)} (b : Twc rows bad) (hl : rows.length ≤ 8) {T : Store} : ev n .f_is_library [.lst (bad.map dRow)] T = .ok (.bl false) T := by
  have e := is_lib (n := n) h (rows := bad) ⟨by rw [b.len]; omega, fun r hr => nms_txt _ (b.txt r hr), fun r hr => by have := b.siz r hr; omega⟩ (S := T)
  rw [e, decide_eq_false b.dup]
theorem search_bad {n : Nat} (h : 10 ≤ n) {rows bad : List (Str × Kd)} (b : Twc rows bad) (hl : rows.length ≤ 8) {W : Kd} (hW : W.sz ≤ 3) {T : Store} : ev n .f_search [.lst (bad.map dRow), W.d] T = .ex ⟨"NoLibrary", [], []⟩ T := by
  have := dep_sz W
  exact search_nolib (by omega) (sure_kind_kd (by omega) (by omega)) (bad_lib (by omega) b hl)
theorem sf_bad {n : Nat} (h : 10 ≤ n) {rows bad : List (Str × Kd)} (b : Twc rows bad) (hl : rows.length ≤ 8) {W : Kd} (hW : W.sz ≤ 3) {y z : D} {T : Store} : ev n .f_search_fault [.lst (bad.map dRow), W.d, y, z] T = .ex ⟨"NoLibrary", [], []⟩ T := by
  have := dep_sz W
  exact sf_nolib (by omega) (sure_kind_kd (by omega) (by omega)) (bad_lib (by omega) b hl)
theorem rows_ne {rows : List (Str × Kd)} (ht : ∀ r ∈ rows, r.1 ∈ nms) (hz : ∀ r ∈ rows, r.2.sz ≤ 3) {S : Store} : gNe (.lst (rows.map dRow)) (.lst (rows.map dRow)) S = .ok (.bl false) S := by
  refine Eqd.ne (q := 10) (Eqd.lst (EqdL.all fun d hd => ?_)) (by omega)
  obtain ⟨r, hr, rfl⟩ := List.mem_map.mp hd
  have := dep_sz r.2
  have := hz r hr
  exact (Eqd.tup (q := 5) (.cons (.str (nms_txt _ (ht r hr))) (.cons ((Eqd.kd r.2).mono (by omega)) .nil))).mono (by omega)
end Kz
namespace Kz
open PySem PySem.Spec PyProof.Rows L2 Kw
theorem if_no {t : FT} {a : FS} {ρ : FEnv} {S S' : Store} (h : t ρ S = .ok false S') : sIf t a sNil ρ S = .nx ρ S' := by rw [sIf_ap, h]; rfl
theorem seq_go {a b : FS} {ρ ρ' : FEnv} {S S' : Store} (h : a ρ S = .nx ρ' S') : sSeq a b ρ S = b ρ' S' := by rw [sSeq_ap, h]; rfl
/-- the top of the store -/
structure Top (S : Store) : Prop where
  t1 : Tab1 S
  t2 : S[2]? = some (.tab "law")
theorem Top.wx {S S' : Store} {w : Nat} (t : Top S) (h : WX S w S') (hw : 3 ≤ w) : Top S' := by
  have l1 : 1 < S.length := lt_of_at (show S[1]? = _ from t.t1)
  have l2 := lt_of_at t.t2
  refine ⟨?_, ?_⟩
  · show S'[1]? = _
    rw [h.same 1 l1 (by omega)]; exact t.t1
  · rw [h.same 2 l2 (by omega)]; exact t.t2
theorem last_at {r : Str × Kd} {rows : List (Str × Kd)} (h : rows ≠ []) {S : Store} : ∃ r ∈ rows, gIx (.lst (rows.map dRow)) (.int (-1)) S = .ok (dRow r) S := by
  have hl : 0 < rows.length := List.length_pos_iff.mpr h
  have hk : rows.length - 1 < rows.length := by omega
  refine ⟨rows[rows.length - 1], List.getElem_mem _, ?_⟩
  have e : (rows.map dRow)[rows.length - 1]? = some (dRow rows[rows.length - 1]) := by simp [List.getElem?_eq_getElem hk]
  have hm : (rows.map dRow).length = rows.length := List.length_map ..
  generalize rows.map dRow = M at *
  generalize dRow rows[rows.length - 1] = y at *
  show ixR M (-1) S = _
  have ea : L2.atI M (-1) = some y := by
    unfold L2.atI L2.ixN
    simp only [hm]
    rw [if_neg (by omega), if_pos (by omega)]
    simp only [Option.bind_some]
    rw [show (-1 + (rows.length : Int)).toNat = rows.length - 1 by omega]
    exact e
  unfold ixR
  rw [ea]
noncomputable def C0 (cl : Fn → FF) : FS := sAsg (fArg (cl .f__law_twice) (fCons (fVar 2) (fCons (fVar 3) fNil))) (gTu 2 (gsCons (gN 8) (gsCons (gN 5) gsNil)))
noncomputable def C1 : FS := sSet 9 (fArg (gList false) (fCons (fVar 8) fNil))
noncomputable def C2 (cl : Fn → FF) : FS := sSet 5 (f2 gIx (fArg mkLst (fCons (fVar 5) (fCons (fVar 5) (fCons (f2 gIx (f2 gIx (fVar 3) (fC (.int 0))) (fC (.int 0))) (fCons (f2 gIx (f2 gIx (fVar 3) (f1 gNeg (fC (.int 1)))) (fC (.int 0))) (fCons (fC (.str "zzz")) (fCons (fC .non) (fCons (fC (.int 5)) fNil)))))))) (fArg (cl .f__law_draw) (fCons (fVar 2) (fCons (fC (.int 7)) fNil))))
noncomputable def C3 (cl : Fn → FF) : FS := sSet 10 (f2 gIx (fArg mkLst (fCons (fC .non) (fCons (fArg mkTup (fCons (fArg mkLst fNil) (fCons (fArg mkTup (fCons (fC (.str "unit")) fNil)) (fCons (fArg mkTup (fCons (fC (.str "unit")) fNil)) fNil)))) (fCons (fArg mkLst fNil) (fCons (fC (.int 7)) fNil))))) (fArg (cl .f__law_draw) (fCons (fVar 2) (fCons (fC (.int 4)) fNil))))
noncomputable def C4 (o0 : Ob) : FS := sSet 11 (fArg mkCel (fCons (fLam 2 "law" 0 o0) fNil))
noncomputable def C5 (o1 : Ob) : FS := sExp (fMth gAppend (fVar 11) (fCons (fLam 2 "law" 1 o1) fNil))
noncomputable def C6 (o0 o1 : Ob) (cl2 : Fn → FF) : FS := sIf (fOr (fB (f2 gNe (fLc false (fiL (fVar 11)) (gN 12) fYes (fThunkV (tabQ "law") 2 b__law_word [(o0, (fArg (cl2 .f_search) (fCons (fVar 8) (fCons (fVar 4) fNil)))), (o1, (fArg (cl2 .f_search_fault) (fCons (fVar 8) (fCons (fVar 4) (fCons (fVar 5) (fCons (fVar 10) fNil))))))] [12] (fVar 12)) [12]) (f2 (gMul false) (fArg mkLst (fCons (fC (.str "library")) fNil)) (fC (.int 2))))) (fB (f2 gNe (fVar 8) (fVar 9)))) (sRet (fC (.bl false))) sNil
theorem l0_eq (o0 o1 : Ob) (cl cl2 : Fn → FF) : l_law_0 o0 o1 cl cl2 = sSeq (C0 cl) (sSeq C1 (sSeq (C2 cl) (sSeq (C3 cl) (sSeq (C4 o0) (sSeq (C5 o1) (C6 o0 o1 cl2)))))) := rfl
theorem fLam_ok {j i : Nat} {xq : Str} {ob : Ob} {ρ : FEnv} {S : Store} (h : S[j]? = some (.tab xq)) : fLam j xq i ob ρ S = .ok (.lam i (tabQ xq) ob) S := by
  unfold fLam; rw [if_pos h]
theorem round_go {m m2 w : Nat} (hm : 220 ≤ m) (hm2 : 220 ≤ m2) {o0 o1 : Ob} {rows : List (Str × Kd)} {W : Kd} (h2 : 2 ≤ rows.length) (h8' : rows.length ≤ 8) (ht : ∀ r ∈ rows, r.1 ∈ nms) (hz : ∀ r ∈ rows, r.2.sz ≤ 3) (hW : W.sz ≤ 3) {S : Store} (T : Top S) (hw3 : 3 ≤ w) (hw : Well S w) {x0 x1 x5 x6 x7 x8 x9 x10 x11 x12 : Option D} :
    ∃ y5 y8 y9 y10 y11 S', l_law_0 o0 o1 (ev m) (ev m2) [x0, x1, some (.loc w), some (.lst (rows.map dRow)), some W.d, x5, x6, x7, x8, x9, x10, x11, x12] S = .nx [x0, x1, some (.loc w), some (.lst (rows.map dRow)), some W.d, y5, x6, x7, y8, y9, y10, y11, x12] S' ∧ WX S w S' := by
  have h8 : sizeLine = 16777216 := rfl
  have s1 : 1 ≤ sizeLine := by omega
  have s3 : 3 ≤ sizeLine := by omega
  have s4 : 4 ≤ sizeLine := by omega
  have s7 : 7 ≤ sizeLine := by omega
  obtain ⟨bad, nm, S1, e1, w1, tw, hnm⟩ := twice_sp (n := m) (S := S) (w := w) (by omega) hw h2 h8' ht hz
  have hne : rows ≠ [] := fun z => by rw [z] at h2; simp at h2
  obtain ⟨r0, hr0, er0⟩ := ix_mem dRow (L := rows) (r := 0) (S := S1) (by omega) (by omega)
  obtain ⟨rl, hrl, erl⟩ := last_at (r := r0) hne (S := S1)
  obtain ⟨c2, S2, e2, a2, b2, w2⟩ := draw_sp (n := m) (S := S1) (w := w) (m := 7) (by omega) w1.well (by omega) (by omega)
  obtain ⟨y, hy, ey⟩ := ix_mem (fun d : D => d) (L := [.str nm, .str nm, .str r0.1, .str rl.1, .str "zzz", .non, .int 5]) (S := S2) a2 b2
  rw [List.map_id'] at ey
  obtain ⟨c3, S3, e3, a3, b3, w3⟩ := draw_sp (n := m) (S := S2) (w := w) (m := 4) (by omega) w2.well (by omega) (by omega)
  obtain ⟨th, hth, eth⟩ := ix_mem (fun d : D => d) (L := [.non, .tup [.lst [], .tup [.str "unit"], .tup [.str "unit"]], .lst [], .int 7]) (S := S3) a3 b3
  rw [List.map_id'] at eth
  have ws3 := (w1.trans w2).trans w3
  have T3 : Top S3 := T.wx ws3.wx hw3
  have q0 : C0 (ev m) [x0, x1, some (.loc w), some (.lst (rows.map dRow)), some W.d, x5, x6, x7, x8, x9, x10, x11, x12] S = .nx [x0, x1, some (.loc w), some (.lst (rows.map dRow)), some W.d, some (.str nm), x6, x7, some (.lst (bad.map dRow)), x9, x10, x11, x12] S1 := by
    clear er0 erl
    generalize rows.map dRow = R at *
    generalize bad.map dRow = B at *
    generalize W.d = X at *
    simp [C0, e1]
  have q1 : C1 [x0, x1, some (.loc w), some (.lst (rows.map dRow)), some W.d, some (.str nm), x6, x7, some (.lst (bad.map dRow)), x9, x10, x11, x12] S1 = .nx [x0, x1, some (.loc w), some (.lst (rows.map dRow)), some W.d, some (.str nm), x6, x7, some (.lst (bad.map dRow)), some (.lst (bad.map dRow)), x10, x11, x12] S1 := by
    clear er0 erl e1
    generalize rows.map dRow = R at *
    generalize bad.map dRow = B at *
    generalize W.d = X at *
    simp [C1]
  have q2 : C2 (ev m) [x0, x1, some (.loc w), some (.lst (rows.map dRow)), some W.d, some (.str nm), x6, x7, some (.lst (bad.map dRow)), some (.lst (bad.map dRow)), x10, x11, x12] S1 = .nx [x0, x1, some (.loc w), some (.lst (rows.map dRow)), some W.d, some y, x6, x7, some (.lst (bad.map dRow)), some (.lst (bad.map dRow)), x10, x11, x12] S2 := by
    have g0 := row0 (r := r0) (S := S1)
    have g1 := row0 (r := rl) (S := S1)
    have gn : gNeg (.int 1) S1 = .ok (.int (-1)) S1 := rfl
    clear e1
    generalize rows.map dRow = R at *
    generalize bad.map dRow = B at *
    generalize W.d = X at *
    generalize dRow r0 = Y0 at *
    generalize dRow rl = Y1 at *
    simp only [C2, sSet_ap]
    have el : fArg mkLst (fCons (fVar 5) (fCons (fVar 5) (fCons (f2 gIx (f2 gIx (fVar 3) (fC (.int 0))) (fC (.int 0))) (fCons (f2 gIx (f2 gIx (fVar 3) (f1 gNeg (fC (.int 1)))) (fC (.int 0))) (fCons (fC (.str "zzz")) (fCons (fC .non) (fCons (fC (.int 5)) fNil))))))) [x0, x1, some (.loc w), some (.lst R), some X, some (.str nm), x6, x7, some (.lst B), some (.lst B), x10, x11, x12] S1 = .ok (.lst [.str nm, .str nm, .str r0.1, .str rl.1, .str "zzz", .non, .int 5]) S1 := by
      simp [-gIx_lst, er0, erl, g0, g1, gn, s7]
    rw [f2_ap, el, bnd_ok]
    generalize D.lst [.str nm, .str nm, .str r0.1, .str rl.1, .str "zzz", .non, .int 5] = LL at *
    simp [e2, ey]
  have q3 : C3 (ev m) [x0, x1, some (.loc w), some (.lst (rows.map dRow)), some W.d, some y, x6, x7, some (.lst (bad.map dRow)), some (.lst (bad.map dRow)), x10, x11, x12] S2 = .nx [x0, x1, some (.loc w), some (.lst (rows.map dRow)), some W.d, some y, x6, x7, some (.lst (bad.map dRow)), some (.lst (bad.map dRow)), some th, x11, x12] S3 := by
    clear er0 erl e1 ey
    generalize rows.map dRow = R at *
    generalize bad.map dRow = B at *
    generalize W.d = X at *
    simp only [C3, sSet_ap]
    have el : fArg mkLst (fCons (fC .non) (fCons (fArg mkTup (fCons (fArg mkLst fNil) (fCons (fArg mkTup (fCons (fC (.str "unit")) fNil)) (fCons (fArg mkTup (fCons (fC (.str "unit")) fNil)) fNil)))) (fCons (fArg mkLst fNil) (fCons (fC (.int 7)) fNil)))) [x0, x1, some (.loc w), some (.lst R), some X, some y, x6, x7, some (.lst B), some (.lst B), x10, x11, x12] S2 = .ok (.lst [.non, .tup [.lst [], .tup [.str "unit"], .tup [.str "unit"]], .lst [], .int 7]) S2 := by
      simp [s1, s3, s4]
    rw [f2_ap, el, bnd_ok]
    generalize D.lst [.non, .tup [.lst [], .tup [.str "unit"], .tup [.str "unit"]], .lst [], .int 7] = LL at *
    simp [e3, eth]
  have q4 : C4 o0 [x0, x1, some (.loc w), some (.lst (rows.map dRow)), some W.d, some y, x6, x7, some (.lst (bad.map dRow)), some (.lst (bad.map dRow)), some th, x11, x12] S3 = .nx [x0, x1, some (.loc w), some (.lst (rows.map dRow)), some W.d, some y, x6, x7, some (.lst (bad.map dRow)), some (.lst (bad.map dRow)), some th, some (.loc S3.length), x12] (S3 ++ [.lst [.lam 0 (tabQ "law") o0]]) := by
    clear er0 erl e1 ey eth
    have fl : ∀ ρ, fLam 2 "law" 0 o0 ρ S3 = .ok (.lam 0 (tabQ "law") o0) S3 := fun ρ => fLam_ok T3.t2
    generalize rows.map dRow = R at *
    generalize bad.map dRow = B at *
    generalize W.d = X at *
    generalize D.lam 0 (tabQ "law") o0 = L0 at *
    generalize hv : S3.length = v at *
    simp [C4, fl, s1, hv]
  have l3 : 2 < S3.length := lt_of_at T3.t2
  have T4 : (S3 ++ [.lst [.lam 0 (tabQ "law") o0]])[2]? = some (.tab "law") := by rw [List.getElem?_append_left l3]; exact T3.t2
  have at4 : (S3 ++ [Cell.lst [.lam 0 (tabQ "law") o0]])[S3.length]? = some (.lst [.lam 0 (tabQ "law") o0]) := by simp
  have q5 : C5 o1 [x0, x1, some (.loc w), some (.lst (rows.map dRow)), some W.d, some y, x6, x7, some (.lst (bad.map dRow)), some (.lst (bad.map dRow)), some th, some (.loc S3.length), x12] (S3 ++ [.lst [.lam 0 (tabQ "law") o0]]) = .nx [x0, x1, some (.loc w), some (.lst (rows.map dRow)), some W.d, some y, x6, x7, some (.lst (bad.map dRow)), some (.lst (bad.map dRow)), some th, some (.loc S3.length), x12] ((S3 ++ [Cell.lst [.lam 0 (tabQ "law") o0]]).set S3.length (.lst [.lam 0 (tabQ "law") o0, .lam 1 (tabQ "law") o1])) := by
    clear er0 erl e1 ey eth
    have fl : ∀ ρ, fLam 2 "law" 1 o1 ρ (S3 ++ [.lst [.lam 0 (tabQ "law") o0]]) = .ok (.lam 1 (tabQ "law") o1) (S3 ++ [.lst [.lam 0 (tabQ "law") o0]]) := fun ρ => fLam_ok T4
    have hm' := mthR_loc (n := S3.length) (S := S3 ++ [.lst [.lam 0 (tabQ "law") o0]]) (ρ := [x0, x1, some (.loc w), some (.lst (rows.map dRow)), some W.d, some y, x6, x7, some (.lst (bad.map dRow)), some (.lst (bad.map dRow)), some th, some (.loc S3.length), x12]) (xs := [.lam 0 (tabQ "law") o0]) (g := gAppend) (a := fCons (fLam 2 "law" 1 o1) fNil) (cellOf_of at4)
    have ga := gAppend_loc (n := S3.length) (S := S3 ++ [.lst [.lam 0 (tabQ "law") o0]]) (xs := [.lam 0 (tabQ "law") o0]) (d := .lam 1 (tabQ "law") o1) (cellM_of at4) (by rw [h8]; show 1 < 16777216; decide)
    rw [List.singleton_append] at ga
    generalize rows.map dRow = R at *
    generalize bad.map dRow = B at *
    generalize W.d = X at *
    generalize D.lam 0 (tabQ "law") o0 = L0 at *
    generalize D.lam 1 (tabQ "law") o1 = L1 at *
    generalize hv : S3.length = v at *
    generalize S3 ++ [Cell.lst [L0]] = T9 at *
    simp [C5, hm', fl, ga]
  have at5 : ((S3 ++ [Cell.lst [.lam 0 (tabQ "law") o0]]).set S3.length (.lst [.lam 0 (tabQ "law") o0, .lam 1 (tabQ "law") o1]))[S3.length]? = some (.lst [.lam 0 (tabQ "law") o0, .lam 1 (tabQ "law") o1]) := by
    rw [List.getElem?_set_self (by simp)]
  have wx : WX S w ((S3 ++ [Cell.lst [.lam 0 (tabQ "law") o0]]).set S3.length (.lst [.lam 0 (tabQ "law") o0, .lam 1 (tabQ "law") o1])) := by
    have hw' : w < S.length := lt_of_at hw.choose_spec.choose_spec.choose_spec.2.2
    exact (ws3.wx.app (T := [.lst [.lam 0 (tabQ "law") o0]])).set (by rw [ws3.len]; exact Nat.le_refl _) hw'
  refine ⟨some y, some (.lst (bad.map dRow)), some (.lst (bad.map dRow)), some th, some (.loc S3.length), _, ?_, wx⟩
  generalize hS5 : (S3 ++ [Cell.lst [.lam 0 (tabQ "law") o0]]).set S3.length (.lst [.lam 0 (tabQ "law") o0, .lam 1 (tabQ "law") o1]) = S5 at *
  have q6 : C6 o0 o1 (ev m2) [x0, x1, some (.loc w), some (.lst (rows.map dRow)), some W.d, some y, x6, x7, some (.lst (bad.map dRow)), some (.lst (bad.map dRow)), some th, some (.loc S3.length), x12] S5 = .nx [x0, x1, some (.loc w), some (.lst (rows.map dRow)), some W.d, some y, x6, x7, some (.lst (bad.map dRow)), some (.lst (bad.map dRow)), some th, some (.loc S3.length), x12] S5 := by
    have ea := asks_sp (q := tabQ "law") (x0 := x0) (x1 := x1) (x2 := some (.loc w)) (x3 := some (.lst (rows.map dRow))) (x4 := some W.d) (x5 := some y) (x6 := x6) (x7 := x7) (x8 := some (.lst (bad.map dRow))) (x9 := some (.lst (bad.map dRow))) (x10 := some th) (x12 := x12) (tb0 := fArg (ev m2 .f_search) (fCons (fVar 8) (fCons (fVar 4) fNil))) (tb1 := fArg (ev m2 .f_search_fault) (fCons (fVar 8) (fCons (fVar 4) (fCons (fVar 5) (fCons (fVar 10) fNil))))) at5
      (fun T => by
        show ev m2 .f_search [.lst (bad.map dRow), W.d] T = _
        exact search_bad (by omega) tw h8' hW)
      (fun T => by
        show ev m2 .f_search_fault [.lst (bad.map dRow), W.d, y, th] T = _
        exact sf_bad (by omega) tw h8' hW)
    have en := rows_ne tw.txt tw.siz (S := S5)
    have em : gMul false (.lst [.str "library"]) (.int 2) S5 = .ok (.lst [.str "library", .str "library"]) S5 := rfl
    have ec : gNe (.lst [.str "library", .str "library"]) (.lst [.str "library", .str "library"]) S5 = .ok (.bl false) S5 := Eqd.ne (q := 5) (Eqd.lst (.cons (.str (by decide +kernel)) (.cons (.str (by decide +kernel)) .nil))) (by omega)
    unfold C6
    refine if_no ?_
    generalize rows.map dRow = R at *
    generalize bad.map dRow = B at *
    generalize W.d = X at *
    rw [fOr_ap, fB_ap, f2_ap, ea, bnd_ok]
    simp [em, ec, en, s1]
  rw [l0_eq, seq_go q0, seq_go q1, seq_go q2, seq_go q3, seq_go q4, seq_go q5, q6]
end Kz
namespace Kz
open PySem PySem.Spec PyProof.Rows L2 Kw
/-- the store goes on -/
structure Gr (S S' : Store) : Prop where
  le : S.length ≤ S'.length
  same : ∀ i, i < S.length → S'[i]? = S[i]?
theorem Gr.refl {S : Store} : Gr S S := ⟨Nat.le_refl _, fun _ _ => rfl⟩
theorem Gr.trans {S S1 S2 : Store} (h : Gr S S1) (k : Gr S1 S2) : Gr S S2 := ⟨Nat.le_trans h.le k.le, fun i hi => (k.same i (Nat.lt_of_lt_of_le hi h.le)).trans (h.same i hi)⟩
theorem Top.gr {S S' : Store} (t : Top S) (h : Gr S S') : Top S' := by
  have l1 : 1 < S.length := lt_of_at (show S[1]? = _ from t.t1)
  have l2 := lt_of_at t.t2
  refine ⟨?_, ?_⟩
  · show S'[1]? = _
    rw [h.same 1 l1]; exact t.t1
  · rw [h.same 2 l2]; exact t.t2
theorem rounds {m m2 w : Nat} (hm : 220 ≤ m) (hm2 : 220 ≤ m2) {o0 o1 : Ob} {rows : List (Str × Kd)} {W : Kd} (h2 : 2 ≤ rows.length) (h8' : rows.length ≤ 8) (ht : ∀ r ∈ rows, r.1 ∈ nms) (hz : ∀ r ∈ rows, r.2.sz ≤ 3) (hW : W.sz ≤ 3) (hw3 : 3 ≤ w) {x0 x1 x6 x12 : Option D} : ∀ (js : List D) {S : Store} {x5 x7 x8 x9 x10 x11 : Option D}, Top S → Well S w →
    ∃ y5 y7 y8 y9 y10 y11 S', forL (gN 7) (l_law_0 o0 o1 (ev m) (ev m2)) none js [x0, x1, some (.loc w), some (.lst (rows.map dRow)), some W.d, x5, x6, x7, x8, x9, x10, x11, x12] S = .nx [x0, x1, some (.loc w), some (.lst (rows.map dRow)), some W.d, y5, x6, y7, y8, y9, y10, y11, x12] S' ∧ WX S w S'
  | [], S, x5, x7, x8, x9, x10, x11, T, hw => ⟨x5, x7, x8, x9, x10, x11, S, by simp, (WS.refl hw).wx⟩
  | j :: js, S, x5, x7, x8, x9, x10, x11, T, hw => by
    obtain ⟨z5, z8, z9, z10, z11, S1, e1, w1⟩ := round_go hm hm2 (o0 := o0) (o1 := o1) h2 h8' ht hz hW T hw3 hw (x0 := x0) (x1 := x1) (x5 := x5) (x6 := x6) (x7 := some j) (x8 := x8) (x9 := x9) (x10 := x10) (x11 := x11) (x12 := x12)
    obtain ⟨y5, y7, y8, y9, y10, y11, S2, e2, w2⟩ := rounds hm hm2 (o0 := o0) (o1 := o1) h2 h8' ht hz hW hw3 (x0 := x0) (x1 := x1) (x6 := x6) (x12 := x12) js (S := S1) (x5 := z5) (x7 := some j) (x8 := z8) (x9 := z9) (x10 := z10) (x11 := z11) (T.wx w1 hw3) w1.well
    refine ⟨y5, y7, y8, y9, y10, y11, S2, ?_, w1.trans w2⟩
    rw [← e2, forL_cons, gN_ap, tgR_some]
    show loopR _ (l_law_0 o0 o1 (ev m) (ev m2) [x0, x1, some (.loc w), some (.lst (rows.map dRow)), some W.d, x5, x6, some j, x8, x9, x10, x11, x12] S) = _
    rw [e1, loopR_nx]
noncomputable def D0 (cl : Fn → FF) : FS := sSet 2 (fArg (cl .f__law_well) (fCons (fVar 1) fNil))
noncomputable def D1 (cl : Fn → FF) : FS := sSet 3 (fArg (cl .f__law_library) (fCons (fVar 2) fNil))
noncomputable def D2 (cl : Fn → FF) : FS := sSet 4 (f2 gIx (f2 gIx (fVar 3) (fArg (cl .f__law_draw) (fCons (fVar 2) (fCons (fArg gLen (fCons (fVar 3) fNil)) fNil)))) (fC (.int 1)))
noncomputable def D3 (cl : Fn → FF) : FS := sSet 5 (f2 gIx (f2 gIx (fVar 3) (fArg (cl .f__law_draw) (fCons (fVar 2) (fCons (fArg gLen (fCons (fVar 3) fNil)) fNil)))) (fC (.int 0)))
noncomputable def D4 (cl : Fn → FF) : FS := sSet 6 (fArg (cl .f_search) (fCons (fVar 3) (fCons (fVar 4) fNil)))
noncomputable def D5 (cl : Fn → FF) : FS := sIf (fOr (fNot (fTru (fIsi "list" (fVar 6)))) (fB (f2 gNe (fArg (cl .f_search_fault) (fCons (fVar 3) (fCons (fVar 4) (fCons (fVar 5) (fCons (fC .non) fNil))))) (fArg mkTup (fCons (fC (.str "form")) fNil))))) (sRet (fC (.bl false))) sNil
noncomputable def D6 (o0 o1 : Ob) (cl cl2 : Fn → FF) : FS := sFor (fiR1 (fCons (fC (.int 3)) fNil)) (gN 7) (l_law_0 o0 o1 cl cl2)
theorem l1_eq (o0 o1 : Ob) (cl cl2 : Fn → FF) : l_law_1 o0 o1 cl cl2 = sSeq (D0 cl) (sSeq (D1 cl) (sSeq (D2 cl) (sSeq (D3 cl) (sSeq (D4 cl) (sSeq (D5 cl) (D6 o0 o1 cl cl2)))))) := rfl
theorem small_row {m : Nat} {W K : Kd} (h : 215 ≤ m) (hK : K.sz ≤ 3) (hW : W.sz ≤ 3) : RowOk m W K := by
  have s1 := lfk_sz K
  have s2 := lfk_sz W
  have p1 := lfk_pos K
  have hl : lfk K ≤ 2 := by omega
  refine row_ok h (by omega) (by omega) (mor_of ?_)
  have t := nf_T K (by omega)
  have : Tt (lfk K) ≤ 2 := by
    have : lfk K = 1 ∨ lfk K = 2 := by omega
    rcases this with z | z <;> rw [z] <;> decide
  omega
theorem iter_go {m m2 : Nat} (hm : 225 ≤ m) (hm2 : 220 ≤ m2) {o0 o1 : Ob} {x0 : Option D} {i : Int} {S : Store} (T : Top S) {x2 x3 x4 x5 x6 x7 x8 x9 x10 x11 x12 : Option D} :
    ∃ y2 y3 y4 y5 y6 y7 y8 y9 y10 y11 S', l_law_1 o0 o1 (ev m) (ev m2) [x0, some (.int i), x2, x3, x4, x5, x6, x7, x8, x9, x10, x11, x12] S = .nx [x0, some (.int i), y2, y3, y4, y5, y6, y7, y8, y9, y10, y11, x12] S' ∧ Gr S S' := by
  have h8 : sizeLine = 16777216 := rfl
  have s1 : 1 ≤ sizeLine := by omega
  have l3 : 3 ≤ S.length := lt_of_at T.t2
  obtain ⟨c0, e0, w0⟩ := well_new (n := m) (S := S) (i := i) (by omega)
  have g0 : Gr S (S ++ [c0]) := ⟨by simp, fun j hj => by rw [List.getElem?_append_left hj]⟩
  have T0 : Top (S ++ [c0]) := T.gr g0
  generalize hw : S.length = w at *
  generalize hS0 : S ++ [c0] = S0 at *
  obtain ⟨rows, S1, e1, w1, h2, h8', hn, ht, hz⟩ := library_sp (n := m) (S := S0) (w := w) (by omega) w0
  obtain ⟨V, hV⟩ : ∃ V : Int, V = (rows.length : Int) := ⟨_, rfl⟩
  have eL : ∀ T : Store, gLen [.lst (rows.map dRow)] T = .ok (.int V) T := fun T => by
    rw [hV, ← List.length_map (f := dRow)]
    generalize rows.map dRow = M
    simp
  obtain ⟨i2, S2, e2, a2, b2, w2⟩ := draw_sp (n := m) (S := S1) (w := w) (m := V) (by omega) w1.well (by omega) (by omega)
  obtain ⟨rW, hrW, eW⟩ := ix_mem dRow (L := rows) (S := S2) a2 (by omega)
  obtain ⟨i3, S3, e3, a3, b3, w3⟩ := draw_sp (n := m) (S := S2) (w := w) (m := V) (by omega) w2.well (by omega) (by omega)
  obtain ⟨rN, hrN, eN⟩ := ix_mem dRow (L := rows) (S := S3) a3 (by omega)
  have ws := (w1.trans w2).trans w3
  have T3 : Top S3 := T0.wx ws.wx l3
  have hW : rW.2.sz ≤ 3 := hz rW hrW
  have dW := dep_sz rW.2
  have kW := rk_dep rW.2
  have L : Lib rows := ⟨by omega, fun r hr => nms_txt _ (ht r hr), fun r hr => by have := hz r hr; omega⟩
  have e4 := search_ok (n := m) (S := S3) (rows := rows) (W := rW.2) (by omega) T3.t1 L hn ⟨by omega, by omega⟩ (by omega) (fun r hr => small_row (by omega) (hz r hr) hW)
  have hby : ∃ K Ks, byN rows (.str rN.1) = K :: Ks := by
    cases hb : byN rows (.str rN.1) with
    | cons K Ks => exact ⟨K, Ks, rfl⟩
    | nil =>
      exfalso
      have hm0 : rN.2 ∈ byN rows (.str rN.1) := by
        show rN.2 ∈ (rows.filter fun r => r.1 == rN.1).map Prod.snd
        exact List.mem_map.mpr ⟨rN, List.mem_filter.mpr ⟨hrN, by simp⟩, rfl⟩
      rw [hb] at hm0
      simp at hm0
  obtain ⟨K, Ks, hby⟩ := hby
  have e5 := sf_form (n := m) (S := S3) (rows := rows) (W := rW.2) (z := .non) (by omega) L hn (by omega) (show lay (.str rN.1) from nms_txt _ (ht rN hrN)) hby (by simp)
  obtain ⟨y5, y7, y8, y9, y10, y11, S4, e6, w4⟩ := rounds (m := m) (m2 := m2) (w := w) (by omega) hm2 (o0 := o0) (o1 := o1) h2 h8' ht hz hW l3 (x0 := x0) (x1 := some (.int i)) (x6 := some (.lst ((rows.filterMap (found rW.2)).map dFd))) (x12 := x12) (rngD 0 3) (S := S3) (x5 := some (.str rN.1)) (x7 := x7) (x8 := x8) (x9 := x9) (x10 := x10) (x11 := x11) T3 ws.well
  refine ⟨some (.loc w), some (.lst (rows.map dRow)), some rW.2.d, y5, some (.lst ((rows.filterMap (found rW.2)).map dFd)), y7, y8, y9, y10, y11, S4, ?_, ?_⟩
  · have q0 : D0 (ev m) [x0, some (.int i), x2, x3, x4, x5, x6, x7, x8, x9, x10, x11, x12] S = .nx [x0, some (.int i), some (.loc w), x3, x4, x5, x6, x7, x8, x9, x10, x11, x12] S0 := by
      simp [D0, e0]
    have q1 : D1 (ev m) [x0, some (.int i), some (.loc w), x3, x4, x5, x6, x7, x8, x9, x10, x11, x12] S0 = .nx [x0, some (.int i), some (.loc w), some (.lst (rows.map dRow)), x4, x5, x6, x7, x8, x9, x10, x11, x12] S1 := by
      generalize rows.map dRow = R at *
      simp [D1, e1]
    have q2 : D2 (ev m) [x0, some (.int i), some (.loc w), some (.lst (rows.map dRow)), x4, x5, x6, x7, x8, x9, x10, x11, x12] S1 = .nx [x0, some (.int i), some (.loc w), some (.lst (rows.map dRow)), some rW.2.d, x5, x6, x7, x8, x9, x10, x11, x12] S2 := by
      have r1 := row1 (r := rW) (S := S2)
      clear e4 e5 e6 eN
      generalize rows.map dRow = R at *
      generalize dRow rW = Y at *
      generalize rW.2.d = Z at *
      simp [-gIx_lst, D2, eL, e2, eW, r1]
    have q3 : D3 (ev m) [x0, some (.int i), some (.loc w), some (.lst (rows.map dRow)), some rW.2.d, x5, x6, x7, x8, x9, x10, x11, x12] S2 = .nx [x0, some (.int i), some (.loc w), some (.lst (rows.map dRow)), some rW.2.d, some (.str rN.1), x6, x7, x8, x9, x10, x11, x12] S3 := by
      have r1 := row0 (r := rN) (S := S3)
      clear e4 e5 e6 eW
      generalize rows.map dRow = R at *
      generalize dRow rN = Y at *
      generalize rW.2.d = Z at *
      simp [-gIx_lst, D3, eL, e3, eN, r1]
    have q4 : D4 (ev m) [x0, some (.int i), some (.loc w), some (.lst (rows.map dRow)), some rW.2.d, some (.str rN.1), x6, x7, x8, x9, x10, x11, x12] S3 = .nx [x0, some (.int i), some (.loc w), some (.lst (rows.map dRow)), some rW.2.d, some (.str rN.1), some (.lst ((rows.filterMap (found rW.2)).map dFd)), x7, x8, x9, x10, x11, x12] S3 := by
      clear e5 e6 eW eN
      generalize (rows.filterMap (found rW.2)).map dFd = F at *
      generalize rows.map dRow = R at *
      generalize rW.2.d = Z at *
      simp [D4, e4]
    have q5 : D5 (ev m) [x0, some (.int i), some (.loc w), some (.lst (rows.map dRow)), some rW.2.d, some (.str rN.1), some (.lst ((rows.filterMap (found rW.2)).map dFd)), x7, x8, x9, x10, x11, x12] S3 = .nx [x0, some (.int i), some (.loc w), some (.lst (rows.map dRow)), some rW.2.d, some (.str rN.1), some (.lst ((rows.filterMap (found rW.2)).map dFd)), x7, x8, x9, x10, x11, x12] S3 := by
      have ec : gNe (.tup [.str "form"]) (.tup [.str "form"]) S3 = .ok (.bl false) S3 := Eqd.ne (q := 5) (Eqd.tup (q := 3) (.cons (.str (by decide +kernel)) .nil) |>.mono (by omega)) (by omega)
      unfold D5
      refine if_no ?_
      clear e4 e6 eW eN
      generalize (rows.filterMap (found rW.2)).map dFd = F at *
      generalize rows.map dRow = R at *
      generalize rW.2.d = Z at *
      simp [e5, ec, s1]
    have q6 : D6 o0 o1 (ev m) (ev m2) [x0, some (.int i), some (.loc w), some (.lst (rows.map dRow)), some rW.2.d, some (.str rN.1), some (.lst ((rows.filterMap (found rW.2)).map dFd)), x7, x8, x9, x10, x11, x12] S3 = .nx [x0, some (.int i), some (.loc w), some (.lst (rows.map dRow)), some rW.2.d, y5, some (.lst ((rows.filterMap (found rW.2)).map dFd)), y7, y8, y9, y10, y11, x12] S4 := by
      have es : ∀ ρ, fiR1 (fCons (fC (.int 3)) fNil) ρ S3 = .ok (rngD 0 3, none) S3 := fun ρ => rfl
      rw [D6, sFor_ap, es, toS_ok]
      exact e6
    rw [l1_eq, seq_go q0, seq_go q1, seq_go q2, seq_go q3, seq_go q4, seq_go q5, q6]
  · have wx := ws.wx.trans w4
    refine ⟨Nat.le_trans g0.le wx.le, fun j hj => ?_⟩
    rw [wx.same j (Nat.lt_of_lt_of_le hj g0.le) (by omega)]
    exact g0.same j hj
theorem law_loop {m m2 : Nat} (hm : 225 ≤ m) (hm2 : 220 ≤ m2) {o0 o1 : Ob} {x0 x12 : Option D} : ∀ (ns : List Int) {S : Store}, Top S → ∀ {x1 x2 x3 x4 x5 x6 x7 x8 x9 x10 x11 : Option D}, ∃ y1 y2 y3 y4 y5 y6 y7 y8 y9 y10 y11 S', forL (gN 1) (l_law_1 o0 o1 (ev m) (ev m2)) none (ns.map D.int) [x0, x1, x2, x3, x4, x5, x6, x7, x8, x9, x10, x11, x12] S = .nx [x0, y1, y2, y3, y4, y5, y6, y7, y8, y9, y10, y11, x12] S' ∧ Gr S S'
  | [], S, _, x1, x2, x3, x4, x5, x6, x7, x8, x9, x10, x11 => ⟨x1, x2, x3, x4, x5, x6, x7, x8, x9, x10, x11, S, by simp, Gr.refl⟩
  | i :: ns, S, T, x1, x2, x3, x4, x5, x6, x7, x8, x9, x10, x11 => by
    obtain ⟨z2, z3, z4, z5, z6, z7, z8, z9, z10, z11, S1, e1, g1⟩ := iter_go hm hm2 (o0 := o0) (o1 := o1) (x0 := x0) (i := i) T (x2 := x2) (x3 := x3) (x4 := x4) (x5 := x5) (x6 := x6) (x7 := x7) (x8 := x8) (x9 := x9) (x10 := x10) (x11 := x11) (x12 := x12)
    obtain ⟨y1, y2, y3, y4, y5, y6, y7, y8, y9, y10, y11, S', e2, g2⟩ := law_loop hm hm2 (o0 := o0) (o1 := o1) (x0 := x0) (x12 := x12) ns (T.gr g1) (x1 := some (.int i)) (x2 := z2) (x3 := z3) (x4 := z4) (x5 := z5) (x6 := z6) (x7 := z7) (x8 := z8) (x9 := z9) (x10 := z10) (x11 := z11)
    refine ⟨y1, y2, y3, y4, y5, y6, y7, y8, y9, y10, y11, S', ?_, g1.trans g2⟩
    rw [← e2]
    show forL _ _ _ (.int i :: ns.map D.int) _ _ = _
    rw [forL_cons, gN_ap, tgR_some]
    show loopR _ (l_law_1 o0 o1 (ev m) (ev m2) [x0, some (.int i), x2, x3, x4, x5, x6, x7, x8, x9, x10, x11, x12] S) = _
    rw [e1, loopR_nx]
theorem law_src {ns : List Int} (hl : ns.length ≤ 63) {S : Store} {r : FEnv} : fiL (f2 (gAdd false) (fArg mkLst (fCons (fC (.int 0)) (fCons (fC (.int 3)) fNil))) (fSl (gSl false) (fVar 0) fNone (fSome (fC (.int 8))))) (some (.fls (ns.map .int)) :: r) S = .ok ((0 :: 3 :: cutL ns none (some 8)).map D.int, none) S := by
  have h8 : sizeLine = 16777216 := rfl
  have hc : (cutL ns none (some 8)).length ≤ ns.length := by simp [cutL]; omega
  have h9 : (cutL ns none (some 8)).length + 1 + 1 ≤ sizeLine := by omega
  simp [cutL_map, h9]
theorem law_true (ns : List Int) (hl : ns.length ≤ 63) {c P c' P' : Addr} : ∃ S', Kw.fnB 1 13 (b_law (ev 230) (ev 228)) [.fls (ns.map .int)] (topS0 [(c, P, "order_of"), (c', P', "law")]) = .ok (.bl true) S' := by
  have T : Top (topS0 [(c, P, Str.ofString "order_of"), (c', P', Str.ofString "law")]) := ⟨rfl, rfl⟩
  generalize topS0 [(c, P, Str.ofString "order_of"), (c', P', Str.ofString "law")] = S at *
  refine ⟨S, ?_⟩
  rw [b_law, fnB_1]
  have e : aObs (fun o0 o1 => b0_law o0 o1 (ev 230) (ev 228)) [some (.fls (ns.map .int)), none, none, none, none, none, none, none, none, none, none, none, none] S = .rt (.bl true) S := by
    refine aObs_eq fun o0 o1 => ?_
    obtain ⟨y1, y2, y3, y4, y5, y6, y7, y8, y9, y10, y11, S', e2, g⟩ := law_loop (m := 230) (m2 := 228) (by omega) (by omega) (o0 := o0) (o1 := o1) (x0 := some (.fls (ns.map .int))) (x12 := none) (0 :: 3 :: cutL ns none (some 8)) T (x1 := none) (x2 := none) (x3 := none) (x4 := none) (x5 := none) (x6 := none) (x7 := none) (x8 := none) (x9 := none) (x10 := none) (x11 := none)
    have hb : b0_law o0 o1 (ev 230) (ev 228) [some (.fls (ns.map .int)), none, none, none, none, none, none, none, none, none, none, none, none] S = .rt (.bl true) S' := by
      rw [b0_law, sSeq_ap, sFor_ap, law_src hl, toS_ok, e2, sb_nx]
      rfl
    rw [hb]
    have hc : CutOk S S' := ⟨g.le, fun i c hi h => .inl (by rw [← g.same i hi]; exact h)⟩
    have ht : S'.take S.length = S := by
      apply List.ext_getElem?
      intro i
      by_cases hi : i < S.length
      · rw [List.getElem?_take_of_lt hi, g.same i hi]
      · rw [List.getElem?_eq_none (by rw [List.length_take]; omega), List.getElem?_eq_none (by omega)]
    unfold rtCut cutR
    simp only
    rw [if_pos ⟨rfl, hc⟩]
    simp only [ht]
  show RS.fin (aObs _ [some (.fls (ns.map .int)), none, none, none, none, none, none, none, none, none, none, none, none] S) = _
  rw [e, fin_rt]
end Kz
open PySem PySem.W PyProof.Rows
local macro_rules | `(tactic| o_head $t:term) => do
  let (hw, hc) := (Lean.mkIdent `hw, Lean.mkIdent `hc)
  `(tactic| (refine PySem.W.holds_open (r := Kz.Hd.R) (q := Kz.Hd.qv) (loose := Kz.Hd.nm) (Xt := fun s => xlAt Kz.Hd.qv [] s && recOk (RowW.records (OpenRow.toRowW Kz.Hd.R)) s) (XP := XL Kz.Hd.qv []) (Yf := Hook.obs $t) (Ya := Hook.val $t) (YP := Hook.says $t) (N := 7600) ?hlx (Hook.of $t) (Hook.keeps $t) (fun s e => xl_of s (Bool.and_eq_true_iff.mp e).1) XL.keeps (by rfl) (by rfl) (by rfl) (fun s e => recFacts_of (Bool.and_eq_true_iff.mp e).2) (by rfl) (by first | assumption | decide +kernel) (by decide +kernel) ⟨rfl, rfl, rfl, rfl, rfl, by decide +kernel⟩ ?$hw ?$hc; (case hlx => (refine Kz.Hd.left_km (M := 7000) (by kernel_rfl) (by rfl) (fun s => by kernel_rfl) (by rfl) ?hf ?ht; (case hf => exact Kz.Hd.runF); (case ht => exact Kz.Hd.runT)))))
set_option maxRecDepth 100000 in
set_option maxHeartbeats 0 in
theorem PySem.Challenge.cw_kindswap_k86_names_that_stand_twice_holds : PySem.Challenge.rw_kindswap_k86_names_that_stand_twice.Holds := by
  w_on; o_law; k_head; (case hw => w_witness2)
  as_aux_lemma =>
    k_fill
    refine Kw.walk_t (l := PySem.Challenge.rw_kindswap_k86_names_that_stand_twice) (k := 230 + 1) (x := "_law_script") rfl rfl ⟨⟨by decide, by decide, by decide⟩, rfl⟩ (by decide +kernel) (fun w h Y => PySem.W.km_in_of Y) ?F (fun w H s e s' h => Kw.cx_no h)
    case F =>
      intro w mg mb mean fa h TT KX G hmg
      have t_Loose___init__ : Kw.TM (L2.KOf KX) mg "Loose" "__init__" "Loose.__init__" Kz.s_Loose___init__ ["self", "kind", "chain"] := by
        unfold L2.KOf
        refine' Kw.tm_mk KX G ?a ?m ?l ?c ?k ?f ?c1 ?c2 ?c3 ?c4 ?b
        (case a => k_is); (case m => k_is); (case l => k_is); (case c => k_is); (case k => k_is); (case f => k_is); (case c1 => k_is); (case c2 => k_is); (case c3 => k_is); (case c4 => k_is)
        (case b => exact fun _ _ _ _ _ _ us hl => match us, hl with | [_, _, _], _ => rfl)
      have t_Loose_handed : Kw.TM (L2.KOf KX) mg "Loose" "handed" "Loose.handed" Kz.s_Loose_handed ["self", "thing"] := by
        unfold L2.KOf
        refine' Kw.tm_mk KX G ?a ?m ?l ?c ?k ?f ?c1 ?c2 ?c3 ?c4 ?b
        (case a => k_is); (case m => k_is); (case l => k_is); (case c => k_is); (case k => k_is); (case f => k_is); (case c1 => k_is); (case c2 => k_is); (case c3 => k_is); (case c4 => k_is)
        (case b => exact fun _ _ _ _ _ _ us hl => match us, hl with | [_, _], _ => rfl)
      have t_Bound___init__ : Kw.TM (L2.KOf KX) mg "Bound" "__init__" "Bound.__init__" Kz.s_Bound___init__ ["self", "body", "things"] := by
        unfold L2.KOf
        refine' Kw.tm_mk KX G ?a ?m ?l ?c ?k ?f ?c1 ?c2 ?c3 ?c4 ?b
        (case a => k_is); (case m => k_is); (case l => k_is); (case c => k_is); (case k => k_is); (case f => k_is); (case c1 => k_is); (case c2 => k_is); (case c3 => k_is); (case c4 => k_is)
        (case b => exact fun _ _ _ _ _ _ us hl => match us, hl with | [_, _, _], _ => rfl)
      have t_Bound_handed : Kw.TM (L2.KOf KX) mg "Bound" "handed" "Bound.handed" Kz.s_Bound_handed ["self", "thing"] := by
        unfold L2.KOf
        refine' Kw.tm_mk KX G ?a ?m ?l ?c ?k ?f ?c1 ?c2 ?c3 ?c4 ?b
        (case a => k_is); (case m => k_is); (case l => k_is); (case c => k_is); (case k => k_is); (case f => k_is); (case c1 => k_is); (case c2 => k_is); (case c3 => k_is); (case c4 => k_is)
        (case b => exact fun _ _ _ _ _ _ us hl => match us, hl with | [_, _], _ => rfl)
      have t_Leaf___init__ : Kw.TM (L2.KOf KX) mg "Leaf" "__init__" "Leaf.__init__" Kz.s_Leaf___init__ ["self", "term"] := by
        unfold L2.KOf
        refine' Kw.tm_mk KX G ?a ?m ?l ?c ?k ?f ?c1 ?c2 ?c3 ?c4 ?b
        (case a => k_is); (case m => k_is); (case l => k_is); (case c => k_is); (case k => k_is); (case f => k_is); (case c1 => k_is); (case c2 => k_is); (case c3 => k_is); (case c4 => k_is)
        (case b => exact fun _ _ _ _ _ _ us hl => match us, hl with | [_, _], _ => rfl)
      have t_Leaf_got : Kw.TM (L2.KOf KX) mg "Leaf" "got" "Leaf.got" Kz.s_Leaf_got ["self", "depth", "wanted"] := by
        unfold L2.KOf
        refine' Kw.tm_mk KX G ?a ?m ?l ?c ?k ?f ?c1 ?c2 ?c3 ?c4 ?b
        (case a => k_is); (case m => k_is); (case l => k_is); (case c => k_is); (case k => k_is); (case f => k_is); (case c1 => k_is); (case c2 => k_is); (case c3 => k_is); (case c4 => k_is)
        (case b => exact fun _ _ _ _ _ _ us hl => match us, hl with | [_, _, _], _ => rfl)
      have t_Result___init__ : Kw.TM (L2.KOf KX) mg "Result" "__init__" "Result.__init__" Kz.s_Result___init__ ["self", "term", "kind", "place"] := by
        unfold L2.KOf
        refine' Kw.tm_mk KX G ?a ?m ?l ?c ?k ?f ?c1 ?c2 ?c3 ?c4 ?b
        (case a => k_is); (case m => k_is); (case l => k_is); (case c => k_is); (case k => k_is); (case f => k_is); (case c1 => k_is); (case c2 => k_is); (case c3 => k_is); (case c4 => k_is)
        (case b => exact fun _ _ _ _ _ _ us hl => match us, hl with | [_, _, _, _], _ => rfl)
      have t_Result_got : Kw.TM (L2.KOf KX) mg "Result" "got" "Result.got" Kz.s_Result_got ["self", "depth", "wanted"] := by
        unfold L2.KOf
        refine' Kw.tm_mk KX G ?a ?m ?l ?c ?k ?f ?c1 ?c2 ?c3 ?c4 ?b
        (case a => k_is); (case m => k_is); (case l => k_is); (case c => k_is); (case k => k_is); (case f => k_is); (case c1 => k_is); (case c2 => k_is); (case c3 => k_is); (case c4 => k_is)
        (case b => exact fun _ _ _ _ _ _ us hl => match us, hl with | [_, _, _], _ => rfl)
      have t_Body___init__ : Kw.TM (L2.KOf KX) mg "Body" "__init__" "Body.__init__" Kz.s_Body___init__ ["self", "part", "order", "taken"] := by
        unfold L2.KOf
        refine' Kw.tm_mk KX G ?a ?m ?l ?c ?k ?f ?c1 ?c2 ?c3 ?c4 ?b
        (case a => k_is); (case m => k_is); (case l => k_is); (case c => k_is); (case k => k_is); (case f => k_is); (case c1 => k_is); (case c2 => k_is); (case c3 => k_is); (case c4 => k_is)
        (case b => exact fun _ _ _ _ _ _ us hl => match us, hl with | [_, _, _, _], _ => rfl)
      have t_Body_got : Kw.TM (L2.KOf KX) mg "Body" "got" "Body.got" Kz.s_Body_got ["self", "depth", "wanted"] := by
        unfold L2.KOf
        refine' Kw.tm_mk KX G ?a ?m ?l ?c ?k ?f ?c1 ?c2 ?c3 ?c4 ?b
        (case a => k_is); (case m => k_is); (case l => k_is); (case c => k_is); (case k => k_is); (case f => k_is); (case c1 => k_is); (case c2 => k_is); (case c3 => k_is); (case c4 => k_is)
        (case b => exact fun _ _ _ _ _ _ us hl => match us, hl with | [_, _, _], _ => rfl)
      have t_is_from : Kw.TF (L2.KOf KX) mg "is_from" Kz.s_is_from ["thing", "low", "high"] := by
        unfold L2.KOf
        refine' Kw.tf_mk KX G ?a ?l ?c ?k ?b
        (case a => k_is); (case l => k_is); (case c => k_is); (case k => k_is)
        (case b => exact fun _ _ _ _ _ _ us hl => match us, hl with | [_, _, _], _ => rfl)
      have t_inner_of : Kw.TF (L2.KOf KX) mg "inner_of" Kz.s_inner_of ["thing"] := by
        unfold L2.KOf
        refine' Kw.tf_mk KX G ?a ?l ?c ?k ?b
        (case a => k_is); (case l => k_is); (case c => k_is); (case k => k_is)
        (case b => exact fun _ _ _ _ _ _ us hl => match us, hl with | [_], _ => rfl)
      have t_is_kind : Kw.TF (L2.KOf KX) mg "is_kind" Kz.s_is_kind ["thing"] := by
        unfold L2.KOf
        refine' Kw.tf_mk KX G ?a ?l ?c ?k ?b
        (case a => k_is); (case l => k_is); (case c => k_is); (case k => k_is)
        (case b => exact fun _ _ _ _ _ _ us hl => match us, hl with | [_], _ => rfl)
      have t_sure_kind : Kw.TF (L2.KOf KX) mg "sure_kind" Kz.s_sure_kind ["thing"] := by
        unfold L2.KOf
        refine' Kw.tf_mk KX G ?a ?l ?c ?k ?b
        (case a => k_is); (case l => k_is); (case c => k_is); (case k => k_is)
        (case b => exact fun _ _ _ _ _ _ us hl => match us, hl with | [_], _ => rfl)
      have t_order_of : Kw.TF (L2.KOf KX) mg "order_of" Kz.s_order_of ["things"] := by
        unfold L2.KOf
        refine' Kw.tf_mk KX G ?a ?l ?c ?k ?b
        (case a => k_is); (case l => k_is); (case c => k_is); (case k => k_is)
        (case b => exact fun _ _ _ _ _ _ us hl => match us, hl with | [_], _ => rfl)
      have t_in_order : Kw.TF (L2.KOf KX) mg "in_order" Kz.s_in_order ["things"] := by
        unfold L2.KOf
        refine' Kw.tf_mk KX G ?a ?l ?c ?k ?b
        (case a => k_is); (case l => k_is); (case c => k_is); (case k => k_is)
        (case b => exact fun _ _ _ _ _ _ us hl => match us, hl with | [_], _ => rfl)
      have t_wants_with : Kw.TF (L2.KOf KX) mg "wants_with" Kz.s_wants_with ["factor", "first"] := by
        unfold L2.KOf
        refine' Kw.tf_mk KX G ?a ?l ?c ?k ?b
        (case a => k_is); (case l => k_is); (case c => k_is); (case k => k_is)
        (case b => exact fun _ _ _ _ _ _ us hl => match us, hl with | [_, _], _ => rfl)
      have t_plain_form : Kw.TF (L2.KOf KX) mg "plain_form" Kz.s_plain_form ["kind"] := by
        unfold L2.KOf
        refine' Kw.tf_mk KX G ?a ?l ?c ?k ?b
        (case a => k_is); (case l => k_is); (case c => k_is); (case k => k_is)
        (case b => exact fun _ _ _ _ _ _ us hl => match us, hl with | [_], _ => rfl)
      have t_form : Kw.TF (L2.KOf KX) mg "form" Kz.s_form ["kind"] := by
        unfold L2.KOf
        refine' Kw.tf_mk KX G ?a ?l ?c ?k ?b
        (case a => k_is); (case l => k_is); (case c => k_is); (case k => k_is)
        (case b => exact fun _ _ _ _ _ _ us hl => match us, hl with | [_], _ => rfl)
      have t_alike : Kw.TF (L2.KOf KX) mg "alike" Kz.s_alike ["one", "other"] := by
        unfold L2.KOf
        refine' Kw.tf_mk KX G ?a ?l ?c ?k ?b
        (case a => k_is); (case l => k_is); (case c => k_is); (case k => k_is)
        (case b => exact fun _ _ _ _ _ _ us hl => match us, hl with | [_, _], _ => rfl)
      have t_is_base : Kw.TF (L2.KOf KX) mg "is_base" Kz.s_is_base ["thing"] := by
        unfold L2.KOf
        refine' Kw.tf_mk KX G ?a ?l ?c ?k ?b
        (case a => k_is); (case l => k_is); (case c => k_is); (case k => k_is)
        (case b => exact fun _ _ _ _ _ _ us hl => match us, hl with | [_], _ => rfl)
      have t_is_factor : Kw.TF (L2.KOf KX) mg "is_factor" Kz.s_is_factor ["thing"] := by
        unfold L2.KOf
        refine' Kw.tf_mk KX G ?a ?l ?c ?k ?b
        (case a => k_is); (case l => k_is); (case c => k_is); (case k => k_is)
        (case b => exact fun _ _ _ _ _ _ us hl => match us, hl with | [_], _ => rfl)
      have t_is_form : Kw.TF (L2.KOf KX) mg "is_form" Kz.s_is_form ["thing"] := by
        unfold L2.KOf
        refine' Kw.tf_mk KX G ?a ?l ?c ?k ?b
        (case a => k_is); (case l => k_is); (case c => k_is); (case k => k_is)
        (case b => exact fun _ _ _ _ _ _ us hl => match us, hl with | [_], _ => rfl)
      have t_kind_by : Kw.TF (L2.KOf KX) mg "kind_by" Kz.s_kind_by ["factors"] := by
        unfold L2.KOf
        refine' Kw.tf_mk KX G ?a ?l ?c ?k ?b
        (case a => k_is); (case l => k_is); (case c => k_is); (case k => k_is)
        (case b => exact fun _ _ _ _ _ _ us hl => match us, hl with | [_], _ => rfl)
      have t_kind_of : Kw.TF (L2.KOf KX) mg "kind_of" Kz.s_kind_of ["form"] := by
        unfold L2.KOf
        refine' Kw.tf_mk KX G ?a ?l ?c ?k ?b
        (case a => k_is); (case l => k_is); (case c => k_is); (case k => k_is)
        (case b => exact fun _ _ _ _ _ _ us hl => match us, hl with | [_], _ => rfl)
      have t_sure_given : Kw.TF (L2.KOf KX) mg "sure_given" Kz.s_sure_given ["given"] := by
        unfold L2.KOf
        refine' Kw.tf_mk KX G ?a ?l ?c ?k ?b
        (case a => k_is); (case l => k_is); (case c => k_is); (case k => k_is)
        (case b => exact fun _ _ _ _ _ _ us hl => match us, hl with | [_], _ => rfl)
      have t_is_shape : Kw.TF (L2.KOf KX) mg "is_shape" Kz.s_is_shape ["thing"] := by
        unfold L2.KOf
        refine' Kw.tf_mk KX G ?a ?l ?c ?k ?b
        (case a => k_is); (case l => k_is); (case c => k_is); (case k => k_is)
        (case b => exact fun _ _ _ _ _ _ us hl => match us, hl with | [_], _ => rfl)
      have t_kind_of_given : Kw.TF (L2.KOf KX) mg "kind_of_given" Kz.s_kind_of_given ["k", "given"] := by
        unfold L2.KOf
        refine' Kw.tf_mk KX G ?a ?l ?c ?k ?b
        (case a => k_is); (case l => k_is); (case c => k_is); (case k => k_is)
        (case b => exact fun _ _ _ _ _ _ us hl => match us, hl with | [_, _], _ => rfl)
      have t_kind_of_two : Kw.TF (L2.KOf KX) mg "kind_of_two" Kz.s_kind_of_two ["word", "one", "other"] := by
        unfold L2.KOf
        refine' Kw.tf_mk KX G ?a ?l ?c ?k ?b
        (case a => k_is); (case l => k_is); (case c => k_is); (case k => k_is)
        (case b => exact fun _ _ _ _ _ _ us hl => match us, hl with | [_, _, _], _ => rfl)
      have t_kind_in : Kw.TF (L2.KOf KX) mg "kind_in" Kz.s_kind_in ["term", "given"] := by
        unfold L2.KOf
        refine' Kw.tf_mk KX G ?a ?l ?c ?k ?b
        (case a => k_is); (case l => k_is); (case c => k_is); (case k => k_is)
        (case b => exact fun _ _ _ _ _ _ us hl => match us, hl with | [_, _], _ => rfl)
      have t_sure_kind_in : Kw.TF (L2.KOf KX) mg "sure_kind_in" Kz.s_sure_kind_in ["term", "given"] := by
        unfold L2.KOf
        refine' Kw.tf_mk KX G ?a ?l ?c ?k ?b
        (case a => k_is); (case l => k_is); (case c => k_is); (case k => k_is)
        (case b => exact fun _ _ _ _ _ _ us hl => match us, hl with | [_, _], _ => rfl)
      have t_term_kind : Kw.TF (L2.KOf KX) mg "term_kind" Kz.s_term_kind ["term", "given"] := by
        unfold L2.KOf
        refine' Kw.tf_mk KX G ?a ?l ?c ?k ?b
        (case a => k_is); (case l => k_is); (case c => k_is); (case k => k_is)
        (case b => exact fun _ _ _ _ _ _ us hl => match us, hl with | [_, _], _ => rfl)
      have t_opened : Kw.TF (L2.KOf KX) mg "opened" Kz.s_opened ["kind", "chain"] := by
        unfold L2.KOf
        refine' Kw.tf_mk KX G ?a ?l ?c ?k ?b
        (case a => k_is); (case l => k_is); (case c => k_is); (case k => k_is)
        (case b => exact fun _ _ _ _ _ _ us hl => match us, hl with | [_, _], _ => rfl)
      have t_meant : Kw.TF (L2.KOf KX) mg "meant" Kz.s_meant ["term", "things"] := by
        unfold L2.KOf
        refine' Kw.tf_mk KX G ?a ?l ?c ?k ?b
        (case a => k_is); (case l => k_is); (case c => k_is); (case k => k_is)
        (case b => exact fun _ _ _ _ _ _ us hl => match us, hl with | [_, _], _ => rfl)
      have t_said : Kw.TF (L2.KOf KX) mg "said" Kz.s_said ["kind", "thing", "many"] := by
        unfold L2.KOf
        refine' Kw.tf_mk KX G ?a ?l ?c ?k ?b
        (case a => k_is); (case l => k_is); (case c => k_is); (case k => k_is)
        (case b => exact fun _ _ _ _ _ _ us hl => match us, hl with | [_, _, _], _ => rfl)
      have t_chain_said : Kw.TF (L2.KOf KX) mg "chain_said" Kz.s_chain_said ["chain", "many"] := by
        unfold L2.KOf
        refine' Kw.tf_mk KX G ?a ?l ?c ?k ?b
        (case a => k_is); (case l => k_is); (case c => k_is); (case k => k_is)
        (case b => exact fun _ _ _ _ _ _ us hl => match us, hl with | [_, _], _ => rfl)
      have t_plain_in : Kw.TF (L2.KOf KX) mg "plain_in" Kz.s_plain_in ["term", "kind", "given"] := by
        unfold L2.KOf
        refine' Kw.tf_mk KX G ?a ?l ?c ?k ?b
        (case a => k_is); (case l => k_is); (case c => k_is); (case k => k_is)
        (case b => exact fun _ _ _ _ _ _ us hl => match us, hl with | [_, _, _], _ => rfl)
      have t_same : Kw.TF (L2.KOf KX) mg "same" Kz.s_same ["one", "other", "given"] := by
        unfold L2.KOf
        refine' Kw.tf_mk KX G ?a ?l ?c ?k ?b
        (case a => k_is); (case l => k_is); (case c => k_is); (case k => k_is)
        (case b => exact fun _ _ _ _ _ _ us hl => match us, hl with | [_, _, _], _ => rfl)
      have t_put_back : Kw.TF (L2.KOf KX) mg "put_back" Kz.s_put_back ["things", "order"] := by
        unfold L2.KOf
        refine' Kw.tf_mk KX G ?a ?l ?c ?k ?b
        (case a => k_is); (case l => k_is); (case c => k_is); (case k => k_is)
        (case b => exact fun _ _ _ _ _ _ us hl => match us, hl with | [_, _], _ => rfl)
      have t_factors_from : Kw.TF (L2.KOf KX) mg "factors_from" Kz.s_factors_from ["kind"] := by
        unfold L2.KOf
        refine' Kw.tf_mk KX G ?a ?l ?c ?k ?b
        (case a => k_is); (case l => k_is); (case c => k_is); (case k => k_is)
        (case b => exact fun _ _ _ _ _ _ us hl => match us, hl with | [_], _ => rfl)
      have t_parts : Kw.TF (L2.KOf KX) mg "parts" Kz.s_parts ["kind", "term"] := by
        unfold L2.KOf
        refine' Kw.tf_mk KX G ?a ?l ?c ?k ?b
        (case a => k_is); (case l => k_is); (case c => k_is); (case k => k_is)
        (case b => exact fun _ _ _ _ _ _ us hl => match us, hl with | [_, _], _ => rfl)
      have t_built : Kw.TF (L2.KOf KX) mg "built" Kz.s_built ["kind", "some", "depth"] := by
        unfold L2.KOf
        refine' Kw.tf_mk KX G ?a ?l ?c ?k ?b
        (case a => k_is); (case l => k_is); (case c => k_is); (case k => k_is)
        (case b => exact fun _ _ _ _ _ _ us hl => match us, hl with | [_, _, _], _ => rfl)
      have t_turner : Kw.TF (L2.KOf KX) mg "turner" Kz.s_turner ["one", "other"] := by
        unfold L2.KOf
        refine' Kw.tf_mk KX G ?a ?l ?c ?k ?b
        (case a => k_is); (case l => k_is); (case c => k_is); (case k => k_is)
        (case b => exact fun _ _ _ _ _ _ us hl => match us, hl with | [_, _], _ => rfl)
      have t_lifted : Kw.TF (L2.KOf KX) mg "lifted" Kz.s_lifted ["term", "by"] := by
        unfold L2.KOf
        refine' Kw.tf_mk KX G ?a ?l ?c ?k ?b
        (case a => k_is); (case l => k_is); (case c => k_is); (case k => k_is)
        (case b => exact fun _ _ _ _ _ _ us hl => match us, hl with | [_, _], _ => rfl)
      have t_is_of : Kw.TF (L2.KOf KX) mg "is_of" Kz.s_is_of ["term", "kind"] := by
        unfold L2.KOf
        refine' Kw.tf_mk KX G ?a ?l ?c ?k ?b
        (case a => k_is); (case l => k_is); (case c => k_is); (case k => k_is)
        (case b => exact fun _ _ _ _ _ _ us hl => match us, hl with | [_, _], _ => rfl)
      have t_goes_round : Kw.TF (L2.KOf KX) mg "goes_round" Kz.s_goes_round ["kind", "there", "back"] := by
        unfold L2.KOf
        refine' Kw.tf_mk KX G ?a ?l ?c ?k ?b
        (case a => k_is); (case l => k_is); (case c => k_is); (case k => k_is)
        (case b => exact fun _ _ _ _ _ _ us hl => match us, hl with | [_, _, _], _ => rfl)
      have t_turn_fault : Kw.TF (L2.KOf KX) mg "turn_fault" Kz.s_turn_fault ["one", "other", "there", "back"] := by
        unfold L2.KOf
        refine' Kw.tf_mk KX G ?a ?l ?c ?k ?b
        (case a => k_is); (case l => k_is); (case c => k_is); (case k => k_is)
        (case b => exact fun _ _ _ _ _ _ us hl => match us, hl with | [_, _, _, _], _ => rfl)
      have t_is_library : Kw.TF (L2.KOf KX) mg "is_library" Kz.s_is_library ["thing"] := by
        unfold L2.KOf
        refine' Kw.tf_mk KX G ?a ?l ?c ?k ?b
        (case a => k_is); (case l => k_is); (case c => k_is); (case k => k_is)
        (case b => exact fun _ _ _ _ _ _ us hl => match us, hl with | [_], _ => rfl)
      have t_sure_library : Kw.TF (L2.KOf KX) mg "sure_library" Kz.s_sure_library ["library"] := by
        unfold L2.KOf
        refine' Kw.tf_mk KX G ?a ?l ?c ?k ?b
        (case a => k_is); (case l => k_is); (case c => k_is); (case k => k_is)
        (case b => exact fun _ _ _ _ _ _ us hl => match us, hl with | [_], _ => rfl)
      have t_without : Kw.TF (L2.KOf KX) mg "without" Kz.s_without ["things", "fewer"] := by
        unfold L2.KOf
        refine' Kw.tf_mk KX G ?a ?l ?c ?k ?b
        (case a => k_is); (case l => k_is); (case c => k_is); (case k => k_is)
        (case b => exact fun _ _ _ _ _ _ us hl => match us, hl with | [_, _], _ => rfl)
      have t_with_more : Kw.TF (L2.KOf KX) mg "with_more" Kz.s_with_more ["factors", "more"] := by
        unfold L2.KOf
        refine' Kw.tf_mk KX G ?a ?l ?c ?k ?b
        (case a => k_is); (case l => k_is); (case c => k_is); (case k => k_is)
        (case b => exact fun _ _ _ _ _ _ us hl => match us, hl with | [_, _], _ => rfl)
      have t_left_to_hand_in : Kw.TF (L2.KOf KX) mg "left_to_hand_in" Kz.s_left_to_hand_in ["there", "wished"] := by
        unfold L2.KOf
        refine' Kw.tf_mk KX G ?a ?l ?c ?k ?b
        (case a => k_is); (case l => k_is); (case c => k_is); (case k => k_is)
        (case b => exact fun _ _ _ _ _ _ us hl => match us, hl with | [_, _], _ => rfl)
      have t_wished_from : Kw.TF (L2.KOf KX) mg "wished_from" Kz.s_wished_from ["wants", "kind"] := by
        unfold L2.KOf
        refine' Kw.tf_mk KX G ?a ?l ?c ?k ?b
        (case a => k_is); (case l => k_is); (case c => k_is); (case k => k_is)
        (case b => exact fun _ _ _ _ _ _ us hl => match us, hl with | [_, _], _ => rfl)
      have t_search : Kw.TF (L2.KOf KX) mg "search" Kz.s_search ["library", "kind"] := by
        unfold L2.KOf
        refine' Kw.tf_mk KX G ?a ?l ?c ?k ?b
        (case a => k_is); (case l => k_is); (case c => k_is); (case k => k_is)
        (case b => exact fun _ _ _ _ _ _ us hl => match us, hl with | [_, _], _ => rfl)
      have t_search_fault : Kw.TF (L2.KOf KX) mg "search_fault" Kz.s_search_fault ["library", "kind", "name", "thing"] := by
        unfold L2.KOf
        refine' Kw.tf_mk KX G ?a ?l ?c ?k ?b
        (case a => k_is); (case l => k_is); (case c => k_is); (case k => k_is)
        (case b => exact fun _ _ _ _ _ _ us hl => match us, hl with | [_, _, _, _], _ => rfl)
      have t__law_well : Kw.TF (L2.KOf KX) mg "_law_well" Kz.s__law_well ["_law_cell"] := by
        unfold L2.KOf
        refine' Kw.tf_mk KX G ?a ?l ?c ?k ?b
        (case a => k_is); (case l => k_is); (case c => k_is); (case k => k_is)
        (case b => exact fun _ _ _ _ _ _ us hl => match us, hl with | [_], _ => rfl)
      have t__law_draw : Kw.TF (L2.KOf KX) mg "_law_draw" Kz.s__law_draw ["_law_well_here", "_law_width"] := by
        unfold L2.KOf
        refine' Kw.tf_mk KX G ?a ?l ?c ?k ?b
        (case a => k_is); (case l => k_is); (case c => k_is); (case k => k_is)
        (case b => exact fun _ _ _ _ _ _ us hl => match us, hl with | [_, _], _ => rfl)
      have t__law_word : Kw.TF (L2.KOf KX) mg "_law_word" Kz.s__law_word ["_law_ask"] := by
        unfold L2.KOf
        refine' Kw.tf_mk KX G ?a ?l ?c ?k ?b
        (case a => k_is); (case l => k_is); (case c => k_is); (case k => k_is)
        (case b => exact fun _ _ _ _ _ _ us hl => match us, hl with | [_], _ => rfl)
      have t__law_library : Kw.TF (L2.KOf KX) mg "_law_library" Kz.s__law_library ["_law_well_here"] := by
        unfold L2.KOf
        refine' Kw.tf_mk KX G ?a ?l ?c ?k ?b
        (case a => k_is); (case l => k_is); (case c => k_is); (case k => k_is)
        (case b => exact fun _ _ _ _ _ _ us hl => match us, hl with | [_], _ => rfl)
      have t__law_twice : Kw.TF (L2.KOf KX) mg "_law_twice" Kz.s__law_twice ["_law_well_here", "_law_library_here"] := by
        unfold L2.KOf
        refine' Kw.tf_mk KX G ?a ?l ?c ?k ?b
        (case a => k_is); (case l => k_is); (case c => k_is); (case k => k_is)
        (case b => exact fun _ _ _ _ _ _ us hl => match us, hl with | [_, _], _ => rfl)
      have m_all : mg "all" = none := by
        refine' Kw.bl_mk KX G ?a
        (case a => k_is)
      have m_bool : mg "bool" = none := by
        refine' Kw.bl_mk KX G ?a
        (case a => k_is)
      have m_enumerate : mg "enumerate" = none := by
        refine' Kw.bl_mk KX G ?a
        (case a => k_is)
      have m_int : mg "int" = none := by
        refine' Kw.bl_mk KX G ?a
        (case a => k_is)
      have m_isinstance : mg "isinstance" = none := by
        refine' Kw.bl_mk KX G ?a
        (case a => k_is)
      have m_len : mg "len" = none := by
        refine' Kw.bl_mk KX G ?a
        (case a => k_is)
      have m_list : mg "list" = none := by
        refine' Kw.bl_mk KX G ?a
        (case a => k_is)
      have m_range : mg "range" = none := by
        refine' Kw.bl_mk KX G ?a
        (case a => k_is)
      have m_set : mg "set" = none := by
        refine' Kw.bl_mk KX G ?a
        (case a => k_is)
      have m_sorted : mg "sorted" = none := by
        refine' Kw.bl_mk KX G ?a
        (case a => k_is)
      have m_str : mg "str" = none := by
        refine' Kw.bl_mk KX G ?a
        (case a => k_is)
      have m_tuple : mg "tuple" = none := by
        refine' Kw.bl_mk KX G ?a
        (case a => k_is)
      have m_zip : mg "zip" = none := by
        refine' Kw.bl_mk KX G ?a
        (case a => k_is)
      have c_LETTERS : Kw.GC mg "LETTERS" (.str "abcdefgh") := by
        refine' Kw.gc_str KX G ?a
        (case a => k_is)
      have c_MARKS : Kw.GD (L2.KOf KX) w.params mg "MARKS" Kz.kv_MARKS := by
        unfold L2.KOf
        refine' Kw.gd_mk KX G ?a ?l ?k ?s ?e
        (case a => k_is); (case l => k_is); (case k => exact ⟨⟨_, _, rfl, rfl⟩, ⟨_, _, rfl, rfl⟩, trivial⟩); (case s => rfl); (case e => exact (Kw.Ents.cons (v := .str "*") ⟨_, rfl⟩ rfl (Kw.Ents.cons (v := .str ">") ⟨_, rfl⟩ rfl Kw.Ents.nil)))
      have c_MOST_BASE : Kw.GC mg "MOST_BASE" (.int 7) := by
        refine' Kw.gc_int KX G ?a
        (case a => k_is)
      have c_PARTS : Kw.GD (L2.KOf KX) w.params mg "PARTS" Kz.kv_PARTS := by
        unfold L2.KOf
        refine' Kw.gd_mk KX G ?a ?l ?k ?s ?e
        (case a => k_is); (case l => k_is); (case k => exact ⟨⟨_, _, rfl, rfl⟩, ⟨_, _, rfl, rfl⟩, ⟨_, _, rfl, rfl⟩, ⟨_, _, rfl, rfl⟩, ⟨_, _, rfl, rfl⟩, ⟨_, _, rfl, rfl⟩, ⟨_, _, rfl, rfl⟩, trivial⟩); (case s => rfl); (case e => exact (Kw.Ents.cons (v := .int 2) ⟨_, rfl⟩ rfl (Kw.Ents.cons (v := .int 3) ⟨_, rfl⟩ rfl (Kw.Ents.cons (v := .int 3) ⟨_, rfl⟩ rfl (Kw.Ents.cons (v := .int 3) ⟨_, rfl⟩ rfl (Kw.Ents.cons (v := .int 2) ⟨_, rfl⟩ rfl (Kw.Ents.cons (v := .int 2) ⟨_, rfl⟩ rfl (Kw.Ents.cons (v := .int 1) ⟨_, rfl⟩ rfl Kw.Ents.nil))))))))
      have k_Body : Kw.MkC (L2.KOf KX) mg "Body" := by
        unfold L2.KOf
        refine' Kw.mkc_mk KX G ?a ?b ?c ?d ?e
        (case a => k_is); (case b => k_is); (case c => k_is); (case d => k_is); (case e => k_is)
      have k_Bound : Kw.MkC (L2.KOf KX) mg "Bound" := by
        unfold L2.KOf
        refine' Kw.mkc_mk KX G ?a ?b ?c ?d ?e
        (case a => k_is); (case b => k_is); (case c => k_is); (case d => k_is); (case e => k_is)
      have k_Leaf : Kw.MkC (L2.KOf KX) mg "Leaf" := by
        unfold L2.KOf
        refine' Kw.mkc_mk KX G ?a ?b ?c ?d ?e
        (case a => k_is); (case b => k_is); (case c => k_is); (case d => k_is); (case e => k_is)
      have k_Loose : Kw.MkC (L2.KOf KX) mg "Loose" := by
        unfold L2.KOf
        refine' Kw.mkc_mk KX G ?a ?b ?c ?d ?e
        (case a => k_is); (case b => k_is); (case c => k_is); (case d => k_is); (case e => k_is)
      have k_Result : Kw.MkC (L2.KOf KX) mg "Result" := by
        unfold L2.KOf
        refine' Kw.mkc_mk KX G ?a ?b ?c ?d ?e
        (case a => k_is); (case b => k_is); (case c => k_is); (case d => k_is); (case e => k_is)
      have g_Bound_body : Kw.FldC (L2.KOf KX) mg "Bound" "body" := by
        unfold L2.KOf
        refine' Kw.fld_mk KX G ?a ?n ?c1 ?c2 ?c3 ?c4
        (case a => k_is); (case n => k_is); (case c1 => k_is); (case c2 => k_is); (case c3 => k_is); (case c4 => k_is)
      have g_body : ∀ c ∈ (["Bound"] : List Str), Kw.FldC (L2.KOf KX) mg c "body" := (List.forall_mem_cons.mpr ⟨g_Bound_body, (by simp)⟩)
      have g_Loose_chain : Kw.FldC (L2.KOf KX) mg "Loose" "chain" := by
        unfold L2.KOf
        refine' Kw.fld_mk KX G ?a ?n ?c1 ?c2 ?c3 ?c4
        (case a => k_is); (case n => k_is); (case c1 => k_is); (case c2 => k_is); (case c3 => k_is); (case c4 => k_is)
      have g_chain : ∀ c ∈ (["Loose"] : List Str), Kw.FldC (L2.KOf KX) mg c "chain" := (List.forall_mem_cons.mpr ⟨g_Loose_chain, (by simp)⟩)
      have g_Result_factor : Kw.FldC (L2.KOf KX) mg "Result" "factor" := by
        unfold L2.KOf
        refine' Kw.fld_mk KX G ?a ?n ?c1 ?c2 ?c3 ?c4
        (case a => k_is); (case n => k_is); (case c1 => k_is); (case c2 => k_is); (case c3 => k_is); (case c4 => k_is)
      have g_factor : ∀ c ∈ (["Result"] : List Str), Kw.FldC (L2.KOf KX) mg c "factor" := (List.forall_mem_cons.mpr ⟨g_Result_factor, (by simp)⟩)
      have g_Loose_kind : Kw.FldC (L2.KOf KX) mg "Loose" "kind" := by
        unfold L2.KOf
        refine' Kw.fld_mk KX G ?a ?n ?c1 ?c2 ?c3 ?c4
        (case a => k_is); (case n => k_is); (case c1 => k_is); (case c2 => k_is); (case c3 => k_is); (case c4 => k_is)
      have g_Result_kind : Kw.FldC (L2.KOf KX) mg "Result" "kind" := by
        unfold L2.KOf
        refine' Kw.fld_mk KX G ?a ?n ?c1 ?c2 ?c3 ?c4
        (case a => k_is); (case n => k_is); (case c1 => k_is); (case c2 => k_is); (case c3 => k_is); (case c4 => k_is)
      have g_kind : ∀ c ∈ (["Loose", "Result"] : List Str), Kw.FldC (L2.KOf KX) mg c "kind" := (List.forall_mem_cons.mpr ⟨g_Loose_kind, (List.forall_mem_cons.mpr ⟨g_Result_kind, (by simp)⟩)⟩)
      have g_Result_order : Kw.FldC (L2.KOf KX) mg "Result" "order" := by
        unfold L2.KOf
        refine' Kw.fld_mk KX G ?a ?n ?c1 ?c2 ?c3 ?c4
        (case a => k_is); (case n => k_is); (case c1 => k_is); (case c2 => k_is); (case c3 => k_is); (case c4 => k_is)
      have g_Body_order : Kw.FldC (L2.KOf KX) mg "Body" "order" := by
        unfold L2.KOf
        refine' Kw.fld_mk KX G ?a ?n ?c1 ?c2 ?c3 ?c4
        (case a => k_is); (case n => k_is); (case c1 => k_is); (case c2 => k_is); (case c3 => k_is); (case c4 => k_is)
      have g_order : ∀ c ∈ (["Result", "Body"] : List Str), Kw.FldC (L2.KOf KX) mg c "order" := (List.forall_mem_cons.mpr ⟨g_Result_order, (List.forall_mem_cons.mpr ⟨g_Body_order, (by simp)⟩)⟩)
      have g_Body_part : Kw.FldC (L2.KOf KX) mg "Body" "part" := by
        unfold L2.KOf
        refine' Kw.fld_mk KX G ?a ?n ?c1 ?c2 ?c3 ?c4
        (case a => k_is); (case n => k_is); (case c1 => k_is); (case c2 => k_is); (case c3 => k_is); (case c4 => k_is)
      have g_part : ∀ c ∈ (["Body"] : List Str), Kw.FldC (L2.KOf KX) mg c "part" := (List.forall_mem_cons.mpr ⟨g_Body_part, (by simp)⟩)
      have g_Result_place : Kw.FldC (L2.KOf KX) mg "Result" "place" := by
        unfold L2.KOf
        refine' Kw.fld_mk KX G ?a ?n ?c1 ?c2 ?c3 ?c4
        (case a => k_is); (case n => k_is); (case c1 => k_is); (case c2 => k_is); (case c3 => k_is); (case c4 => k_is)
      have g_place : ∀ c ∈ (["Result"] : List Str), Kw.FldC (L2.KOf KX) mg c "place" := (List.forall_mem_cons.mpr ⟨g_Result_place, (by simp)⟩)
      have g_Body_taken : Kw.FldC (L2.KOf KX) mg "Body" "taken" := by
        unfold L2.KOf
        refine' Kw.fld_mk KX G ?a ?n ?c1 ?c2 ?c3 ?c4
        (case a => k_is); (case n => k_is); (case c1 => k_is); (case c2 => k_is); (case c3 => k_is); (case c4 => k_is)
      have g_taken : ∀ c ∈ (["Body"] : List Str), Kw.FldC (L2.KOf KX) mg c "taken" := (List.forall_mem_cons.mpr ⟨g_Body_taken, (by simp)⟩)
      have g_Leaf_term : Kw.FldC (L2.KOf KX) mg "Leaf" "term" := by
        unfold L2.KOf
        refine' Kw.fld_mk KX G ?a ?n ?c1 ?c2 ?c3 ?c4
        (case a => k_is); (case n => k_is); (case c1 => k_is); (case c2 => k_is); (case c3 => k_is); (case c4 => k_is)
      have g_Result_term : Kw.FldC (L2.KOf KX) mg "Result" "term" := by
        unfold L2.KOf
        refine' Kw.fld_mk KX G ?a ?n ?c1 ?c2 ?c3 ?c4
        (case a => k_is); (case n => k_is); (case c1 => k_is); (case c2 => k_is); (case c3 => k_is); (case c4 => k_is)
      have g_term : ∀ c ∈ (["Leaf", "Result"] : List Str), Kw.FldC (L2.KOf KX) mg c "term" := (List.forall_mem_cons.mpr ⟨g_Leaf_term, (List.forall_mem_cons.mpr ⟨g_Result_term, (by simp)⟩)⟩)
      have g_Bound_things : Kw.FldC (L2.KOf KX) mg "Bound" "things" := by
        unfold L2.KOf
        refine' Kw.fld_mk KX G ?a ?n ?c1 ?c2 ?c3 ?c4
        (case a => k_is); (case n => k_is); (case c1 => k_is); (case c2 => k_is); (case c3 => k_is); (case c4 => k_is)
      have g_things : ∀ c ∈ (["Bound"] : List Str), Kw.FldC (L2.KOf KX) mg c "things" := (List.forall_mem_cons.mpr ⟨g_Bound_things, (by simp)⟩)
      have x_NoForm : Kw.ExcF (L2.KOf KX) mg "NoForm" := by
        unfold L2.KOf
        refine' Kw.exc_mk KX G ?a ?b ?c ?d ?e
        (case a => k_is); (case b => k_exc); (case c => k_is); (case d => k_is); (case e => k_is)
      have x_NoKind : Kw.ExcF (L2.KOf KX) mg "NoKind" := by
        unfold L2.KOf
        refine' Kw.exc_mk KX G ?a ?b ?c ?d ?e
        (case a => k_is); (case b => k_exc); (case c => k_is); (case d => k_is); (case e => k_is)
      have x_NoLibrary : Kw.ExcF (L2.KOf KX) mg "NoLibrary" := by
        unfold L2.KOf
        refine' Kw.exc_mk KX G ?a ?b ?c ?d ?e
        (case a => k_is); (case b => k_exc); (case c => k_is); (case d => k_is); (case e => k_is)
      have x_NoName : Kw.ExcF (L2.KOf KX) mg "NoName" := by
        unfold L2.KOf
        refine' Kw.exc_mk KX G ?a ?b ?c ?d ?e
        (case a => k_is); (case b => k_exc); (case c => k_is); (case d => k_is); (case e => k_is)
      have x_NoTerm : Kw.ExcF (L2.KOf KX) mg "NoTerm" := by
        unfold L2.KOf
        refine' Kw.exc_mk KX G ?a ?b ?c ?d ?e
        (case a => k_is); (case b => k_exc); (case c => k_is); (case d => k_is); (case e => k_is)
      have xk_NoForm : Kw.ExcK (L2.KOf KX) mg "NoForm" := by
        unfold L2.KOf
        refine' Kw.exck_mk KX G ?kz20 ⟨?kz21, ?kz22, ?kz23, ?kz24, ?kz25, ?kz26, ?kz27, ?kz28⟩
        (case kz20 => k_is)
        (case kz21 => k_is)
        (case kz22 => k_is)
        (case kz23 => k_is)
        (case kz24 => k_is)
        (case kz25 => k_is)
        (case kz26 => k_is)
        (case kz27 => k_is)
        (case kz28 => k_is)

      have xk_NoKind : Kw.ExcK (L2.KOf KX) mg "NoKind" := by
        unfold L2.KOf
        refine' Kw.exck_mk KX G ?kz40 ⟨?kz41, ?kz42, ?kz43, ?kz44, ?kz45, ?kz46, ?kz47, ?kz48⟩
        (case kz40 => k_is)
        (case kz41 => k_is)
        (case kz42 => k_is)
        (case kz43 => k_is)
        (case kz44 => k_is)
        (case kz45 => k_is)
        (case kz46 => k_is)
        (case kz47 => k_is)
        (case kz48 => k_is)

      have xk_NoLibrary : Kw.ExcK (L2.KOf KX) mg "NoLibrary" := by
        unfold L2.KOf
        refine' Kw.exck_mk KX G ?kz60 ⟨?kz61, ?kz62, ?kz63, ?kz64, ?kz65, ?kz66, ?kz67, ?kz68⟩
        (case kz60 => k_is)
        (case kz61 => k_is)
        (case kz62 => k_is)
        (case kz63 => k_is)
        (case kz64 => k_is)
        (case kz65 => k_is)
        (case kz66 => k_is)
        (case kz67 => k_is)
        (case kz68 => k_is)

      have xk_NoName : Kw.ExcK (L2.KOf KX) mg "NoName" := by
        unfold L2.KOf
        refine' Kw.exck_mk KX G ?kz80 ⟨?kz81, ?kz82, ?kz83, ?kz84, ?kz85, ?kz86, ?kz87, ?kz88⟩
        (case kz80 => k_is)
        (case kz81 => k_is)
        (case kz82 => k_is)
        (case kz83 => k_is)
        (case kz84 => k_is)
        (case kz85 => k_is)
        (case kz86 => k_is)
        (case kz87 => k_is)
        (case kz88 => k_is)

      have xk_NoTerm : Kw.ExcK (L2.KOf KX) mg "NoTerm" := by
        unfold L2.KOf
        refine' Kw.exck_mk KX G ?kz100 ⟨?kz101, ?kz102, ?kz103, ?kz104, ?kz105, ?kz106, ?kz107, ?kz108⟩
        (case kz100 => k_is)
        (case kz101 => k_is)
        (case kz102 => k_is)
        (case kz103 => k_is)
        (case kz104 => k_is)
        (case kz105 => k_is)
        (case kz106 => k_is)
        (case kz107 => k_is)
        (case kz108 => k_is)

      have xk : ∀ y ∈ Kz.excs, Kw.ExcK (L2.KOf KX) mg y := (List.forall_mem_cons.mpr ⟨xk_NoForm, (List.forall_mem_cons.mpr ⟨xk_NoKind, (List.forall_mem_cons.mpr ⟨xk_NoLibrary, (List.forall_mem_cons.mpr ⟨xk_NoName, (List.forall_mem_cons.mpr ⟨xk_NoTerm, (by simp)⟩)⟩)⟩)⟩)⟩)
      have c_NoLibrary : Kw.CatF (L2.KOf KX) mg Kz.excs "NoLibrary" (fun y => Kz.isx y "NoLibrary") := by
        unfold L2.KOf
        refine' Kw.cat_mk KX G ?kz120 ?kz121
        (case kz120 => k_is)

        refine' List.forall_mem_cons.mpr ⟨Kw.caty_mk KX G ?kz140 ?kz141 ?kz142 ?kz143 ?kz144 ?kz145, ?kz146⟩
        (case kz140 => k_is)
        (case kz141 => exact (show Kz.isx "NoForm" "NoLibrary" = false by decide +kernel))
        (case kz142 => k_is)
        (case kz143 => k_is)
        (case kz144 => k_is)
        (case kz145 => k_is)
        refine' List.forall_mem_cons.mpr ⟨Kw.caty_mk KX G ?kz160 ?kz161 ?kz162 ?kz163 ?kz164 ?kz165, ?kz166⟩
        (case kz160 => k_is)
        (case kz161 => exact (show Kz.isx "NoKind" "NoLibrary" = false by decide +kernel))
        (case kz162 => k_is)
        (case kz163 => k_is)
        (case kz164 => k_is)
        (case kz165 => k_is)
        refine' List.forall_mem_cons.mpr ⟨Kw.caty_mk KX G ?kz180 ?kz181 ?kz182 ?kz183 ?kz184 ?kz185, ?kz186⟩
        (case kz180 => k_is)
        (case kz181 => exact (show Kz.isx "NoLibrary" "NoLibrary" = true by decide +kernel))
        (case kz182 => k_is)
        (case kz183 => k_is)
        (case kz184 => k_is)
        (case kz185 => k_is)
        refine' List.forall_mem_cons.mpr ⟨Kw.caty_mk KX G ?kz200 ?kz201 ?kz202 ?kz203 ?kz204 ?kz205, ?kz206⟩
        (case kz200 => k_is)
        (case kz201 => exact (show Kz.isx "NoName" "NoLibrary" = false by decide +kernel))
        (case kz202 => k_is)
        (case kz203 => k_is)
        (case kz204 => k_is)
        (case kz205 => k_is)
        refine' List.forall_mem_cons.mpr ⟨Kw.caty_mk KX G ?kz220 ?kz221 ?kz222 ?kz223 ?kz224 ?kz225, ?kz226⟩
        (case kz220 => k_is)
        (case kz221 => exact (show Kz.isx "NoTerm" "NoLibrary" = false by decide +kernel))
        (case kz222 => k_is)
        (case kz223 => k_is)
        (case kz224 => k_is)
        (case kz225 => k_is)
        simp
      have c_NoTerm : Kw.CatF (L2.KOf KX) mg Kz.excs "NoTerm" (fun y => Kz.isx y "NoTerm") := by
        unfold L2.KOf
        refine' Kw.cat_mk KX G ?kz240 ?kz241
        (case kz240 => k_is)

        refine' List.forall_mem_cons.mpr ⟨Kw.caty_mk KX G ?kz260 ?kz261 ?kz262 ?kz263 ?kz264 ?kz265, ?kz266⟩
        (case kz260 => k_is)
        (case kz261 => exact (show Kz.isx "NoForm" "NoTerm" = false by decide +kernel))
        (case kz262 => k_is)
        (case kz263 => k_is)
        (case kz264 => k_is)
        (case kz265 => k_is)
        refine' List.forall_mem_cons.mpr ⟨Kw.caty_mk KX G ?kz280 ?kz281 ?kz282 ?kz283 ?kz284 ?kz285, ?kz286⟩
        (case kz280 => k_is)
        (case kz281 => exact (show Kz.isx "NoKind" "NoTerm" = false by decide +kernel))
        (case kz282 => k_is)
        (case kz283 => k_is)
        (case kz284 => k_is)
        (case kz285 => k_is)
        refine' List.forall_mem_cons.mpr ⟨Kw.caty_mk KX G ?kz300 ?kz301 ?kz302 ?kz303 ?kz304 ?kz305, ?kz306⟩
        (case kz300 => k_is)
        (case kz301 => exact (show Kz.isx "NoLibrary" "NoTerm" = false by decide +kernel))
        (case kz302 => k_is)
        (case kz303 => k_is)
        (case kz304 => k_is)
        (case kz305 => k_is)
        refine' List.forall_mem_cons.mpr ⟨Kw.caty_mk KX G ?kz320 ?kz321 ?kz322 ?kz323 ?kz324 ?kz325, ?kz326⟩
        (case kz320 => k_is)
        (case kz321 => exact (show Kz.isx "NoName" "NoTerm" = false by decide +kernel))
        (case kz322 => k_is)
        (case kz323 => k_is)
        (case kz324 => k_is)
        (case kz325 => k_is)
        refine' List.forall_mem_cons.mpr ⟨Kw.caty_mk KX G ?kz340 ?kz341 ?kz342 ?kz343 ?kz344 ?kz345, ?kz346⟩
        (case kz340 => k_is)
        (case kz341 => exact (show Kz.isx "NoTerm" "NoTerm" = true by decide +kernel))
        (case kz342 => k_is)
        (case kz343 => k_is)
        (case kz344 => k_is)
        (case kz345 => k_is)
        simp
      have c_SwapError : Kw.CatF (L2.KOf KX) mg Kz.excs "SwapError" (fun y => Kz.isx y "SwapError") := by
        unfold L2.KOf
        refine' Kw.cat_mk KX G ?kz360 ?kz361
        (case kz360 => k_is)

        refine' List.forall_mem_cons.mpr ⟨Kw.caty_mk KX G ?kz380 ?kz381 ?kz382 ?kz383 ?kz384 ?kz385, ?kz386⟩
        (case kz380 => k_is)
        (case kz381 => exact (show Kz.isx "NoForm" "SwapError" = true by decide +kernel))
        (case kz382 => k_is)
        (case kz383 => k_is)
        (case kz384 => k_is)
        (case kz385 => k_is)
        refine' List.forall_mem_cons.mpr ⟨Kw.caty_mk KX G ?kz400 ?kz401 ?kz402 ?kz403 ?kz404 ?kz405, ?kz406⟩
        (case kz400 => k_is)
        (case kz401 => exact (show Kz.isx "NoKind" "SwapError" = true by decide +kernel))
        (case kz402 => k_is)
        (case kz403 => k_is)
        (case kz404 => k_is)
        (case kz405 => k_is)
        refine' List.forall_mem_cons.mpr ⟨Kw.caty_mk KX G ?kz420 ?kz421 ?kz422 ?kz423 ?kz424 ?kz425, ?kz426⟩
        (case kz420 => k_is)
        (case kz421 => exact (show Kz.isx "NoLibrary" "SwapError" = true by decide +kernel))
        (case kz422 => k_is)
        (case kz423 => k_is)
        (case kz424 => k_is)
        (case kz425 => k_is)
        refine' List.forall_mem_cons.mpr ⟨Kw.caty_mk KX G ?kz440 ?kz441 ?kz442 ?kz443 ?kz444 ?kz445, ?kz446⟩
        (case kz440 => k_is)
        (case kz441 => exact (show Kz.isx "NoName" "SwapError" = true by decide +kernel))
        (case kz442 => k_is)
        (case kz443 => k_is)
        (case kz444 => k_is)
        (case kz445 => k_is)
        refine' List.forall_mem_cons.mpr ⟨Kw.caty_mk KX G ?kz460 ?kz461 ?kz462 ?kz463 ?kz464 ?kz465, ?kz466⟩
        (case kz460 => k_is)
        (case kz461 => exact (show Kz.isx "NoTerm" "SwapError" = true by decide +kernel))
        (case kz462 => k_is)
        (case kz463 => k_is)
        (case kz464 => k_is)
        (case kz465 => k_is)
        simp
      have T : Kz.Txt (L2.KOf KX) w.params mg := ⟨t_Loose___init__, t_Loose_handed, t_Bound___init__, t_Bound_handed, t_Leaf___init__, t_Leaf_got, t_Result___init__, t_Result_got, t_Body___init__, t_Body_got, t_is_from, t_inner_of, t_is_kind, t_sure_kind, t_order_of, t_in_order, t_wants_with, t_plain_form, t_form, t_alike, t_is_base, t_is_factor, t_is_form, t_kind_by, t_kind_of, t_sure_given, t_is_shape, t_kind_of_given, t_kind_of_two, t_kind_in, t_sure_kind_in, t_term_kind, t_opened, t_meant, t_said, t_chain_said, t_plain_in, t_same, t_put_back, t_factors_from, t_parts, t_built, t_turner, t_lifted, t_is_of, t_goes_round, t_turn_fault, t_is_library, t_sure_library, t_without, t_with_more, t_left_to_hand_in, t_wished_from, t_search, t_search_fault, t__law_well, t__law_draw, t__law_word, t__law_library, t__law_twice, m_all, m_bool, m_enumerate, m_int, m_isinstance, m_len, m_list, m_range, m_set, m_sorted, m_str, m_tuple, m_zip, c_LETTERS, c_MARKS, c_MOST_BASE, c_PARTS, k_Body, k_Bound, k_Leaf, k_Loose, k_Result, g_body, g_chain, g_factor, g_kind, g_order, g_part, g_place, g_taken, g_term, g_things, x_NoForm, x_NoKind, x_NoLibrary, x_NoName, x_NoTerm, xk, c_NoLibrary, c_NoTerm, c_SwapError⟩
      have tsys : (L2.KOf KX).lookup sysModules = none := by
        first | rfl | (unfold L2.KOf; rfl) | (unfold L2.KOf; decide +kernel)
      have tq_order_of : Kw.tabOk (L2.KOf KX) "order_of" = true := by
        unfold L2.KOf
        first | kernel_rfl | rfl | decide +kernel
      obtain ⟨c_order_of, P_order_of, ti_order_of, tn_order_of⟩ := Kw.tabOk_at tq_order_of
      have tt_order_of := PySem.W.tab_of (x := "order_of") TT KX rfl ti_order_of
      have tq_law : Kw.tabOk (L2.KOf KX) "law" = true := by
        unfold L2.KOf
        first | kernel_rfl | rfl | decide +kernel
      obtain ⟨c_law, P_law, ti_law, tn_law⟩ := Kw.tabOk_at tq_law
      have tt_law := PySem.W.tab_of (x := "law") TT KX rfl ti_law
      have tdis : Kw.tabsDis (L2.KOf KX) ["order_of", "law"] = true := by
        unfold L2.KOf
        first | kernel_rfl | rfl | decide +kernel
      refine' Kw.law_mkL (st := Kz.s_law) (cs := [(c_order_of, P_order_of, "order_of"), (c_law, P_law, "law")]) (k := 230) KX G hmg ?t ⟨_, _, ti_law, (List.mem_cons_of_mem _ List.mem_cons_self)⟩ ?a ?l ?c ?k (fun _ _ _ _ _ _ us hl => match us, hl with | [_], _ => rfl) Kz.sc_law (fun base Kb Gb Tb => Kz.ok_law T (Kz.all_ok T Kb Gb (Kw.tbK_of Tb ti_order_of List.mem_cons_self) 230) (Kz.all_ok T Kb Gb (Kw.tbK_of Tb ti_order_of List.mem_cons_self) 228)) (fun ns h hb => Kz.law_true ns h)
      (case t => exact ⟨tsys, (List.forall_mem_cons.mpr ⟨tt_order_of.2, (List.forall_mem_cons.mpr ⟨tt_law.2, (fun _ z => (nomatch z))⟩)⟩), (List.forall_mem_cons.mpr ⟨tn_order_of, (List.forall_mem_cons.mpr ⟨tn_law, (fun _ z => (nomatch z))⟩)⟩), (List.forall_mem_cons.mpr ⟨tt_order_of.1, (List.forall_mem_cons.mpr ⟨tt_law.1, (fun _ z => (nomatch z))⟩)⟩), (Kw.tabsDis_at tdis (by simp [Kw.tbP, ti_order_of, ti_law])), (List.forall_mem_cons.mpr ⟨ti_order_of, (List.forall_mem_cons.mpr ⟨ti_law, (fun _ z => (nomatch z))⟩)⟩)⟩)
      (case a => k_is); (case l => k_is); (case c => k_is); (case k => k_is)
