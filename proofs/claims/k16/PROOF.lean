import PyProof.Rows.All
import Wide.All
import OpenK.AllK
import Wide.FinOn
import HandS.ForMost
import HandS.ForExc
import HandS.Flow
import HandS.IsInst
import HandS.Wide
import HandS.Lambda
import HandS.Style
import HandS.TupAny
import HandS.Deep
import HandS.Zip
import HandS.StrMore
import HandS.ExcOwn
import HandS.More
import HandS.EndBits
import HandS.ExcIs
import HandS.TryMany
import PyProof.ReprRoads
import HandS.Conv
import KE.SortData
import HandS.SortKw
import HandS.ExcValue
import KE.SortKeyHeap
import HandS.NoneIn
import KE.DataCmp
import HandS.Strs
import PyProof.SetRoads
import PyProof.Rows.SetFrom
import KE.DataFind
import HandS.Dict
import KE.KTryMore
import HandS.ExcInit
import HandS.ExcField
import HandS.ClsMeth
import HandS.Exc
import PySem.Challenge.RW_kindswap_k16_refusals_apart
set_option Elab.async false
set_option linter.all false
set_option maxRecDepth 100000
set_option maxHeartbeats 4000000
/-! Kw1: values as trees, a store of cells, and how they lie in the heap. -/
namespace Kw
open PySem PySem.Spec PyProof.Rows L2

/-- a value as a tree; a list that is changed is a cell of the store -/
inductive D where
  | non | bl (b : Bool) | int (i : Int) | str (x : Str)
  | tup (ds : List D) | lst (ds : List D) | dic (ks : List Key) (ds : List D)
  | ins (c : Str) (fs : List Str) (ds : List D)
  | loc (n : Nat) | glo (x : Str) | fls (ds : List D) | exn (a : Addr)
  | exo (c : Str) (ns : List Str) (ds : List D)
inductive Cell where
  | lst (ds : List D) | frz (ds : List D) | dead
  | tab (x : Str) | sys
  | gst (ρ : List (Option D)) (σ : L2.St)
  | ob (c : Str) (fs : List Str) (ds : List D)
abbrev Store := List Cell
/-- what is raised: the class's name, its own fields -/
structure Ex where
  cls : Str
  ns : List Str := []
  ds : List D := []
inductive RE (α : Type) where
  | ok (a : α) (S : Store) | ex (x : Ex) (S : Store) | no
def RE.bnd {α β : Type} (m : RE α) (f : α → Store → RE β) : RE β := match m with
  | .ok a S => f a S
  | .ex x S => .ex x S
  | .no => .no
abbrev FEnv := List (Option D)
abbrev FE := FEnv → Store → RE D
abbrev FT := FEnv → Store → RE Bool
abbrev FA := FEnv → Store → RE (List D)
/-- the addresses of the store's cells (none: dead); hd: objects that no value leads to -/
structure Wd where
  φ : List (Option Addr)
  hd : List Addr
/-- a is no cell, and not hidden -/
def Wd.Off (w : Wd) (a : Addr) : Prop := (¬ some a ∈ w.φ) ∧ ¬ a ∈ w.hd

section
variable (K : PySem.W.Frag) (mg : Str → Option Value)
/-- a list that is not changed any more, by the model's own word -/
def Fp (w : Wd) (H : Hp) (a : Addr) (xs : List V) : Prop :=
  (∃ o, H a = some (.frz o (.lst xs)) ∧ w.Off a) ∨
    ∃ (o : Obj) (its : Array Value) (n : Nat), K.lookup a = some o ∧ o.cls = .type "list" ∧ o.dict = none ∧ o.data = .seq its n ∧ its.size ≤ sizeLine ∧ Vals xs its.toList
/-- a tuple that stands -/
def Tp (w : Wd) (H : Hp) (a : Addr) (xs : List V) : Prop :=
  (H a = some (.tup xs) ∧ w.Off a) ∨
    ∃ (o : Obj) (its : Array Value) (n : Nat), K.lookup a = some o ∧ o.cls = .type "tuple" ∧ o.data = .seq its n ∧ its.size ≤ sizeLine ∧ Vals xs its.toList
/-- an exception object that nobody raised: its class, its dict -/
def ExOd (cls : Value) (od : Option Addr) (a : Addr) : HO := .ext fun h => ∃ (oe : Obj) (vs : Array Value), h.get? a = some oe ∧ Zc cls od oe ∧ oe.data = .fields vs ∧ vs[1]? = some .none ∧ vs[2]? = some .none ∧ 4 < vs.size
mutual
/-- the tree d lies at v -/
def Rp (w : Wd) (H : Hp) : D → V → Prop
  | .non, v => v = .non
  | .bl b, v => v = .bl b
  | .int i, v => v = .int i
  | .str x, v => v = .str x
  | .tup ds, v => ∃ a xs, v = .ref a ∧ Tp K w H a xs ∧ RpL w H ds xs
  | .lst ds, v => ∃ a xs, v = .ref a ∧ H a = some (.lst xs) ∧ w.Off a ∧ RpL w H ds xs
  | .dic ks ds, v => ∃ a vs, v = .ref a ∧ H a = some (.dK (ks.zip vs)) ∧ w.Off a ∧ ks.length = vs.length ∧ RpL w H ds vs
  | .ins c fs ds, v => ∃ a C dx vs, v = .ref a ∧ mg c = some (.ref C) ∧ H a = some (.ins C dx (fs.zip vs)) ∧ w.Off a ∧ fs.length = vs.length ∧ RpL w H ds vs
  | .loc n, v => n < w.φ.length ∧ ∀ a, w.φ[n]? = some (some a) → v = .ref a
  | .glo x, v => ∃ a, v = .ref a ∧ mg x = some (.ref a)
  | .exn a, v => v = .ref a
  | .fls ds, v => ∃ a xs, v = .ref a ∧ Fp K w H a xs ∧ RpL w H ds xs
  | .exo c ns ds, v => ∃ a C od vs, v = .ref a ∧ mg c = some (.ref C) ∧ H a = some (ExOd (.ref C) od a) ∧ w.Off a ∧ (od = none ↔ ns = []) ∧ (∀ d, od = some d → H d = some (.xd (ns.zip vs)) ∧ w.Off d) ∧ ns.length = vs.length ∧ RpL w H ds vs
def RpL (w : Wd) (H : Hp) : List D → List V → Prop
  | [], vs => vs = []
  | d :: ds, vs => ∃ v r, vs = v :: r ∧ Rp w H d v ∧ RpL w H ds r
end
/-- the world goes on -/
structure Ext (w : Wd) (H : Hp) (w' : Wd) (H' : Hp) : Prop where
  fr : ∀ a o, H a = some o → some a ∉ w.φ → H' a = some o
  ln : w.φ.length ≤ w'.φ.length
  ph : ∀ (n : Nat) a, w'.φ[n]? = some (some a) → n < w.φ.length → w.φ[n]? = some (some a)
  nw : ∀ a, some a ∈ w'.φ → some a ∈ w.φ ∨ H a = none
  hd : w'.hd = w.hd
/-- what is known of the modules' table: a dict -/
def SysQ (φ : Heap → Prop) : Prop := ∀ h, φ h → ∃ o es n, h.get? sysModules = some o ∧ o.data = .dict es n
/-- a table of code objects lies at P, all of the name q -/
def TabW (w : Wd) (H : Hp) (P : Addr) (q : Str) : Prop := ∃ ps : Array Value, H P = some (.tbl ps) ∧ TriplesOk ps.toList ∧ ∀ (pos : Pos) (cv : Value), codeAmong pos ps.toList = some cv → ∃ c, cv = .ref c ∧ H c = some (LamX.CodeO c q) ∧ w.Off c
/-- the name that the lambdas of the def x bear -/
def tabQ (x : Str) : Str := x ++ ".<locals>." ++ "<lambda>"
/-- the slots -/
structure EnvR (w : Wd) (H : Hp) (ρ : FEnv) (σ : L2.St) : Prop where
  len : ρ.length = σ.length
  at_ : ∀ (i : Nat) d, ρ[i]? = some (some d) → ∃ v, σ[i]? = some (some v) ∧ Rp K mg w H d v
def CellR (w : Wd) (H : Hp) (c : Cell) (n : Nat) : Prop := match c with
  | .lst ds => ∃ a xs, w.φ[n]? = some (some a) ∧ H a = some (.lst xs) ∧ RpL K mg w H ds xs
  | .frz ds => ∃ a xs o, w.φ[n]? = some (some a) ∧ H a = some (.frz o (.lst xs)) ∧ RpL K mg w H ds xs
  | .dead => w.φ[n]? = some none
  | .tab x => ∃ c P, PySem.W.tabIn K x = some (c, P) ∧ w.φ[n]? = some (some P) ∧ TabW w H P (tabQ x)
  | .sys => w.φ[n]? = some none ∧ sysModules ∈ w.hd ∧ some sysModules ∉ w.φ ∧ (∃ φ, H sysModules = some (.ext φ) ∧ SysQ φ) ∧ K.lookup sysModules = none
  | .gst ρ σ => w.φ[n]? = some none ∧ EnvR K mg w H ρ σ
  | .ob c fs ds => ∃ a C dx vs, w.φ[n]? = some (some a) ∧ mg c = some (.ref C) ∧ H a = some (.ins C dx (fs.zip vs)) ∧ fs.length = vs.length ∧ RpL K mg w H ds vs
/-- the store lies in the heap -/
structure Sto (w : Wd) (S : Store) (H : Hp) : Prop where
  len : w.φ.length = S.length
  nd : ∀ (m n : Nat) a, w.φ[m]? = some (some a) → w.φ[n]? = some (some a) → m = n
  ap : ∀ a, a ∈ w.hd → H a ≠ none ∧ some a ∉ w.φ
  cell : ∀ (n : Nat) c, S[n]? = some c → CellR K mg w H c n
/-- the exception -/
def ExR (w : Wd) (H : Hp) (x : Ex) (c : Value) (od : Option Addr) : Prop :=
  mg x.cls = some c ∧ ((x.ns = [] ∧ x.ds = [] ∧ od = none) ∨ ∃ d vs, x.ns ≠ [] ∧ od = some d ∧ H d = some (.xd (x.ns.zip vs)) ∧ w.Off d ∧ x.ns.length = vs.length ∧ RpL K mg w H x.ds vs)
/-- what a result gives -/
def End {α β : Type} (R : Wd → Hp → α → β → Prop) (w : Wd) (H : Hp) (r : RE α) (Q : β → Hp → Prop) (E : Value → Option Addr → Hp → Prop) : Prop :=
  match r with
  | .ok a S' => ∀ w' H' b, Ext w H w' H' → Sto K mg w' S' H' → R w' H' a b → Q b H'
  | .ex x S' => ∀ w' H' c od, Ext w H w' H' → Sto K mg w' S' H' → ExR K mg w' H' x c od → E c od H'
  | .no => False
end
/-- readings by functions over trees -/
def tF (X : Cx) (W : WX) (f : FE) : TE := fun σ H Q => ∃ w ρ S, Sto X.K X.mg w S H ∧ EnvR X.K X.mg w H ρ σ ∧ End X.K X.mg (fun w H => Rp X.K X.mg w H) w H (f ρ S) Q (fun c od H' => W c od σ H')
def tT (X : Cx) (W : WX) (f : FT) : TT := fun σ H Q => ∃ w ρ S, Sto X.K X.mg w S H ∧ EnvR X.K X.mg w H ρ σ ∧ End X.K X.mg (fun _ _ (a b : Bool) => b = a) w H (f ρ S) Q (fun c od H' => W c od σ H')
def tA (X : Cx) (W : WX) (f : FA) : TA := fun σ H Q => ∃ w ρ S, Sto X.K X.mg w S H ∧ EnvR X.K X.mg w H ρ σ ∧ End X.K X.mg (fun w H => RpL X.K X.mg w H) w H (f ρ S) Q (fun c od H' => W c od σ H')

section
variable {K : PySem.W.Frag} {mg : Str → Option Value} {w w' w'' : Wd} {H H' H'' : Hp} {S : Store}
theorem Ext.refl : Ext w H w H := ⟨fun _ _ h _ => h, Nat.le_refl _, fun _ _ h _ => h, fun _ h => .inl h, rfl⟩
theorem Ext.trans (a : Ext w H w' H') (b : Ext w' H' w'' H'') : Ext w H w'' H'' where
  fr := fun c o h n => b.fr c o (a.fr c o h n) fun z => by
    rcases a.nw c z with z | z
    · exact n z
    · rw [h] at z; cases z
  ln := Nat.le_trans a.ln b.ln
  ph := fun n c h l => a.ph n c (b.ph n c h (Nat.lt_of_lt_of_le l a.ln)) l
  nw := fun c h => by
    rcases b.nw c h with z | z
    · exact a.nw c z
    · by_cases q : some c ∈ w.φ
      · exact .inl q
      · cases e : H c with
        | none => exact .inr rfl
        | some o => rw [a.fr c o e q] at z; cases z
  hd := b.hd.trans a.hd
theorem Ext.out {a : Addr} {o : HO} (e : Ext w H w' H') (h : H a = some o) (n : w.Off a) : w'.Off a := by
  refine ⟨fun z => ?_, by rw [e.hd]; exact n.2⟩
  rcases e.nw _ z with z | z
  · exact n.1 z
  · rw [h] at z; cases z
theorem Tp.ext {a : Addr} {xs : List V} (e : Ext w H w' H') (h : Tp K w H a xs) : Tp K w' H' a xs := by
  rcases h with ⟨h, n⟩ | h
  · exact .inl ⟨e.fr _ _ h n.1, e.out h n⟩
  · exact .inr h
theorem Fp.ext {a : Addr} {xs : List V} (e : Ext w H w' H') (h : Fp K w H a xs) : Fp K w' H' a xs := by
  rcases h with ⟨o, h, n⟩ | h
  · exact .inl ⟨o, e.fr _ _ h n.1, e.out h n⟩
  · exact .inr h
mutual
theorem Rp.ext (e : Ext w H w' H') : ∀ (d : D) (v : V), Rp K mg w H d v → Rp K mg w' H' d v
  | .non, _, h => by unfold Rp at h ⊢; exact h
  | .bl _, _, h => by unfold Rp at h ⊢; exact h
  | .int _, _, h => by unfold Rp at h ⊢; exact h
  | .str _, _, h => by unfold Rp at h ⊢; exact h
  | .tup ds, v, h => by
    unfold Rp at h ⊢
    obtain ⟨a, xs, e1, t, r⟩ := h
    exact ⟨a, xs, e1, t.ext e, RpL.ext e ds xs r⟩
  | .lst ds, v, h => by
    unfold Rp at h ⊢
    obtain ⟨a, xs, e1, t, n, r⟩ := h
    exact ⟨a, xs, e1, e.fr _ _ t n.1, e.out t n, RpL.ext e ds xs r⟩
  | .dic ks ds, v, h => by
    unfold Rp at h ⊢
    obtain ⟨a, vs, e1, t, n, l, r⟩ := h
    exact ⟨a, vs, e1, e.fr _ _ t n.1, e.out t n, l, RpL.ext e ds vs r⟩
  | .ins c fs ds, v, h => by
    unfold Rp at h ⊢
    obtain ⟨a, C, dx, vs, e1, m, t, n, l, r⟩ := h
    exact ⟨a, C, dx, vs, e1, m, e.fr _ _ t n.1, e.out t n, l, RpL.ext e ds vs r⟩
  | .loc n, v, h => by
    unfold Rp at h ⊢
    exact ⟨Nat.lt_of_lt_of_le h.1 e.ln, fun a q => h.2 a (e.ph n a q h.1)⟩
  | .glo _, _, h => by unfold Rp at h ⊢; exact h
  | .exn _, _, h => by unfold Rp at h ⊢; exact h
  | .fls ds, v, h => by
    unfold Rp at h ⊢
    obtain ⟨a, xs, e1, t, r⟩ := h
    exact ⟨a, xs, e1, t.ext e, RpL.ext e ds xs r⟩
  | .exo c ns ds, v, h => by
    unfold Rp at h ⊢
    obtain ⟨a, C, od, vs, e1, m, t, n, z, q, l, r⟩ := h
    exact ⟨a, C, od, vs, e1, m, e.fr _ _ t n.1, e.out t n, z, fun d hd => ⟨e.fr _ _ (q d hd).1 (q d hd).2.1, e.out (q d hd).1 (q d hd).2⟩, l, RpL.ext e ds vs r⟩
theorem RpL.ext (e : Ext w H w' H') : ∀ (ds : List D) (vs : List V), RpL K mg w H ds vs → RpL K mg w' H' ds vs
  | [], _, h => by unfold RpL at h ⊢; exact h
  | d :: ds, vs, h => by
    unfold RpL at h ⊢
    obtain ⟨v, r, e1, h1, h2⟩ := h
    exact ⟨v, r, e1, Rp.ext e d v h1, RpL.ext e ds r h2⟩
end
theorem RpL.length : ∀ {ds : List D} {vs : List V}, RpL K mg w H ds vs → ds.length = vs.length
  | [], _, h => by unfold RpL at h; subst h; rfl
  | d :: ds, vs, h => by
    unfold RpL at h
    obtain ⟨v, r, e1, _, h2⟩ := h
    rw [e1, List.length_cons, List.length_cons, RpL.length h2]
theorem RpL.append : ∀ {ds es : List D} {vs us : List V}, RpL K mg w H ds vs → RpL K mg w H es us → RpL K mg w H (ds ++ es) (vs ++ us)
  | [], _, _, _, h, k => by unfold RpL at h; rw [h]; exact k
  | d :: ds, es, vs, us, h, k => by
    unfold RpL at h
    obtain ⟨v, r, e1, h1, h2⟩ := h
    rw [List.cons_append]; unfold RpL
    exact ⟨v, r ++ us, by rw [e1, List.cons_append], h1, RpL.append h2 k⟩
theorem RpL.get : ∀ {ds : List D} {vs : List V} {i : Nat} {d : D}, RpL K mg w H ds vs → ds[i]? = some d → ∃ v, vs[i]? = some v ∧ Rp K mg w H d v
  | [], _, _, _, _, e => by simp at e
  | d :: ds, vs, 0, _, h, e => by
    unfold RpL at h
    obtain ⟨v, r, e1, h1, _⟩ := h
    simp at e
    exact ⟨v, by rw [e1]; rfl, e ▸ h1⟩
  | d :: ds, vs, i + 1, _, h, e => by
    unfold RpL at h
    obtain ⟨v, r, e1, _, h2⟩ := h
    obtain ⟨u, h3, h4⟩ := RpL.get (i := i) h2 (by simpa using e)
    exact ⟨u, by rw [e1]; simpa using h3, h4⟩
theorem RpL.drop : ∀ {ds : List D} {vs : List V} (n : Nat), RpL K mg w H ds vs → RpL K mg w H (ds.drop n) (vs.drop n)
  | _, _, 0, h => h
  | [], vs, n + 1, h => by unfold RpL at h; rw [h]; simp; unfold RpL; rfl
  | d :: ds, vs, n + 1, h => by
    unfold RpL at h
    obtain ⟨v, r, e1, _, h2⟩ := h
    rw [e1]; exact RpL.drop n h2
theorem RpL.take : ∀ {ds : List D} {vs : List V} (n : Nat), RpL K mg w H ds vs → RpL K mg w H (ds.take n) (vs.take n)
  | _, _, 0, h => by simp; unfold RpL; rfl
  | [], vs, n + 1, h => by unfold RpL at h; rw [h]; simp; unfold RpL; rfl
  | d :: ds, vs, n + 1, h => by
    unfold RpL at h
    obtain ⟨v, r, e1, h1, h2⟩ := h
    rw [e1, List.take_succ_cons, List.take_succ_cons]; unfold RpL
    exact ⟨v, _, rfl, h1, RpL.take n h2⟩
theorem RpL.set : ∀ {ds : List D} {vs : List V} {d : D} {v : V} (i : Nat), RpL K mg w H ds vs → Rp K mg w H d v → RpL K mg w H (ds.set i d) (vs.set i v)
  | [], vs, _, _, _, h, _ => by unfold RpL at h; rw [h]; simp; unfold RpL; rfl
  | d :: ds, vs, e, u, 0, h, k => by
    unfold RpL at h
    obtain ⟨v, r, e1, h1, h2⟩ := h
    rw [e1, List.set_cons_zero, List.set_cons_zero]; unfold RpL
    exact ⟨u, r, rfl, k, h2⟩
  | d :: ds, vs, e, u, i + 1, h, k => by
    unfold RpL at h
    obtain ⟨v, r, e1, h1, h2⟩ := h
    rw [e1, List.set_cons_succ, List.set_cons_succ]; unfold RpL
    exact ⟨v, _, rfl, h1, RpL.set i h2 k⟩
theorem RpL.one {d : D} {v : V} (h : Rp K mg w H d v) : RpL K mg w H [d] [v] := by unfold RpL; exact ⟨v, [], rfl, h, by unfold RpL; rfl⟩
theorem RpL.nil : RpL K mg w H [] [] := by unfold RpL; rfl
theorem RpL.cons {d : D} {v : V} {ds : List D} {vs : List V} (h : Rp K mg w H d v) (t : RpL K mg w H ds vs) : RpL K mg w H (d :: ds) (v :: vs) := by unfold RpL; exact ⟨v, vs, rfl, h, t⟩
theorem RpL.nil_iff {ds : List D} {vs : List V} (h : RpL K mg w H ds vs) : ds = [] ↔ vs = [] := by
  have e := h.length
  constructor
  · rintro rfl; exact List.eq_nil_of_length_eq_zero e.symm
  · rintro rfl; exact List.eq_nil_of_length_eq_zero e
theorem RpL.one_inv {d : D} {vs : List V} (h : RpL K mg w H [d] vs) : ∃ v, vs = [v] ∧ Rp K mg w H d v := by
  unfold RpL at h
  obtain ⟨v, r, e1, h1, h2⟩ := h
  unfold RpL at h2
  exact ⟨v, by rw [e1, h2], h1⟩
theorem EnvR.ext {ρ : FEnv} {σ : L2.St} (e : Ext w H w' H') (h : EnvR K mg w H ρ σ) : EnvR K mg w' H' ρ σ := ⟨h.len, fun i d q => by
  obtain ⟨v, h1, h2⟩ := h.at_ i d q
  exact ⟨v, h1, Rp.ext e _ _ h2⟩⟩
theorem Sto.tracked (s : Sto K mg w S H) {a : Addr} (h : some a ∈ w.φ) : H a ≠ none := by
  obtain ⟨n, hn, e⟩ := List.mem_iff_getElem.mp h
  have h1 : w.φ[n]? = some (some a) := by rw [List.getElem?_eq_getElem hn, e]
  have hs : n < S.length := s.len ▸ hn
  have c := s.cell n S[n] (List.getElem?_eq_getElem hs)
  unfold CellR at c
  split at c
  · obtain ⟨b, xs, h2, h3, _⟩ := c
    rw [h1] at h2; cases h2; rw [h3]; exact fun z => nomatch z
  · obtain ⟨b, xs, o, h2, h3, _⟩ := c
    rw [h1] at h2; cases h2; rw [h3]; exact fun z => nomatch z
  · rw [h1] at c; cases c
  · obtain ⟨_, _, _, h2, ps, h3, _⟩ := c
    rw [h1] at h2; cases h2; rw [h3]; exact fun z => nomatch z
  · rw [h1] at c; cases c.1
  · rw [h1] at c; cases c.1
  · obtain ⟨b, C, dx, vs, h2, _, h3, _⟩ := c
    rw [h1] at h2; cases h2; rw [h3]; exact fun z => nomatch z
theorem Sto.new (s : Sto K mg w S H) {p : Addr} (h : H p = none) : w.Off p := ⟨fun z => s.tracked z h, fun z => (s.ap p z).1 h⟩
theorem Ext.new {p : Addr} {o : HO} (h : H p = none) : Ext w H w (upd H p o) := ⟨fun a u e _ => by rw [upd_ne (ne_of_none e h)]; exact e, Nat.le_refl _, fun _ _ h _ => h, fun _ h => .inl h, rfl⟩
theorem CellR.ext {c : Cell} {n : Nat} (e : Ext w H w' H') (hw : ∀ a, w.φ[n]? = some (some a) → w'.φ[n]? = some (some a) ∧ H' a = H a) (hd : w.φ[n]? = some none → w'.φ[n]? = some none) (h : CellR K mg w H c n) : CellR K mg w' H' c n := by
  unfold CellR at h ⊢
  split at h
  · obtain ⟨b, xs, h2, h3, h4⟩ := h
    exact ⟨b, xs, (hw b h2).1, by rw [(hw b h2).2]; exact h3, RpL.ext e _ _ h4⟩
  · obtain ⟨b, xs, o, h2, h3, h4⟩ := h
    exact ⟨b, xs, o, (hw b h2).1, by rw [(hw b h2).2]; exact h3, RpL.ext e _ _ h4⟩
  · exact hd h
  · obtain ⟨c0, P, ht, h2, ps, h3, h4, h5⟩ := h
    refine ⟨c0, P, ht, (hw _ h2).1, ps, by rw [(hw _ h2).2]; exact h3, h4, fun pos cv hc => ?_⟩
    obtain ⟨c, e1, e2, e3⟩ := h5 pos cv hc
    exact ⟨c, e1, e.fr _ _ e2 e3.1, e.out e2 e3⟩
  · obtain ⟨h1, h2, h3, ⟨φ, h4, h6⟩, h5⟩ := h
    refine ⟨hd h1, by rw [e.hd]; exact h2, fun z => ?_, ⟨φ, e.fr _ _ h4 h3, h6⟩, h5⟩
    rcases e.nw _ z with z | z
    · exact h3 z
    · rw [h4] at z; cases z
  · exact ⟨hd h.1, EnvR.ext e h.2⟩
  · obtain ⟨b, C, dx, vs, h2, h3, h4, h5, h6⟩ := h
    exact ⟨b, C, dx, vs, (hw b h2).1, h3, by rw [(hw b h2).2]; exact h4, h5, RpL.ext e _ _ h6⟩
theorem upd_some {p a : Addr} {o : HO} (h : H a ≠ none) : upd H p o a ≠ none := by
  by_cases e : a = p
  · subst e; rw [upd_same]; exact fun z => nomatch z
  · rw [upd_ne e]; exact h
/-- a new object beside -/
theorem Sto.beside {p : Addr} {o : HO} (s : Sto K mg w S H) (h : H p = none) : Sto K mg w S (upd H p o) := ⟨s.len, s.nd, fun a ha => ⟨upd_some (s.ap a ha).1, (s.ap a ha).2⟩, fun n c q => CellR.ext (Ext.new h) (fun a ha => ⟨ha, by
  have : a ≠ p := fun z => by subst z; exact (s.new h).1 (List.mem_of_getElem? ha)
  rw [upd_ne this]⟩) id (s.cell n c q)⟩
end

section
variable {K : PySem.W.Frag} {mg : Str → Option Value} {α β γ δ : Type} {R : Wd → Hp → α → β → Prop} {R' : Wd → Hp → γ → δ → Prop} {w w1 : Wd} {H H1 : Hp} {r : RE α} {E : Value → Option Addr → Hp → Prop}
theorem ExR.id {x : Ex} {c : Value} {od : Option Addr} (h : ExR K mg w H x c od) : ExR K mg w H x c od := h
theorem End.imp {Q Q' : β → Hp → Prop} {E' : Value → Option Addr → Hp → Prop} (h : End K mg R w H r Q E) (hq : ∀ b H', Q b H' → Q' b H') (he : ∀ c od H', E c od H' → E' c od H') : End K mg R w H r Q' E' := by
  unfold End at h ⊢
  split
  · exact fun w' H' b e s k => hq _ _ (h w' H' b e s k)
  · exact fun w' H' b od e s k => he _ _ _ (h w' H' b od e s k)
  · exact h
theorem End.on {Q : β → Hp → Prop} (x : Ext w H w1 H1) (h : End K mg R w H r Q E) : End K mg R w1 H1 r Q E := by
  unfold End at h ⊢
  split
  · exact fun w' H' b e s k => h w' H' b (x.trans e) s k
  · exact fun w' H' b od e s k => h w' H' b od (x.trans e) s k
  · exact h
/-- one after the other -/
theorem End.bind {k : α → Store → RE γ} {Q : δ → Hp → Prop} (h : End K mg R' w H (r.bnd k) Q E) :
    End K mg R w H r (fun b H1 => ∃ w1 S1 a, Ext w H w1 H1 ∧ Sto K mg w1 S1 H1 ∧ R w1 H1 a b ∧ End K mg R' w1 H1 (k a S1) Q E) E := by
  cases r with
  | ok a S1 =>
    have h' : End K mg R' w H (k a S1) Q E := h
    exact fun w' H' b e s kk => ⟨w', S1, a, e, s, kk, h'.on e⟩
  | ex x S1 => exact h
  | no => exact h
theorem End.ret {Q : β → Hp → Prop} {a : α} {b : β} {S : Store} (h : End K mg R w H (.ok a S) Q E) (s : Sto K mg w S H) (k : R w H a b) : Q b H := h w H b Ext.refl s k
end

section
variable {X : Cx} {W : WX}
theorem PE.wk {e : Expr} {t t' : TE} (h : PE X e t) (m : ∀ σ H Q, t' σ H Q → t σ H Q) : PE X e t' := ⟨fun pins s σ H Q I k => h.run pins s σ H Q I (m σ H Q k)⟩
theorem PT.wk {e : Expr} {t t' : TT} (h : PT X e t) (m : ∀ σ H Q, t' σ H Q → t σ H Q) : PT X e t' := ⟨fun pins s σ H Q I k => h.run pins s σ H Q I (m σ H Q k)⟩
theorem PW.wk {e : Expr} {t t' : TT} (h : PW X e t) (m : ∀ σ H Q, t' σ H Q → t σ H Q) : PW X e t' := ⟨fun wh pins s σ H Q I k => h.run wh pins s σ H Q I (m σ H Q k)⟩
theorem PA.wk {e : List Expr} {t t' : TA} (h : PA X e t) (m : ∀ σ H Q, t' σ H Q → t σ H Q) : PA X e t' := ⟨fun pos pins s σ H Q I k => h.run pos pins s σ H Q I (m σ H Q k)⟩
theorem PS.wk {e : Stmt} {t t' : TS} (h : PS X e t) (m : ∀ D σ H, t' D σ H → t D σ H) : PS X e t' := ⟨fun pins s σ H D I k => h.run pins s σ H D I (m D σ H k)⟩
theorem PSs.wk {e : List Stmt} {t t' : TS} (h : PSs X e t) (m : ∀ D σ H, t' D σ H → t D σ H) : PSs X e t' := ⟨fun pins s σ H D I k => h.run pins s σ H D I (m D σ H k)⟩
end
end Kw

/-! Kw2: expressions read as functions over trees. -/
namespace Kw
open PySem PySem.Spec PyProof.Rows L2

/-! ### looking into the store -/
def cellOf (S : Store) (n : Nat) : Option (List D) := match S[n]? with
  | some (.lst ds) => some ds
  | some (.frz ds) => some ds
  | _ => none
def cellM (S : Store) (n : Nat) : Option (List D) := match S[n]? with
  | some (.lst ds) => some ds
  | _ => none
/-- a list that is read -/
def seqL (S : Store) : D → Option (List D)
  | .lst ds => some ds
  | .fls ds => some ds
  | .loc n => cellOf S n
  | _ => none
/-- a list that is no locked one -/
def seqM (S : Store) : D → Option (List D)
  | .lst ds => some ds
  | .loc n => cellM S n
  | _ => none
/-- a list or a tuple -/
def seqA (S : Store) : D → Option (List D)
  | .lst ds => some ds
  | .fls ds => some ds
  | .loc n => cellOf S n
  | .tup ds => some ds
  | _ => none
mutual
def py0 : D → Option PyData
  | .non => some .none
  | .bl b => some (.bool b)
  | .int i => some (.int i)
  | .str x => some (.str x)
  | .tup ds => (py0L ds).map .tuple
  | .lst ds => (py0L ds).map .list
  | .fls ds => (py0L ds).map .list
  | _ => none
def py0L : List D → Option (List PyData)
  | [] => some []
  | d :: ds => (py0 d).bind fun a => (py0L ds).map (a :: ·)
end
mutual
/-- a value as plain data -/
def pyS (S : Store) : D → Option PyData
  | .non => some .none
  | .bl b => some (.bool b)
  | .int i => some (.int i)
  | .str x => some (.str x)
  | .tup ds => (pySL S ds).map .tuple
  | .lst ds => (pySL S ds).map .list
  | .fls ds => (pySL S ds).map .list
  | .loc n => ((cellOf S n).bind py0L).map .list
  | _ => none
def pySL (S : Store) : List D → Option (List PyData)
  | [] => some []
  | d :: ds => (pyS S d).bind fun a => (pySL S ds).map (a :: ·)
end
section
variable {K : PySem.W.Frag} {mg : Str → Option Value} {w : Wd} {H : Hp} {S : Store}
theorem cellOf_at (s : Sto K mg w S H) {n : Nat} {ds : List D} (h : cellOf S n = some ds) : ∃ a xs, w.φ[n]? = some (some a) ∧ Rd H a (.lst xs) ∧ RpL K mg w H ds xs := by
  unfold cellOf at h
  split at h
  · rename_i e he
    cases h
    obtain ⟨a, xs, h1, h2, h3⟩ := s.cell n _ he
    exact ⟨a, xs, h1, .inl h2, h3⟩
  · rename_i e he
    cases h
    obtain ⟨a, xs, o, h1, h2, h3⟩ := s.cell n _ he
    exact ⟨a, xs, h1, .inr ⟨o, h2⟩, h3⟩
  · cases h
theorem cellM_at (s : Sto K mg w S H) {n : Nat} {ds : List D} (h : cellM S n = some ds) : ∃ a xs, w.φ[n]? = some (some a) ∧ H a = some (.lst xs) ∧ RpL K mg w H ds xs := by
  unfold cellM at h
  split at h
  · rename_i e he
    cases h
    obtain ⟨a, xs, h1, h2, h3⟩ := s.cell n _ he
    exact ⟨a, xs, h1, h2, h3⟩
  · cases h
theorem Fp.sq {a : Addr} {xs : List V} (h : Fp K w H a xs) : SqL K H a xs := by
  rcases h with ⟨o, h, _⟩ | h
  · exact .inl (.inr ⟨o, h⟩)
  · exact .inr h
theorem seqL_at (s : Sto K mg w S H) {d : D} {v : V} {ds : List D} (r : Rp K mg w H d v) (h : seqL S d = some ds) : ∃ a xs, v = .ref a ∧ SqL K H a xs ∧ RpL K mg w H ds xs := by
  cases d <;> simp only [seqL] at h <;> try (cases h; done)
  · cases h
    unfold Rp at r
    obtain ⟨a, xs, e, t, _, q⟩ := r
    exact ⟨a, xs, e, .of t, q⟩
  · obtain ⟨a, xs, h1, h2, h3⟩ := cellOf_at s h
    unfold Rp at r
    exact ⟨a, xs, r.2 a h1, .inl h2, h3⟩
  · cases h
    unfold Rp at r
    obtain ⟨a, xs, e, t, q⟩ := r
    exact ⟨a, xs, e, t.sq, q⟩
theorem seqM_at (s : Sto K mg w S H) {d : D} {v : V} {ds : List D} (r : Rp K mg w H d v) (h : seqM S d = some ds) : ∃ a xs, v = .ref a ∧ H a = some (.lst xs) ∧ RpL K mg w H ds xs := by
  cases d <;> simp only [seqM] at h <;> try (cases h; done)
  · cases h
    unfold Rp at r
    obtain ⟨a, xs, e, t, _, q⟩ := r
    exact ⟨a, xs, e, t, q⟩
  · obtain ⟨a, xs, h1, h2, h3⟩ := cellM_at s h
    unfold Rp at r
    exact ⟨a, xs, r.2 a h1, h2, h3⟩
theorem Tp.sq {a : Addr} {xs : List V} (h : Tp K w H a xs) : SqT K H a xs := by
  rcases h with ⟨h, _⟩ | h
  · exact .of h
  · exact .inr h
theorem tup_at {ds : List D} {v : V} (r : Rp K mg w H (.tup ds) v) : ∃ a xs, v = .ref a ∧ SqT K H a xs ∧ RpL K mg w H ds xs := by
  unfold Rp at r
  obtain ⟨a, xs, e, t, q⟩ := r
  exact ⟨a, xs, e, t.sq, q⟩
theorem seqA_at (s : Sto K mg w S H) {d : D} {v : V} {ds : List D} (r : Rp K mg w H d v) (h : seqA S d = some ds) : ∃ a xs, v = .ref a ∧ (SqL K H a xs ∨ SqT K H a xs) ∧ RpL K mg w H ds xs := by
  cases d <;> simp only [seqA] at h <;> try (cases h; done)
  · cases h
    obtain ⟨a, xs, e, t, q⟩ := tup_at r
    exact ⟨a, xs, e, .inr t, q⟩
  · cases h
    unfold Rp at r
    obtain ⟨a, xs, e, t, _, q⟩ := r
    exact ⟨a, xs, e, .inl (.of t), q⟩
  · obtain ⟨a, xs, h1, h2, h3⟩ := cellOf_at s h
    unfold Rp at r
    exact ⟨a, xs, r.2 a h1, .inl (.inl h2), h3⟩
  · cases h
    unfold Rp at r
    obtain ⟨a, xs, e, t, q⟩ := r
    exact ⟨a, xs, e, .inl t.sq, q⟩
mutual
theorem py0_at : ∀ (d : D) (v : V) (p : PyData), Rp K mg w H d v → py0 d = some p → Dp K H v p
  | .non, v, p, r, h => by unfold Rp at r; simp only [py0] at h; cases h; subst r; exact .non
  | .bl _, v, p, r, h => by unfold Rp at r; simp only [py0] at h; cases h; subst r; exact .bl _
  | .int _, v, p, r, h => by unfold Rp at r; simp only [py0] at h; cases h; subst r; exact .int _
  | .str _, v, p, r, h => by unfold Rp at r; simp only [py0] at h; cases h; subst r; exact .str _
  | .tup ds, v, p, r, h => by
    obtain ⟨a, xs, e, t, q⟩ := tup_at r
    simp only [py0, Option.map_eq_some_iff] at h
    obtain ⟨ps, h1, h2⟩ := h
    subst e; subst h2
    exact .tup t (py0L_at ds xs ps q h1)
  | .lst ds, v, p, r, h => by
    unfold Rp at r
    obtain ⟨a, xs, e, t, _, q⟩ := r
    simp only [py0, Option.map_eq_some_iff] at h
    obtain ⟨ps, h1, h2⟩ := h
    subst e; subst h2
    exact .lst (.of t) (py0L_at ds xs ps q h1)
  | .dic _ _, v, p, r, h => by simp [py0] at h
  | .ins _ _ _, v, p, r, h => by simp [py0] at h
  | .loc _, v, p, r, h => by simp [py0] at h
  | .glo _, v, p, r, h => by simp [py0] at h
  | .exn _, v, p, r, h => by simp [py0] at h
  | .exo _ _ _, v, p, r, h => by simp [py0] at h
  | .fls ds, v, p, r, h => by
    unfold Rp at r
    obtain ⟨a, xs, e, t, q⟩ := r
    simp only [py0, Option.map_eq_some_iff] at h
    obtain ⟨ps, h1, h2⟩ := h
    subst e; subst h2
    exact .lst t.sq (py0L_at ds xs ps q h1)
theorem py0L_at : ∀ (ds : List D) (vs : List V) (ps : List PyData), RpL K mg w H ds vs → py0L ds = some ps → DpAll K H vs ps
  | [], vs, ps, r, h => by unfold RpL at r; simp only [py0L] at h; cases h; subst r; exact .nil
  | d :: ds, vs, ps, r, h => by
    unfold RpL at r
    obtain ⟨v, vs', e, r1, r2⟩ := r
    simp only [py0L, Option.bind_eq_some_iff, Option.map_eq_some_iff] at h
    obtain ⟨a, h1, b, h2, h3⟩ := h
    subst e; subst h3
    exact .cons (py0_at d v a r1 h1) (py0L_at ds vs' b r2 h2)
end
mutual
theorem pyS_at (s : Sto K mg w S H) : ∀ (d : D) (v : V) (p : PyData), Rp K mg w H d v → pyS S d = some p → Dp K H v p
  | .non, v, p, r, h => by unfold Rp at r; simp only [pyS] at h; cases h; subst r; exact .non
  | .bl _, v, p, r, h => by unfold Rp at r; simp only [pyS] at h; cases h; subst r; exact .bl _
  | .int _, v, p, r, h => by unfold Rp at r; simp only [pyS] at h; cases h; subst r; exact .int _
  | .str _, v, p, r, h => by unfold Rp at r; simp only [pyS] at h; cases h; subst r; exact .str _
  | .tup ds, v, p, r, h => by
    obtain ⟨a, xs, e, t, q⟩ := tup_at r
    simp only [pyS, Option.map_eq_some_iff] at h
    obtain ⟨ps, h1, h2⟩ := h
    subst e; subst h2
    exact .tup t (pySL_at s ds xs ps q h1)
  | .lst ds, v, p, r, h => by
    unfold Rp at r
    obtain ⟨a, xs, e, t, _, q⟩ := r
    simp only [pyS, Option.map_eq_some_iff] at h
    obtain ⟨ps, h1, h2⟩ := h
    subst e; subst h2
    exact .lst (.of t) (pySL_at s ds xs ps q h1)
  | .loc n, v, p, r, h => by
    simp only [pyS, Option.map_eq_some_iff, Option.bind_eq_some_iff] at h
    obtain ⟨ps, ⟨ds, h0, h1⟩, h2⟩ := h
    obtain ⟨a, xs, h3, h4, h5⟩ := cellOf_at s h0
    unfold Rp at r
    have e := r.2 a h3
    subst e; subst h2
    exact .lst (.inl h4) (py0L_at ds xs ps h5 h1)
  | .dic _ _, v, p, r, h => by simp [pyS] at h
  | .ins _ _ _, v, p, r, h => by simp [pyS] at h
  | .glo _, v, p, r, h => by simp [pyS] at h
  | .exn _, v, p, r, h => by simp [pyS] at h
  | .exo _ _ _, v, p, r, h => by simp [pyS] at h
  | .fls ds, v, p, r, h => by
    unfold Rp at r
    obtain ⟨a, xs, e, t, q⟩ := r
    simp only [pyS, Option.map_eq_some_iff] at h
    obtain ⟨ps, h1, h2⟩ := h
    subst e; subst h2
    exact .lst t.sq (pySL_at s ds xs ps q h1)
theorem pySL_at (s : Sto K mg w S H) : ∀ (ds : List D) (vs : List V) (ps : List PyData), RpL K mg w H ds vs → pySL S ds = some ps → DpAll K H vs ps
  | [], vs, ps, r, h => by unfold RpL at r; simp only [pySL] at h; cases h; subst r; exact .nil
  | d :: ds, vs, ps, r, h => by
    unfold RpL at r
    obtain ⟨v, vs', e, r1, r2⟩ := r
    simp only [pySL, Option.bind_eq_some_iff, Option.map_eq_some_iff] at h
    obtain ⟨a, h1, b, h2, h3⟩ := h
    subst e; subst h3
    exact .cons (pyS_at s d v a r1 h1) (pySL_at s ds vs' b r2 h2)
end
end

/-! ### expressions -/
def fVar (i : Nat) : FE := fun ρ S => match ρ[i]? with
  | some (some d) => .ok d S
  | _ => .no
def fC (d : D) : FE := fun _ S => .ok d S
def f1 (g : D → Store → RE D) (a : FE) : FE := fun ρ S => (a ρ S).bnd fun x S1 => g x S1
def f2 (g : D → D → Store → RE D) (a b : FE) : FE := fun ρ S => (a ρ S).bnd fun x S1 => (b ρ S1).bnd fun y S2 => g x y S2
def fNil : FA := fun _ S => .ok [] S
def fCons (a : FE) (r : FA) : FA := fun ρ S => (a ρ S).bnd fun x S1 => (r ρ S1).bnd fun xs S2 => .ok (x :: xs) S2
def fArg (g : List D → Store → RE D) (a : FA) : FE := fun ρ S => (a ρ S).bnd g
/-- what the operation's reading asks is given -/
def OpV (K : PySem.W.Frag) (mg : Str → Option Value) (r : R2) (g : D → D → Store → RE D) : Prop :=
  ∀ (w : Wd) (S : Store) (H : Hp) (x y : V) (d e : D) (Q : VK) (E : Value → Option Addr → Hp → Prop), Sto K mg w S H → Rp K mg w H d x → Rp K mg w H e y → End K mg (fun w H => Rp K mg w H) w H (g d e S) Q E → r x y H Q
def CallV (K : PySem.W.Frag) (mg : Str → Option Value) (r : List V → Hp → VK → Prop) (g : List D → Store → RE D) : Prop :=
  ∀ (w : Wd) (S : Store) (H : Hp) (xs : List V) (ds : List D) (Q : VK) (E : Value → Option Addr → Hp → Prop), Sto K mg w S H → RpL K mg w H ds xs → End K mg (fun w H => Rp K mg w H) w H (g ds S) Q E → r xs H Q
section
variable {X : Cx} {W : WX} {a b e : Expr} {es : List Expr} {fa fb : FE} {fs : FA} {pos : Pos}
theorem tF_bind {f : FE} {k : FEnv → D → Store → RE D} {σ : L2.St} {H : Hp} {Q : VK} {t : VK} (h : tF X W (fun ρ S => (f ρ S).bnd (k ρ)) σ H Q)
    (hk : ∀ w ρ S H1 d v, Sto X.K X.mg w S H1 → EnvR X.K X.mg w H1 ρ σ → Rp X.K X.mg w H1 d v → End X.K X.mg (fun w H => Rp X.K X.mg w H) w H1 (k ρ d S) Q (fun c od H' => W c od σ H') → t v H1) : tF X W f σ H t := by
  obtain ⟨w, ρ, S, s, en, h⟩ := h
  refine ⟨w, ρ, S, s, en, (End.bind h).imp ?_ (fun _ _ _ z => z)⟩
  rintro v H1 ⟨w1, S1, d, e1, s1, r1, h1⟩
  exact hk w1 ρ S1 H1 d v s1 (en.ext e1) r1 h1
theorem two {r : R2} {g : D → D → Store → RE D} (hv : OpV X.K X.mg r g) {σ : L2.St} {H : Hp} {Q : VK} (h : tF X W (f2 g fa fb) σ H Q) : tOp r (tF X W fa) (tF X W fb) σ H Q := by
  obtain ⟨w, ρ, S, s, en, h⟩ := h
  refine ⟨w, ρ, S, s, en, (End.bind h).imp ?_ (fun _ _ _ z => z)⟩
  rintro x H1 ⟨w1, S1, d, e1, s1, r1, h1⟩
  refine ⟨w1, ρ, S1, s1, en.ext e1, (End.bind h1).imp ?_ (fun _ _ _ z => z)⟩
  rintro y H2 ⟨w2, S2, d2, e2, s2, r2, h2⟩
  exact hv w2 S2 H2 x y d d2 Q _ s2 (Rp.ext e2 _ _ r1) r2 h2
theorem q_var (i : Nat) {x : Str} (hN : X.N[i]? = some x := by rfl) (hv : Vis X.env.scope x := by first | exact Or.inl rfl | exact Or.inr (Or.inl rfl) | exact Or.inr (Or.inr rfl)) (hd : (x == ("__debug__" : Str)) = false := by decide)
    (hcd : (x == ("__classdict__" : Str)) = false := by decide) : PE X (.Name x pos) (tF X W (fVar i)) :=
  PE.wk (pe_var hN hv hd hcd) fun σ H Q ⟨w, ρ, S, s, en, h⟩ => by
    unfold fVar at h
    split at h
    · rename_i d hd
      obtain ⟨v, h1, h2⟩ := en.at_ i d hd
      exact ⟨v, h1, h.ret s h2⟩
    · exact h.elim
theorem q_const {d : D} {v : V} (hr : ∀ w H, Rp X.K X.mg w H d v) (h : PE X e (tC v)) : PE X e (tF X W (fC d)) := PE.wk h fun σ H Q ⟨w, ρ, S, s, en, h⟩ => h.ret s (hr w H)
theorem q_int {i j} : PE X (.Constant (.int i) j pos) (tF X W (fC (.int i))) := q_const (fun w H => by unfold Rp; rfl) pe_int
theorem q_bl {i j} : PE X (.Constant (.bool i) j pos) (tF X W (fC (.bl i))) := q_const (fun w H => by unfold Rp; rfl) pe_bl
theorem q_non {j} : PE X (.Constant .none j pos) (tF X W (fC .non)) := q_const (fun w H => by unfold Rp; rfl) pe_non
theorem q_str {i j} : PE X (.Constant (.str i) j pos) (tF X W (fC (.str i))) := q_const (fun w H => by unfold Rp; rfl) pe_str
theorem q_op {op : Operator} {r : R2} {g : D → D → Store → RE D} (ho : OpR X (binaryOp op) r) (hv : OpV X.K X.mg r g) (ha : PE X a (tF X W fa)) (hb : PE X b (tF X W fb)) : PE X (.BinOp a op b pos) (tF X W (f2 g fa fb)) :=
  PE.wk (pe_op ho ha hb) fun σ H Q h => two hv h
theorem q_cmp {op : CmpOp} {r : R2} {g : D → D → Store → RE D} (ho : OpR X (compareOp op) r) (hv : OpV X.K X.mg r g) (ha : PE X a (tF X W fa)) (hb : PE X b (tF X W fb)) (hm : behindInMarks op b = false) : PE X (.Compare a [op] [b] pos) (tF X W (f2 g fa fb)) :=
  PE.wk (pe_cmpR ho ha hb hm) fun σ H Q h => two hv h
/-- a value that is a truth, as a test -/
def fB (f : FE) : FT := fun ρ S => (f ρ S).bnd fun x S1 => match x with
  | .bl k => .ok k S1
  | _ => .no
theorem tF_of_fB {f : FE} {σ : L2.St} {H : Hp} {Q : Bool → Hp → Prop} (h : tT X W (fB f) σ H Q) : tF X W f σ H (fun v H' => ∃ k, v = .bl k ∧ Q k H') := by
  obtain ⟨w, ρ, S, s, en, h⟩ := h
  refine ⟨w, ρ, S, s, en, (End.bind (R := fun w H => Rp X.K X.mg w H) h).imp ?_ (fun _ _ _ z => z)⟩
  rintro x H1 ⟨w1, S1, d, e1, s1, r1, h1⟩
  cases d <;> try exact h1.elim
  unfold Rp at r1
  exact ⟨_, r1, h1.ret s1 rfl⟩
theorem qt_cmp {op : CmpOp} {r : R2} {g : D → D → Store → RE D} (ho : OpR X (compareOp op) r) (hv : OpV X.K X.mg r g) (ha : PE X a (tF X W fa)) (hb : PE X b (tF X W fb)) (hm : behindInMarks op b = false) : PT X (.Compare a [op] [b] pos) (tT X W (fB (f2 g fa fb))) :=
  PT.wk (pt_cmpR ho ha hb hm) fun σ H Q h => two hv (tF_of_fB h)
/-- a op1 b op2 c -/
def fChain (g g' : D → D → Store → RE D) (a b c : FE) : FE := fun ρ S => (a ρ S).bnd fun x S1 => (b ρ S1).bnd fun y S2 => (g x y S2).bnd fun k S3 => match k with
  | .bl true => (c ρ S3).bnd fun z S4 => g' y z S4
  | .bl false => .ok (.bl false) S3
  | _ => .no
theorem chain {r r' : R2} {g g' : D → D → Store → RE D} (hv : OpV X.K X.mg r g) (hv' : OpV X.K X.mg r' g') {fc : FE} {σ : L2.St} {H : Hp} {Q : VK} (h : tF X W (fChain g g' fa fb fc) σ H Q) : tChain r r' (tF X W fa) (tF X W fb) (tF X W fc) σ H Q := by
  obtain ⟨w, ρ, S, s, en, h⟩ := h
  refine ⟨w, ρ, S, s, en, (End.bind h).imp ?_ (fun _ _ _ z => z)⟩
  rintro x H1 ⟨w1, S1, d, e1, s1, r1, h1⟩
  refine ⟨w1, ρ, S1, s1, en.ext e1, (End.bind h1).imp ?_ (fun _ _ _ z => z)⟩
  rintro y H2 ⟨w2, S2, d2, e2, s2, r2, h2⟩
  refine hv w2 S2 H2 x y d d2 _ _ s2 (Rp.ext e2 _ _ r1) r2 ((End.bind h2).imp ?_ (fun _ _ _ z => z))
  rintro z H3 ⟨w3, S3, d3, e3, s3, r3, h3⟩
  cases d3 <;> try exact h3.elim
  rename_i k
  unfold Rp at r3
  refine ⟨k, r3, ?_⟩
  cases k with
  | false => rw [if_neg (by decide)]; exact h3.ret s3 (by unfold Rp; rfl)
  | true =>
    rw [if_pos rfl]
    refine ⟨w3, ρ, S3, s3, ((en.ext e1).ext e2).ext e3, (End.bind h3).imp ?_ (fun _ _ _ z => z)⟩
    rintro u H4 ⟨w4, S4, d4, e4, s4, r4, h4⟩
    exact hv' w4 S4 H4 y u d2 d4 _ _ s4 (Rp.ext e4 _ _ (Rp.ext e3 _ _ r2)) r4 h4
theorem q_chain {c : Expr} {fc : FE} {op op' : CmpOp} {r r' : R2} {g g' : D → D → Store → RE D} (ho : OpR X (compareOp op) r) (hv : OpV X.K X.mg r g) (ho' : OpR X (compareOp op') r') (hv' : OpV X.K X.mg r' g') (ha : PE X a (tF X W fa)) (hb : PE X b (tF X W fb)) (hc : PE X c (tF X W fc))
    (hm : lastMarks [op, op'] [b, c] = false := by with_unfolding_all rfl) : PE X (.Compare a [op, op'] [b, c] pos) (tF X W (fChain g g' fa fb fc)) :=
  PE.wk (pe_chain ho ho' ha hb hc hm) fun σ H Q h => chain hv hv' h
theorem qt_chain {c : Expr} {fc : FE} {op op' : CmpOp} {r r' : R2} {g g' : D → D → Store → RE D} (ho : OpR X (compareOp op) r) (hv : OpV X.K X.mg r g) (ho' : OpR X (compareOp op') r') (hv' : OpV X.K X.mg r' g') (ha : PE X a (tF X W fa)) (hb : PE X b (tF X W fb)) (hc : PE X c (tF X W fc))
    (hm : lastMarks [op, op'] [b, c] = false := by with_unfolding_all rfl) : PT X (.Compare a [op, op'] [b, c] pos) (tT X W (fB (fChain g g' fa fb fc))) :=
  PT.wk (pt_chain ho ho' ha hb hc hm) fun σ H Q h => chain hv hv' (tF_of_fB h)

/-! ### and, or, not, if -/
def fAnd (a b : FT) : FT := fun ρ S => (a ρ S).bnd fun k S1 => match k with
  | true => b ρ S1
  | false => .ok false S1
def fOr (a b : FT) : FT := fun ρ S => (a ρ S).bnd fun k S1 => match k with
  | true => .ok true S1
  | false => b ρ S1
def fNot (a : FT) : FT := fun ρ S => (a ρ S).bnd fun k S1 => .ok (!k) S1
def fIf (c : FT) (a b : FE) : FE := fun ρ S => (c ρ S).bnd fun k S1 => match k with
  | true => a ρ S1
  | false => b ρ S1
/-- a test's value -/
def fV (a : FT) : FE := fun ρ S => (a ρ S).bnd fun k S1 => .ok (.bl k) S1
variable {ta tb : FT} {rest : List Expr}
theorem tT_bind {β : Type} {R' : Wd → Hp → β → β → Prop} {f : FT} {σ : L2.St} {H : Hp} {t : Bool → Hp → Prop} {w : Wd} {ρ : FEnv} {S : Store} {γ δ : Type} {RR : Wd → Hp → γ → δ → Prop} {k : Bool → Store → RE γ} {Q : δ → Hp → Prop}
    (s : Sto X.K X.mg w S H) (en : EnvR X.K X.mg w H ρ σ) (h : End X.K X.mg RR w H ((f ρ S).bnd k) Q (fun c od H' => W c od σ H'))
    (hk : ∀ w1 S1 H1 b, Sto X.K X.mg w1 S1 H1 → EnvR X.K X.mg w1 H1 ρ σ → End X.K X.mg RR w1 H1 (k b S1) Q (fun c od H' => W c od σ H') → t b H1) : tT X W f σ H t := by
  refine ⟨w, ρ, S, s, en, (End.bind h).imp ?_ (fun _ _ _ z => z)⟩
  rintro v H1 ⟨w1, S1, d, e1, s1, r1, h1⟩
  cases r1
  exact hk w1 S1 H1 _ s1 (en.ext e1) h1
theorem qw_one {op : BoolOp} (ha : PT X a (tT X W ta)) : PW X (.BoolOp op [a] pos) (tT X W ta) := by
  cases op
  · exact pw_and1 ha
  · exact pw_or1 ha
theorem qw_and (ha : PT X a (tT X W ta)) (hb : PW X (.BoolOp .And (b :: rest) pos) (tT X W tb)) : PW X (.BoolOp .And (a :: b :: rest) pos) (tT X W (fAnd ta tb)) :=
  PW.wk (pw_and ha hb) fun σ H Q ⟨w, ρ, S, s, en, h⟩ => tT_bind (R' := fun _ _ (a b : Nat) => True) s en h fun w1 S1 H1 k s1 en1 h1 => by
    cases k with
    | true => rw [if_pos rfl]; exact ⟨w1, ρ, S1, s1, en1, h1⟩
    | false => rw [if_neg (by decide)]; exact h1.ret s1 rfl
theorem qw_or (ha : PT X a (tT X W ta)) (hb : PW X (.BoolOp .Or (b :: rest) pos) (tT X W tb)) : PW X (.BoolOp .Or (a :: b :: rest) pos) (tT X W (fOr ta tb)) :=
  PW.wk (pw_or ha hb) fun σ H Q ⟨w, ρ, S, s, en, h⟩ => tT_bind (R' := fun _ _ (a b : Nat) => True) s en h fun w1 S1 H1 k s1 en1 h1 => by
    cases k with
    | true => rw [if_pos rfl]; exact h1.ret s1 rfl
    | false => rw [if_neg (by decide)]; exact ⟨w1, ρ, S1, s1, en1, h1⟩
theorem qt_not (ha : PT X a (tT X W ta)) : PT X (.UnaryOp .Not a pos) (tT X W (fNot ta)) :=
  PT.wk (pt_not ha) fun σ H Q ⟨w, ρ, S, s, en, h⟩ => tT_bind (R' := fun _ _ (a b : Nat) => True) s en h fun w1 S1 H1 k s1 en1 h1 => h1.ret s1 rfl
theorem q_if {c : Expr} {tc : FT} (hc : PT X c (tT X W tc)) (ha : PE X a (tF X W fa)) (hb : PE X b (tF X W fb)) : PE X (.IfExp c a b pos) (tF X W (fIf tc fa fb)) :=
  PE.wk (pe_ifExp hc ha hb) fun σ H Q ⟨w, ρ, S, s, en, h⟩ => tT_bind (R' := fun _ _ (a b : Nat) => True) s en h fun w1 S1 H1 k s1 en1 h1 => by
    cases k with
    | true => rw [if_pos rfl]; exact ⟨w1, ρ, S1, s1, en1, h1⟩
    | false => rw [if_neg (by decide)]; exact ⟨w1, ρ, S1, s1, en1, h1⟩
/-- and, or, not as values: all but the last one truths -/
def fAndV (a b : FE) : FE := fun ρ S => (a ρ S).bnd fun k S1 => match k with
  | .bl true => b ρ S1
  | .bl false => .ok (.bl false) S1
  | _ => .no
def fOrV (a b : FE) : FE := fun ρ S => (a ρ S).bnd fun k S1 => match k with
  | .bl true => .ok (.bl true) S1
  | .bl false => b ρ S1
  | _ => .no
theorem q_one {op : BoolOp} (ha : PE X a (tF X W fa)) : PE X (.BoolOp op [a] pos) (tF X W fa) := pe_one ha
theorem q_and (ha : PE X a (tF X W fa)) (hb : PE X (.BoolOp .And (b :: rest) pos) (tF X W fb)) : PE X (.BoolOp .And (a :: b :: rest) pos) (tF X W (fAndV fa fb)) :=
  PE.wk (pe_and ha hb) fun σ H Q ⟨w, ρ, S, s, en, h⟩ => by
    refine ⟨w, ρ, S, s, en, (End.bind h).imp ?_ (fun _ _ _ z => z)⟩
    rintro x H1 ⟨w1, S1, d, e1, s1, r1, h1⟩
    cases d <;> try exact h1.elim
    rename_i k
    unfold Rp at r1
    refine ⟨k, r1, ?_⟩
    cases k with
    | true => rw [if_pos rfl]; exact ⟨w1, ρ, S1, s1, en.ext e1, h1⟩
    | false => rw [if_neg (by decide)]; exact h1.ret s1 (by unfold Rp; rfl)
theorem q_or (ha : PE X a (tF X W fa)) (hb : PE X (.BoolOp .Or (b :: rest) pos) (tF X W fb)) : PE X (.BoolOp .Or (a :: b :: rest) pos) (tF X W (fOrV fa fb)) :=
  PE.wk (pe_or ha hb) fun σ H Q ⟨w, ρ, S, s, en, h⟩ => by
    refine ⟨w, ρ, S, s, en, (End.bind h).imp ?_ (fun _ _ _ z => z)⟩
    rintro x H1 ⟨w1, S1, d, e1, s1, r1, h1⟩
    cases d <;> try exact h1.elim
    rename_i k
    unfold Rp at r1
    refine ⟨k, r1, ?_⟩
    cases k with
    | true => rw [if_pos rfl]; exact h1.ret s1 (by unfold Rp; rfl)
    | false => rw [if_neg (by decide)]; exact ⟨w1, ρ, S1, s1, en.ext e1, h1⟩
/-- truth -/
def truD (S : Store) : D → Option Bool
  | .non => some false
  | .bl b => some b
  | .int i => some (i != 0)
  | .str y => if y.length ≤ sizeLine then some ((y.length : Int) != 0) else none
  | .tup ds => some (!ds.isEmpty)
  | .lst ds => some (!ds.isEmpty)
  | .fls ds => some (!ds.isEmpty)
  | .loc n => (cellOf S n).map fun ds => !ds.isEmpty
  | _ => none
def fTru (f : FE) : FT := fun ρ S => (f ρ S).bnd fun x S1 => match truD S1 x with
  | some k => .ok k S1
  | none => .no
theorem RpL.emp {K : PySem.W.Frag} {mg : Str → Option Value} {w : Wd} {H : Hp} {ds : List D} {vs : List V} (h : RpL K mg w H ds vs) : (!ds.isEmpty) = !vs.isEmpty := by
  cases ds <;> unfold RpL at h
  · subst h; rfl
  · obtain ⟨v, r, e, _⟩ := h; subst e; rfl
theorem truD_at {K : PySem.W.Frag} {mg : Str → Option Value} {w : Wd} {H : Hp} {S : Store} {d : D} {v : V} {k : Bool} (s : Sto K mg w S H) (r : Rp K mg w H d v) (h : truD S d = some k) : TruV K v H k := by
  cases d with
  | non => unfold Rp at r; subst r; simp only [truD] at h; cases h; rfl
  | bl b => unfold Rp at r; subst r; simp only [truD] at h; cases h; rfl
  | int i => unfold Rp at r; subst r; simp only [truD] at h; cases h; rfl
  | str y =>
    unfold Rp at r; subst r; simp only [truD] at h
    split at h
    · rename_i hl; cases h; exact ⟨hl, rfl⟩
    · cases h
  | tup ds =>
    obtain ⟨a, xs, e, t, q⟩ := tup_at r
    simp only [truD] at h; cases h; subst e
    exact .inr (.inl ⟨xs, t, q.emp⟩)
  | lst ds =>
    obtain ⟨a, xs, e, t, q⟩ := seqL_at (S := S) s r rfl
    simp only [truD] at h; cases h; subst e
    exact .inl ⟨xs, t, q.emp⟩
  | fls ds =>
    obtain ⟨a, xs, e, t, q⟩ := seqL_at (S := S) (d := .fls ds) s r rfl
    simp only [truD] at h; cases h; subst e
    exact .inl ⟨xs, t, q.emp⟩
  | loc n =>
    simp only [truD, Option.map_eq_some_iff] at h
    obtain ⟨ds, h1, h2⟩ := h
    obtain ⟨a, xs, e, t, q⟩ := seqL_at (S := S) (d := .loc n) s r h1
    subst e; subst h2
    exact .inl ⟨xs, t, q.emp⟩
  | _ => simp [truD] at h
theorem qt_tru (ha : PE X a (tF X W fa)) (he : ∀ whole, isTrue a X.env whole = (do let v ← whole; standAt a.pos; holding [v] (truthy v)) := by intro _; rfl) : PT X a (tT X W (fTru fa)) :=
  PT.wk (pt_truth ha he) fun σ H Q ⟨w, ρ, S, s, en, h⟩ => by
    refine ⟨w, ρ, S, s, en, (End.bind (R := fun w H => Rp X.K X.mg w H) h).imp ?_ (fun _ _ _ z => z)⟩
    rintro x H1 ⟨w1, S1, d, e1, s1, r1, h1⟩
    split at h1
    · rename_i k hk
      exact ⟨k, truD_at s1 r1 hk, h1.ret s1 rfl⟩
    · exact h1.elim
/-- not e, as a value, by truth -/
def fNotV (f : FE) : FE := fun ρ S => (f ρ S).bnd fun x S1 => match truD S1 x with
  | some k => .ok (.bl (!k)) S1
  | none => .no
theorem q_not (ha : PE X a (tF X W fa)) : PE X (.UnaryOp .Not a pos) (tF X W (fNotV fa)) :=
  PE.wk (pe_notT ha) fun σ H Q ⟨w, ρ, S, s, en, h⟩ => by
    refine ⟨w, ρ, S, s, en, (End.bind (R := fun w H => Rp X.K X.mg w H) h).imp ?_ (fun _ _ _ z => z)⟩
    rintro x H1 ⟨w1, S1, d, e1, s1, r1, h1⟩
    split at h1
    · rename_i k hk
      exact ⟨k, truD_at s1 r1 hk, h1.ret s1 (by unfold Rp; rfl)⟩
    · exact h1.elim

/-! ### argument lists, displays -/
theorem q_nil : PA X [] (tA X W fNil) := PA.wk pa_nil fun σ H Q ⟨w, ρ, S, s, en, h⟩ => h.ret s RpL.nil
theorem q_cons (ha : PE X e (tF X W fa)) (hr : PA X es (tA X W fs)) (hs : starEach (e :: es) X.env = (false, eval e X.env) :: starEach es X.env := by rfl) : PA X (e :: es) (tA X W (fCons fa fs)) :=
  PA.wk (pa_cons ha hr hs) fun σ H Q ⟨w, ρ, S, s, en, h⟩ => by
    refine ⟨w, ρ, S, s, en, (End.bind h).imp ?_ (fun _ _ _ z => z)⟩
    rintro x H1 ⟨w1, S1, d, e1, s1, r1, h1⟩
    refine ⟨w1, ρ, S1, s1, en.ext e1, (End.bind h1).imp ?_ (fun _ _ _ z => z)⟩
    rintro xs H2 ⟨w2, S2, ds, e2, s2, r2, h2⟩
    exact h2.ret s2 (RpL.cons (Rp.ext e2 _ _ r1) r2)
/-- a new tuple, a new list -/
def mkTup (ds : List D) (S : Store) : RE D := if ds.length ≤ sizeLine then .ok (.tup ds) S else .no
def mkLst (ds : List D) (S : Store) : RE D := if ds.length ≤ sizeLine then .ok (.lst ds) S else .no
def mkCel (ds : List D) (S : Store) : RE D := if ds.length ≤ sizeLine then .ok (.loc S.length) (S ++ [.lst ds]) else .no
section
variable {K : PySem.W.Frag} {mg : Str → Option Value} {w : Wd} {H : Hp} {S : Store} {Q : VK} {E : Value → Option Addr → Hp → Prop} {ds : List D} {xs : List V} {p : Addr}
theorem mkTup_at (s : Sto K mg w S H) (r : RpL K mg w H ds xs) (h : End K mg (fun w H => Rp K mg w H) w H (mkTup ds S) Q E) : xs.length ≤ sizeLine ∧ ∀ p, H p = none → Q (.ref p) (upd H p (.tup xs)) := by
  unfold mkTup at h
  split at h
  · rename_i hl
    refine ⟨by rw [← r.length]; exact hl, fun p np => h w _ _ (Ext.new np) (s.beside np) ?_⟩
    show Rp _ _ _ _ _ _
    unfold Rp
    exact ⟨p, xs, rfl, .inl ⟨upd_same, s.new np⟩, RpL.ext (Ext.new np) _ _ r⟩
  · exact h.elim
theorem mkLst_at (s : Sto K mg w S H) (r : RpL K mg w H ds xs) (h : End K mg (fun w H => Rp K mg w H) w H (mkLst ds S) Q E) : xs.length ≤ sizeLine ∧ ∀ p, H p = none → Q (.ref p) (upd H p (.lst xs)) := by
  unfold mkLst at h
  split at h
  · rename_i hl
    refine ⟨by rw [← r.length]; exact hl, fun p np => h w _ _ (Ext.new np) (s.beside np) ?_⟩
    show Rp _ _ _ _ _ _
    unfold Rp
    exact ⟨p, xs, rfl, upd_same, s.new np, RpL.ext (Ext.new np) _ _ r⟩
  · exact h.elim
theorem Ext.cell {o : HO} (np : H p = none) : Ext w H ⟨w.φ ++ [some p], w.hd⟩ (upd H p o) where
  fr := fun a u e _ => by rw [upd_ne (ne_of_none e np)]; exact e
  ln := by show w.φ.length ≤ (w.φ ++ [some p]).length; rw [List.length_append]; exact Nat.le_add_right _ _
  ph := fun n a h l => by
    have h' : (w.φ ++ [some p])[n]? = some (some a) := h
    rw [List.getElem?_append_left l] at h'; exact h'
  nw := fun a h => by
    rcases List.mem_append.mp (show some a ∈ w.φ ++ [some p] from h) with h | h
    · exact .inl h
    · simp at h; subst h; exact .inr np
  hd := rfl
theorem Sto.cellNew (s : Sto K mg w S H) (np : H p = none) (r : RpL K mg w H ds xs) : Sto K mg ⟨w.φ ++ [some p], w.hd⟩ (S ++ [.lst ds]) (upd H p (.lst xs)) := by
  have s2 := s.beside (o := .lst xs) np
  have ex : Ext w H ⟨w.φ ++ [some p], w.hd⟩ (upd H p (.lst xs)) := Ext.cell np
  refine ⟨by show (w.φ ++ [some p]).length = _; rw [List.length_append, List.length_append, s.len]; rfl, fun m n a h1 h2 => ?_, fun a ha => ⟨upd_some (s.ap a ha).1, fun z => ?_⟩, fun n c hc => ?_⟩
  · have key : ∀ k, (w.φ ++ [some p])[k]? = some (some a) → (w.φ[k]? = some (some a) ∧ k < w.φ.length) ∨ (k = w.φ.length ∧ a = p) := fun k hk => by
      by_cases hl : k < w.φ.length
      · rw [List.getElem?_append_left hl] at hk; exact .inl ⟨hk, hl⟩
      · have hl' : w.φ.length ≤ k := Nat.le_of_not_lt hl
        rw [List.getElem?_append_right hl'] at hk
        have : k - w.φ.length = 0 := by
          cases e : k - w.φ.length with
          | zero => rfl
          | succ j => rw [e] at hk; simp at hk
        rw [this] at hk; simp at hk
        exact .inr ⟨by omega, hk.symm⟩
    rcases key m h1 with ⟨a1, b1⟩ | ⟨a1, b1⟩ <;> rcases key n h2 with ⟨a2, b2⟩ | ⟨a2, b2⟩
    · exact s.nd m n a a1 a2
    · subst b2; exact absurd (List.mem_of_getElem? a1) (s.new np).1
    · subst b1; exact absurd (List.mem_of_getElem? a2) (s.new np).1
    · omega
  · rcases List.mem_append.mp (show some a ∈ w.φ ++ [some p] from z) with h | h
    · exact (s.ap a ha).2 h
    · simp at h; subst h; exact (s.ap a ha).1 np
  · by_cases hl : n < S.length
    · rw [List.getElem?_append_left hl] at hc
      refine CellR.ext ex (fun a ha => ⟨by show (w.φ ++ [some p])[n]? = _; rw [List.getElem?_append_left (s.len ▸ hl)]; exact ha, ?_⟩) (fun hd => by show (w.φ ++ [some p])[n]? = _; rw [List.getElem?_append_left (s.len ▸ hl)]; exact hd) (s.cell n c hc)
      have : a ≠ p := fun z => by subst z; exact (s.new np).1 (List.mem_of_getElem? ha)
      rw [upd_ne this]
    · have hl' : S.length ≤ n := Nat.le_of_not_lt hl
      rw [List.getElem?_append_right hl'] at hc
      have e0 : n - S.length = 0 := by
        cases e : n - S.length with
        | zero => rfl
        | succ j => rw [e] at hc; simp at hc
      rw [e0] at hc; simp at hc; subst hc
      have en : n = w.φ.length := by rw [s.len]; omega
      subst en
      exact ⟨p, xs, by show (w.φ ++ [some p])[w.φ.length]? = _; rw [List.getElem?_append_right (Nat.le_refl _), Nat.sub_self]; rfl, upd_same, RpL.ext ex _ _ r⟩
theorem mkCel_at (s : Sto K mg w S H) (r : RpL K mg w H ds xs) (h : End K mg (fun w H => Rp K mg w H) w H (mkCel ds S) Q E) : xs.length ≤ sizeLine ∧ ∀ p, H p = none → Q (.ref p) (upd H p (.lst xs)) := by
  unfold mkCel at h
  split at h
  · rename_i hl
    refine ⟨by rw [← r.length]; exact hl, fun p np => h _ _ _ (Ext.cell np) (s.cellNew np r) ?_⟩
    show Rp _ _ _ _ _ _
    unfold Rp
    refine ⟨by show S.length < (w.φ ++ [some p]).length; rw [List.length_append, s.len]; exact Nat.lt_succ_self _, fun a ha => ?_⟩
    have ha' : (w.φ ++ [some p])[S.length]? = some (some a) := ha
    rw [← s.len, List.getElem?_append_right (Nat.le_refl _), Nat.sub_self] at ha'
    simp at ha'; rw [ha']
  · exact h.elim
end
theorem q_tup {x1} (h : PA X es (tA X W fs)) : PE X (.Tuple es x1 pos) (tF X W (fArg mkTup fs)) :=
  PE.wk (pe_tup h) fun σ H Q ⟨w, ρ, S, s, en, h⟩ => ⟨w, ρ, S, s, en, (End.bind (R := fun w H => RpL X.K X.mg w H) h).imp (fun xs H1 ⟨w1, S1, ds, e1, s1, r1, h1⟩ => mkTup_at s1 r1 h1) (fun _ _ _ z => z)⟩
theorem q_lst (h : PA X es (tA X W fs)) : PE X (.List es pos) (tF X W (fArg mkLst fs)) :=
  PE.wk (pe_lst h) fun σ H Q ⟨w, ρ, S, s, en, h⟩ => ⟨w, ρ, S, s, en, (End.bind (R := fun w H => RpL X.K X.mg w H) h).imp (fun xs H1 ⟨w1, S1, ds, e1, s1, r1, h1⟩ => mkLst_at s1 r1 h1) (fun _ _ _ z => z)⟩
theorem q_cel (h : PA X es (tA X W fs)) : PE X (.List es pos) (tF X W (fArg mkCel fs)) :=
  PE.wk (pe_lst h) fun σ H Q ⟨w, ρ, S, s, en, h⟩ => ⟨w, ρ, S, s, en, (End.bind (R := fun w H => RpL X.K X.mg w H) h).imp (fun xs H1 ⟨w1, S1, ds, e1, s1, r1, h1⟩ => mkCel_at s1 r1 h1) (fun _ _ _ z => z)⟩
/-! ### calls of built-ins -/
theorem argsTo {r : List V → Hp → VK → Prop} {g : List D → Store → RE D} (hv : CallV X.K X.mg r g) {σ : L2.St} {H : Hp} {Q : VK} (h : tF X W (fArg g fs) σ H Q) : tA X W fs σ H (fun vs H1 => r vs H1 Q) := by
  obtain ⟨w, ρ, S, s, en, h⟩ := h
  refine ⟨w, ρ, S, s, en, (End.bind h).imp ?_ (fun _ _ _ z => z)⟩
  rintro xs H1 ⟨w1, S1, ds, e1, s1, r1, h1⟩
  exact hv w1 S1 H1 xs ds Q _ s1 r1 h1
theorem q_callB {x : Str} {p : Pos} {id : String} {r : List V → Hp → VK → Prop} {g : List D → Store → RE D} (hc : CallR X (.builtin id) r) (hv : CallV X.K X.mg r g) (hg : Gl X x) (hm : X.mg x = none) (hb : bootBuiltins x = some (.builtin id)) (ha : PA X (e :: es) (tA X W fs)) (hn : x ≠ "__name__" := by decide) (hdb : (x == ("__debug__" : Str)) = false := by decide)
    (he : starEach (e :: es) X.env = (false, eval e X.env) :: starEach es X.env := by rfl) (hpl : (backTo pos (starEach es X.env)).any (·.1) = false := by rfl) : PE X (.Call (.Name x p) (e :: es) [] pos) (tF X W (fArg g fs)) :=
  PE.wk (pe_callB hc hg hm hb ha hn hdb he hpl) fun σ H Q h => argsTo hv h
theorem q_callTy {x : Str} {p : Pos} {T : String} {r : List V → Hp → VK → Prop} {g : List D → Store → RE D} (hc : CallR X (.type T) r) (hv : CallV X.K X.mg r g) (hg : Gl X x) (hm : X.mg x = none) (hb : bootBuiltins x = some (.type T)) (ha : PA X (e :: es) (tA X W fs)) (hn : x ≠ "__name__" := by decide) (hdb : (x == ("__debug__" : Str)) = false := by decide)
    (he : starEach (e :: es) X.env = (false, eval e X.env) :: starEach es X.env := by rfl) (hpl : (backTo pos (starEach es X.env)).any (·.1) = false := by rfl) : PE X (.Call (.Name x p) (e :: es) [] pos) (tF X W (fArg g fs)) :=
  PE.wk (pe_callTy hc hg hm hb ha hn hdb he hpl) fun σ H Q h => argsTo hv h
end
end Kw

/-! Kw3: operations by values. -/
namespace Kw
open PySem PySem.Spec PyProof.Rows L2

section
variable {K : PySem.W.Frag} {mg : Str → Option Value} {w : Wd} {H : Hp} {S : Store}
theorem rp_int {i : Int} {v : V} (h : Rp K mg w H (.int i) v) : v = .int i := by unfold Rp at h; exact h
theorem rp_bl {i : Bool} {v : V} (h : Rp K mg w H (.bl i) v) : v = .bl i := by unfold Rp at h; exact h
theorem rp_str {i : Str} {v : V} (h : Rp K mg w H (.str i) v) : v = .str i := by unfold Rp at h; exact h
theorem rp_non {v : V} (h : Rp K mg w H .non v) : v = .non := by unfold Rp at h; exact h
theorem rp_i {i : Int} : Rp K mg w H (.int i) (.int i) := by unfold Rp; rfl
theorem rp_b {i : Bool} : Rp K mg w H (.bl i) (.bl i) := by unfold Rp; rfl
theorem rp_s {i : Str} : Rp K mg w H (.str i) (.str i) := by unfold Rp; rfl
theorem rp_n : Rp K mg w H .non .non := by unfold Rp; rfl
end

/-! ### + -/
def catL (c : Bool) (x y : Option (List D)) (S : Store) : RE D := match x, y with
  | some xs, some ys => if c then mkCel (xs ++ ys) S else mkLst (xs ++ ys) S
  | _, _ => .no
/-- c: the sum of two lists is a cell -/
def gAdd (c : Bool) (x y : D) (S : Store) : RE D := match x with
  | .int i => (match y with
    | .int j => .ok (.int (i + j)) S
    | .bl k => .ok (.int (i + b2i k)) S
    | _ => .no)
  | .str a => (match y with
    | .str b => if a.length + b.length ≤ sizeLine then .ok (.str (a ++ b)) S else .no
    | _ => .no)
  | .tup xs => (match y with
    | .tup ys => mkTup (xs ++ ys) S
    | _ => .no)
  | x => catL c (seqM S x) (seqM S y) S
def gSub (x y : D) (S : Store) : RE D := match x, y with
  | .int i, .int j => .ok (.int (i - j)) S
  | _, _ => .no
instance (i j : Int) : Decidable (CMulW i j) := inferInstanceAs (Decidable (_ < _))
instance (i j : Int) : Decidable (CMul i j) := inferInstanceAs (Decidable (_ ∨ _))
/-- a text so many times -/
def repS (a : Str) (n : Int) : Str := if n < 1 then Str.empty else if (n == 1 || a.length == 0) = true then a else ⟨(List.replicate n.toNat a.cps).foldl (· ++ ·) #[]⟩
/-- c: a list that is repeated is a cell -/
def gMul (c : Bool) (x y : D) (S : Store) : RE D := match y with
  | .int j => (match x with
    | .int i => if CMul i j ∨ CMulW i j then .ok (.int (i * j)) S else .no
    | .str a => if a.length * j.toNat ≤ 16777216 ∧ a.length ≤ 1000 ∧ -(2 ^ 63) ≤ j ∧ j ≤ 100000 then .ok (.str (repS a j)) S else .no
    | x => (match seqM S x with
      | some xs => if xs.length * j.toNat ≤ sizeLine ∧ -(2 ^ 63) ≤ j ∧ j < 2 ^ 63 then (if c then mkCel (List.replicate j.toNat xs).flatten S else mkLst (List.replicate j.toNat xs).flatten S) else .no
      | none => .no))
  | _ => .no
/-- the divisor is positive -/
def gMod (x y : D) (S : Store) : RE D := match x, y with
  | .int i, .int j => if 0 < j then .ok (.int (i % j)) S else .no
  | _, _ => .no
def gDiv (x y : D) (S : Store) : RE D := match x, y with
  | .int i, .int j => if 0 < j ∧ j.natAbs.log2 < 9000 then .ok (.int (i / j)) S else .no
  | _, _ => .no
def gPow (x y : D) (S : Store) : RE D := match x, y with
  | .int i, .int j => if 0 ≤ j ∧ j ≤ 1000000 ∧ i.natAbs < 2 ^ 64 then .ok (.int (i ^ j.toNat)) S else .no
  | _, _ => .no
section
variable {K : PySem.W.Frag} {mg : Str → Option Value}
def rAddU (K : PySem.W.Frag) : R2 := fun x y H Q => (∃ i j, x = .int i ∧ y = .int j ∧ Q (.int (i + j)) H) ∨ (∃ i k, x = .int i ∧ y = .bl k ∧ Q (.int (i + b2i k)) H) ∨
  (∃ i j, x = .str i ∧ y = .str j ∧ i.length + j.length ≤ sizeLine ∧ Q (.str (i ++ j)) H) ∨ rCat x y H Q ∨ rCatA K x y H Q
theorem op_addU {X : Cx} : OpR X (binaryOp .Add) (rAddU X.K) := op_add.or (op_add_ib.or (op_add_str.or (op_cat.or op_catA)))
theorem mk_len (xs ys : List D) (vs us : List V) {w : Wd} {H : Hp} (h1 : RpL K mg w H xs vs) (h2 : RpL K mg w H ys us) : (xs ++ ys).length = vs.length + us.length := by
  rw [List.length_append, h1.length, h2.length]
theorem addU_v {c : Bool} : OpV K mg (rAddU K) (gAdd c) := by
  intro w S H x y d e Q E s r1 r2 h
  have lists : ∀ xs ys, seqM S d = some xs → seqM S e = some ys → End K mg (fun w H => Rp K mg w H) w H (if c then mkCel (xs ++ ys) S else mkLst (xs ++ ys) S) Q E → rCat x y H Q := fun xs ys h1 h2 h => by
    obtain ⟨a, vs, e1, t1, q1⟩ := seqM_at s r1 h1
    obtain ⟨b, us, e2, t2, q2⟩ := seqM_at s r2 h2
    have q := q1.append q2
    refine ⟨a, b, vs, us, e1, e2, t1, t2, ?_⟩
    have l : (vs ++ us).length = vs.length + us.length := List.length_append
    cases c
    · have z := mkLst_at s q h
      rw [l] at z; exact z
    · have z := mkCel_at s q h
      rw [l] at z; exact z
  have lists' : End K mg (fun w H => Rp K mg w H) w H (catL c (seqM S d) (seqM S e) S) Q E → rCat x y H Q := fun h => by
    unfold catL at h
    split at h
    · rename_i xs ys h1 h2; exact lists xs ys h1 h2 h
    · exact h.elim
  cases d <;> simp only [gAdd] at h
  case int i =>
    cases e <;> simp only [] at h <;> try exact h.elim
    · exact .inr (.inl ⟨i, _, rp_int r1, rp_bl r2, h.ret s rp_i⟩)
    · exact .inl ⟨i, _, rp_int r1, rp_int r2, h.ret s rp_i⟩
  case str a =>
    cases e <;> simp only [] at h <;> try exact h.elim
    split at h
    · rename_i hl; exact .inr (.inr (.inl ⟨a, _, rp_str r1, rp_str r2, hl, h.ret s rp_s⟩))
    · exact h.elim
  case tup xs =>
    cases e <;> simp only [] at h <;> try exact h.elim
    rename_i ys
    refine .inr (.inr (.inr (.inr ?_)))
    have r1' := r1
    have r2' := r2
    unfold Rp at r1' r2'
    obtain ⟨a, vs, e1, t1, q1⟩ := r1'
    obtain ⟨b, us, e2, t2, q2⟩ := r2'
    have q := q1.append q2
    have z := mkTup_at s q h
    have l : (vs ++ us).length = vs.length + us.length := List.length_append
    refine ⟨a, b, vs, us, e1, e2, t1.sq, t2.sq, by rw [← l]; exact z.1, fun ev => ?_, fun _ eu => ?_, fun _ _ => z.2⟩
    · subst ev
      have : xs = [] := q1.nil_iff.mpr rfl
      subst this
      unfold mkTup at h
      split at h
      · exact h.ret s (show Rp K mg w H _ _ by unfold Rp; exact ⟨b, us, rfl, t2, q2⟩)
      · exact h.elim
    · subst eu
      have : ys = [] := q2.nil_iff.mpr rfl
      subst this
      unfold mkTup at h
      split at h
      · exact h.ret s (show Rp K mg w H _ _ by unfold Rp; exact ⟨a, vs, rfl, t1, by rw [List.append_nil]; exact q1⟩)
      · exact h.elim
  all_goals exact .inr (.inr (.inr (.inl (lists' h))))
theorem sub_v : OpV K mg (rI0 fun i j => .int (i - j)) gSub := by
  intro w S H x y d e Q E s r1 r2 h
  cases d <;> cases e <;> simp only [gSub] at h <;> try exact h.elim
  exact ⟨_, _, rp_int r1, rp_int r2, h.ret s rp_i⟩
theorem repS_fold : ∀ (k : Nat) (b a : Array Nat), ((List.replicate k a).foldl (· ++ ·) b).size = b.size + a.size * k
  | 0, b, a => by simp
  | k + 1, b, a => by rw [List.replicate_succ, List.foldl_cons, repS_fold k, Array.size_append, Nat.mul_succ]; omega
theorem repS_length (a : Str) (n : Int) : (repS a n).length ≤ a.length * n.toNat := by
  unfold repS
  by_cases h : n < 1
  · rw [if_pos h]; exact Nat.zero_le _
  · rw [if_neg h]
    have h1 : 1 ≤ n.toNat := by omega
    split
    · exact Nat.le_mul_of_pos_right _ h1
    · show ((List.replicate n.toNat a.cps).foldl (· ++ ·) #[]).size ≤ _
      rw [repS_fold]; show 0 + a.cps.size * _ ≤ _; rw [Nat.zero_add]; exact Nat.le_refl _
def rRepS : R2 := fun x y H Q => ∃ a j, x = .str a ∧ y = .int j ∧ a.length * j.toNat ≤ 16777216 ∧ a.length ≤ 1000 ∧ -(2 ^ 63) ≤ j ∧ j ≤ 100000 ∧ Q (.str (repS a j)) H
theorem op_repS {X : Cx} : OpR X (binaryOp .Mult) rRepS := by
  intro pins s σ H x y v u Q I rx ry h
  obtain ⟨a, j, rfl, rfl, h1, h2, h3, h4, q⟩ := h
  obtain ⟨t, rfl⟩ := rx
  obtain ⟨t2, rfl⟩ := ry
  have hz : a.length * j.toNat ≤ sizeLine := by rw [sizeLine_eq]; exact h1
  have n1 : ¬ j < -(2 ^ 63 : Int) := by omega
  have n2 : ¬ j ≥ (2 ^ 63 : Int) := by omega
  refine PySem.P.mul_str (by rw [decide_eq_false n1, decide_eq_false n2]; rfl) (fun g _ z => ?_) (fun _ _ => ?_) ?_
  · have g1 : (92233720368547 : Int) ≤ (2 ^ 63 - 1) / j := by
      rw [Int.le_ediv_iff_mul_le (by omega)]
      omega
    have : (a.length : Int) ≤ 1000 := by omega
    omega
  · unfold Builtin.Str.tooLong
    exact decide_eq_false (by omega)
  · have hl := repS_length a j
    unfold repS at q hl
    by_cases c : j < 1
    · rw [if_pos c] at q ⊢
      exact ⟨Nat.zero_le _, .str _, H, I.tok _, ⟨_, rfl⟩, q⟩
    · rw [if_neg c] at q hl ⊢
      by_cases c2 : (j == 1 || a.length == 0) = true
      · rw [if_pos c2] at q ⊢
        exact ⟨.str a, H, I, ⟨t, rfl⟩, q⟩
      · rw [if_neg c2] at q hl ⊢
        exact ⟨Nat.le_trans hl hz, .str _, H, I.tok _, ⟨_, rfl⟩, q⟩
def rMulU : R2 := fun x y H Q => rI CMul (fun i j => .int (i * j)) x y H Q ∨ rI CMulW (fun i j => .int (i * j)) x y H Q ∨ rRep x y H Q ∨ rRepS x y H Q
theorem op_mulU {X : Cx} : OpR X (binaryOp .Mult) rMulU := op_mul.or (op_mulW.or (op_rep.or op_repS))
theorem RpL.rep {w : Wd} {H : Hp} {xs : List D} {vs : List V} (h : RpL K mg w H xs vs) : ∀ n : Nat, RpL K mg w H (List.replicate n xs).flatten (List.replicate n vs).flatten
  | 0 => RpL.nil
  | n + 1 => by rw [List.replicate_succ, List.replicate_succ, List.flatten_cons, List.flatten_cons]; exact h.append (RpL.rep h n)
theorem mulU_v {c : Bool} : OpV K mg rMulU (gMul c) := by
  intro w S H x y d e Q E s r1 r2 h
  cases e <;> simp only [gMul] at h <;> try exact h.elim
  rename_i j
  have lists : End K mg (fun w H => Rp K mg w H) w H (match seqM S d with
      | some xs => if xs.length * j.toNat ≤ sizeLine ∧ -(2 ^ 63) ≤ j ∧ j < 2 ^ 63 then (if c then mkCel (List.replicate j.toNat xs).flatten S else mkLst (List.replicate j.toNat xs).flatten S) else .no
      | none => .no) Q E → rRep x y H Q := fun h => by
    split at h
    · rename_i xs h1
      split at h
      · rename_i hl
        obtain ⟨a, vs, e1, t1, q1⟩ := seqM_at s r1 h1
        refine ⟨a, j, vs, e1, rp_int r2, t1, hl.2.1, hl.2.2, by rw [← q1.length]; exact hl.1, ?_⟩
        cases c
        · exact (mkLst_at s (q1.rep j.toNat) h).2
        · exact (mkCel_at s (q1.rep j.toNat) h).2
      · exact h.elim
    · exact h.elim
  cases d <;> simp only [] at h
  case int i =>
    split at h
    · rename_i hc
      rcases hc with hc | hc
      · exact .inl ⟨i, j, rp_int r1, rp_int r2, hc, h.ret s rp_i⟩
      · exact .inr (.inl ⟨i, j, rp_int r1, rp_int r2, hc, h.ret s rp_i⟩)
    · exact h.elim
  case str a =>
    split at h
    · rename_i hc
      exact .inr (.inr (.inr ⟨a, j, rp_str r1, rp_int r2, hc.1, hc.2.1, hc.2.2.1, hc.2.2.2, h.ret s rp_s⟩))
    · exact h.elim
  all_goals exact .inr (.inr (.inl (lists h)))
theorem mod_v : OpV K mg (rI (fun _ j => 0 < j) fun i j => .int (i % j)) gMod := by
  intro w S H x y d e Q E s r1 r2 h
  cases d <;> cases e <;> simp only [gMod] at h <;> try exact h.elim
  split at h
  · rename_i hc; exact ⟨_, _, rp_int r1, rp_int r2, hc, h.ret s rp_i⟩
  · exact h.elim
theorem div_v : OpV K mg (rI CDivW fun i j => .int (i / j)) gDiv := by
  intro w S H x y d e Q E s r1 r2 h
  cases d <;> cases e <;> simp only [gDiv] at h <;> try exact h.elim
  split at h
  · rename_i hc; exact ⟨_, _, rp_int r1, rp_int r2, hc, h.ret s rp_i⟩
  · exact h.elim
theorem pow_v : OpV K mg (rI CPow fun i j => .int (i ^ j.toNat)) gPow := by
  intro w S H x y d e Q E s r1 r2 h
  cases d <;> cases e <;> simp only [gPow] at h <;> try exact h.elim
  split at h
  · rename_i hc; exact ⟨_, _, rp_int r1, rp_int r2, hc, h.ret s rp_i⟩
  · exact h.elim
end

/-! ### comparisons -/
def gCmp (p : Int → Int → Bool) (x y : D) (S : Store) : RE D := match x, y with
  | .int i, .int j => .ok (.bl (p i j)) S
  | _, _ => .no
def okPy (d e : PyData) : Bool := d.canLay0 && e.canLay0 && decide (min d.depth e.depth ≤ 200)
/-- a row of anything beside an empty one -/
def eqE (S : Store) (x y : D) : Option Bool := match y with
  | .lst [] => (seqL S x).map (·.isEmpty)
  | .tup [] => (match x with
    | .tup ds => some ds.isEmpty
    | _ => none)
  | .tup [.str b] => (match x with
    | .tup (.str a :: r) => some (a == b && r.isEmpty)
    | _ => none)
  | .str b => (match x with
    | .str a => some (a == b)
    | _ => none)
  | _ => none
def gEq (x y : D) (S : Store) : RE D := match eqE S x y with
  | some b => .ok (.bl b) S
  | none => (match pyS S x, pyS S y with
    | some d, some e => if okPy d e then .ok (.bl (PyData.eqv d e)) S else .no
    | _, _ => .no)
def gNe (x y : D) (S : Store) : RE D := match eqE S x y with
  | some b => .ok (.bl (!b)) S
  | none => (match pyS S x, pyS S y with
    | some d, some e => if okPy d e then .ok (.bl (!PyData.eqv d e)) S else .no
    | _, _ => .no)
def rEqS (K : PySem.W.Frag) (neg : Bool) : R2 := fun x y H Q => (∃ za zb : Str, x = .str za ∧ y = .str zb ∧ Q (.bl (if neg then !(za == zb) else za == zb)) H) ∨ ∃ a b xs, ∃ za zb : Str, x = .ref a ∧ y = .ref b ∧ SqT K H a (.str za :: xs) ∧ SqT K H b [.str zb] ∧ Q (.bl (if neg then !(za == zb && xs.isEmpty) else (za == zb && xs.isEmpty))) H
def rEqE (K : PySem.W.Frag) (neg : Bool) : R2 := fun x y H Q => rEqS K neg x y H Q ∨ ∃ a b xs, x = .ref a ∧ y = .ref b ∧ ((SqL K H a xs ∧ SqL K H b []) ∨ (SqT K H a xs ∧ SqT K H b [])) ∧ Q (.bl (if neg then !xs.isEmpty else xs.isEmpty)) H
def rEqP (K : PySem.W.Frag) : R2 := fun x y H Q => ∃ d e, Dp K H x d ∧ Dp K H y e ∧ okPy d e = true ∧ Q (.bl (PyData.eqv d e)) H
def rNeP (K : PySem.W.Frag) : R2 := fun x y H Q => ∃ d e, Dp K H x d ∧ Dp K H y e ∧ okPy d e = true ∧ Q (.bl (!PyData.eqv d e)) H
theorem okPy_iff {d e : PyData} (h : okPy d e = true) : d.canLay0 = true ∧ e.canLay0 = true ∧ min d.depth e.depth ≤ 200 := by
  unfold okPy at h
  simp only [Bool.and_eq_true, decide_eq_true_eq] at h
  exact ⟨h.1.1, h.1.2, h.2⟩
section
variable {X : Cx}
theorem op_eqP (hu : X.A.units + 200 < cLine) : OpR X (compareOp .Eq) (rEqP X.K) := by
  intro pins s σ H x y v u Q I rx ry h
  obtain ⟨d, e, hd, he, hk, q⟩ := h
  obtain ⟨k1, k2, k3⟩ := okPy_iff hk
  obtain ⟨as, r1⟩ := Dp.reads I d x v hd rx
  obtain ⟨bs, r2⟩ := Dp.reads I e y u he ry
  exact SeqAt.compareEq_reads r1 r2 k1 k2 (by omega) ⟨.bl _, H, I, rfl, q⟩
theorem op_neP (hu : X.A.units + 200 < cLine) : OpR X (compareOp .NotEq) (rNeP X.K) := by
  intro pins s σ H x y v u Q I rx ry h
  obtain ⟨d, e, hd, he, hk, q⟩ := h
  obtain ⟨k1, k2, k3⟩ := okPy_iff hk
  obtain ⟨as, r1⟩ := Dp.reads I d x v hd rx
  obtain ⟨bs, r2⟩ := Dp.reads I e y u he ry
  exact SeqAt.compareNe_reads r1 r2 k1 k2 (by omega) ⟨.bl _, H, I, rfl, q⟩
theorem one_beside {pins : List (Addr × Obj)} {σ : L2.St} {H : Hp} {s : Shared} {a b : Addr} {xs : List V} {za zb : Str} (I : Inv X pins σ H s) (h1 : SqT X.K H a (.str za :: xs)) (h2 : SqT X.K H b [.str zb]) :
    ∃ its its2 : List Value, IsTup s.heap a its.toArray ∧ IsTup s.heap b its2.toArray ∧ its.length = xs.length + 1 ∧ its2.length = 1 ∧ ∀ j (k1 : j < its.toArray.size) (k2 : j < its2.toArray.size), SeqAt.EqAt X.A.in1 s its.toArray[j] its2.toArray[j] ((fun _ => za == zb) j) := by
  obtain ⟨its, rv, t1, _⟩ := I.tuple h1
  obtain ⟨its2, rv2, t2, _⟩ := I.tuple h2
  cases rv with
  | cons r1 rt =>
    cases rv2 with
    | cons r2 rt2 =>
      cases rt2
      obtain ⟨u1, rfl⟩ := r1
      obtain ⟨u2, rfl⟩ := r2
      refine ⟨_, _, t1, t2, by simp [rt.length], rfl, fun j k1 k2 => ?_⟩
      have : j = 0 := by simp at k2; omega
      subst this
      exact SeqAt.EqAt.str_str za u1 zb u2
theorem one_val {α : Type} {xs : List α} {its its2 : List Value} {b : Bool} (l1 : its.length = xs.length + 1) (l2 : its2.length = 1) : ((List.range (min its.toArray.size its2.toArray.size)).all (fun _ => b) && its.toArray.size == its2.toArray.size) = (b && xs.isEmpty) := by
  rw [List.size_toArray, List.size_toArray, l1, l2]
  have : min (xs.length + 1) 1 = 1 := by omega
  rw [this]
  cases xs <;> simp [List.range, List.range.loop]
theorem op_eqE (hu : X.A.units + 200 < cLine) : OpR X (compareOp .Eq) (rEqE X.K false) := by
  intro pins s σ H x y v u Q I rx ry h
  rcases h with (⟨za, zb, rfl, rfl, q⟩ | ⟨a, b, xs, za, zb, rfl, rfl, h1, h2, q⟩) | h
  · obtain ⟨t1, rfl⟩ := rx
    obtain ⟨t2, rfl⟩ := ry
    exact PySem.P.eq_str ⟨.bl _, H, I, congrArg Value.bool (SeqAt.str_beq za zb), q⟩
  · cases rx; cases ry
    obtain ⟨its, its2, t1, t2, l1, l2, he⟩ := one_beside I h1 h2
    refine SeqAt.eq_tupleAt (e := fun _ => za == zb) t1 t2 (by omega) he ⟨.bl _, H, I, ?_, q⟩
    rw [one_val (xs := xs) l1 l2]; rfl
  obtain ⟨a, b, xs, rfl, rfl, hab, q⟩ := h
  cases rx; cases ry
  have hu' : X.A.units < cLine := by omega
  rcases hab with ⟨h1, h2⟩ | ⟨h1, h2⟩
  · obtain ⟨its, rv, t1, _⟩ := I.list h1
    obtain ⟨its2, rv2, t2, _⟩ := I.list h2
    have l1 := rv.length
    have l2 := rv2.length
    cases xs with
    | nil => exact SeqAt.eq_listAt (e := fun _ => true) t1.isList t2.isList (by rw [List.size_toArray, List.size_toArray]; omega) hu' (fun j k1 k2 => by rw [List.size_toArray, ← l1] at k1; exact absurd k1 (Nat.not_lt_zero _)) ⟨.bl _, H, I, by rw [List.all_eq_true.mpr (fun _ _ => rfl)]; rfl, q⟩
    | cons z r => exact SeqAt.eq_list_lengthsAt t1.isList t2.isList (by rw [List.size_toArray, List.size_toArray, ← l1, ← l2]; rfl) hu' ⟨.bl _, H, I, rfl, q⟩
  · obtain ⟨its, rv, t1, _⟩ := I.tuple h1
    obtain ⟨its2, rv2, t2, _⟩ := I.tuple h2
    have l1 := rv.length
    have l2 : its2.length = 0 := by have := rv2.length; simpa using this.symm
    refine SeqAt.eq_tupleAt (e := fun _ => true) t1 t2 hu' (fun j k1 k2 => by rw [List.size_toArray, l2] at k2; exact absurd k2 (Nat.not_lt_zero _)) ⟨.bl _, H, I, ?_, q⟩
    rw [List.all_eq_true.mpr (fun _ _ => rfl), List.size_toArray, List.size_toArray, l2, ← l1]
    cases xs <;> rfl
theorem op_neE (hu : X.A.units + 200 < cLine) : OpR X (compareOp .NotEq) (rEqE X.K true) := by
  intro pins s σ H x y v u Q I rx ry h
  rcases h with (⟨za, zb, rfl, rfl, q⟩ | ⟨a, b, xs, za, zb, rfl, rfl, h1, h2, q⟩) | h
  · obtain ⟨t1, rfl⟩ := rx
    obtain ⟨t2, rfl⟩ := ry
    exact PySem.P.ne_str ⟨.bl _, H, I, congrArg (fun b => Value.bool (!b)) (SeqAt.str_beq za zb), q⟩
  · cases rx; cases ry
    obtain ⟨its, its2, t1, t2, l1, l2, he⟩ := one_beside I h1 h2
    refine SeqAt.RcNeAt.tuples (e := fun _ => za == zb) t1 t2 (by omega) he _ _ _ _ ⟨.bl _, H, I, ?_, q⟩
    rw [one_val (xs := xs) l1 l2]; rfl
  obtain ⟨a, b, xs, rfl, rfl, hab, q⟩ := h
  cases rx; cases ry
  have hu' : X.A.units < cLine := by omega
  rcases hab with ⟨h1, h2⟩ | ⟨h1, h2⟩
  · obtain ⟨its, rv, t1, _⟩ := I.list h1
    obtain ⟨its2, rv2, t2, _⟩ := I.list h2
    have l1 := rv.length
    have l2 := rv2.length
    cases xs with
    | nil => exact SeqAt.RcNeAt.lists (e := fun _ => true) t1.isList t2.isList (by rw [List.size_toArray, List.size_toArray]; omega) hu' (fun j k1 k2 => by rw [List.size_toArray, ← l1] at k1; exact absurd k1 (Nat.not_lt_zero _)) _ _ _ _ ⟨.bl _, H, I, by rw [List.all_eq_true.mpr (fun _ _ => rfl)]; rfl, q⟩
    | cons z r => exact SeqAt.RcNeAt.lists_lengths t1.isList t2.isList (by rw [List.size_toArray, List.size_toArray, ← l1, ← l2]; rfl) hu' _ _ _ _ ⟨.bl _, H, I, rfl, q⟩
  · obtain ⟨its, rv, t1, _⟩ := I.tuple h1
    obtain ⟨its2, rv2, t2, _⟩ := I.tuple h2
    have l1 := rv.length
    have l2 : its2.length = 0 := by have := rv2.length; simpa using this.symm
    refine SeqAt.RcNeAt.tuples (e := fun _ => true) t1 t2 hu' (fun j k1 k2 => by rw [List.size_toArray, l2] at k2; exact absurd k2 (Nat.not_lt_zero _)) _ _ _ _ ⟨.bl _, H, I, ?_, q⟩
    rw [List.all_eq_true.mpr (fun _ _ => rfl), List.size_toArray, List.size_toArray, l2, ← l1]
    cases xs <;> rfl
def rEqU (K : PySem.W.Frag) : R2 := fun x y H Q => rEqE K false x y H Q ∨ rEqP K x y H Q
def rNeU (K : PySem.W.Frag) : R2 := fun x y H Q => rEqE K true x y H Q ∨ rNeP K x y H Q
theorem op_eqU (hu : X.A.units + 200 < cLine) : OpR X (compareOp .Eq) (rEqU X.K) := (op_eqE hu).or (op_eqP hu)
theorem op_neU (hu : X.A.units + 200 < cLine) : OpR X (compareOp .NotEq) (rNeU X.K) := (op_neE hu).or (op_neP hu)
/-- x in ys, a list or a tuple of data -/
def rInP (K : PySem.W.Frag) (neg : Bool) : R2 := fun x y H Q => ∃ d ds, Dp K H x d ∧ (Dp K H y (.list ds) ∨ Dp K H y (.tuple ds)) ∧ d.canLay0 = true ∧ PyData.canLayAll0 ds = true ∧ min (PyData.depthAll ds) d.depth ≤ 190 ∧ Q (.bl (if neg then !ds.any fun z => PyData.eqv z d else ds.any fun z => PyData.eqv z d)) H
theorem op_inP (hu : X.A.units + 200 < cLine) : OpR X (compareOp .In) (rInP X.K false) := by
  intro pins s σ H x y v u Q I rx ry h
  obtain ⟨d, ds, hd, he, k1, k2, k3, q⟩ := h
  obtain ⟨as, r1⟩ := Dp.reads I d x v hd rx
  rcases he with he | he
  · obtain ⟨bs, r2⟩ := Dp.reads I (.list ds) y u he ry
    exact SeqAt.in_list_reads r2 r1 k2 k1 (by omega) ⟨.bl _, H, I, rfl, q⟩
  · obtain ⟨bs, r2⟩ := Dp.reads I (.tuple ds) y u he ry
    exact SeqAt.in_tuple_reads r2 r1 k2 k1 (by omega) ⟨.bl _, H, I, rfl, q⟩
theorem op_notInP (hu : X.A.units + 200 < cLine) : OpR X (compareOp .NotIn) (rInP X.K true) := by
  intro pins s σ H x y v u Q I rx ry h
  obtain ⟨d, ds, hd, he, k1, k2, k3, q⟩ := h
  obtain ⟨as, r1⟩ := Dp.reads I d x v hd rx
  rcases he with he | he
  · obtain ⟨bs, r2⟩ := Dp.reads I (.list ds) y u he ry
    exact SeqAt.notIn_list_reads r2 r1 k2 k1 (by omega) ⟨.bl _, H, I, rfl, q⟩
  · obtain ⟨bs, r2⟩ := Dp.reads I (.tuple ds) y u he ry
    exact SeqAt.notIn_tuple_reads r2 r1 k2 k1 (by omega) ⟨.bl _, H, I, rfl, q⟩
end
/-- in, not in: a list, a tuple, a text -/
def gIn (neg : Bool) (x y : D) (S : Store) : RE D := match pyS S y with
  | some (.str b) => (match x with
    | .str a => .ok (.bl (if neg then !(!(Builtin.Str.occurrences b a 0 b.length 1).isEmpty) else !(Builtin.Str.occurrences b a 0 b.length 1).isEmpty)) S
    | _ => .no)
  | some (.list ds) => (match pyS S x with
    | some d => if d.canLay0 && PyData.canLayAll0 ds && decide (min (PyData.depthAll ds) d.depth ≤ 190) then .ok (.bl (if neg then !ds.any fun z => PyData.eqv z d else ds.any fun z => PyData.eqv z d)) S else .no
    | _ => .no)
  | some (.tuple ds) => (match pyS S x with
    | some d => if d.canLay0 && PyData.canLayAll0 ds && decide (min (PyData.depthAll ds) d.depth ≤ 190) then .ok (.bl (if neg then !ds.any fun z => PyData.eqv z d else ds.any fun z => PyData.eqv z d)) S else .no
    | _ => .no)
  | _ => .no
def rInU (K : PySem.W.Frag) (neg : Bool) : R2 := fun x y H Q => (∃ i j, x = .str i ∧ y = .str j ∧ Q (.bl (if neg then !(!(Builtin.Str.occurrences j i 0 j.length 1).isEmpty) else !(Builtin.Str.occurrences j i 0 j.length 1).isEmpty)) H) ∨ rInP K neg x y H Q
section
variable {X : Cx}
theorem op_inU (hu : X.A.units + 200 < cLine) : OpR X (compareOp .In) (rInU X.K false) := op_in_str.or (op_inP hu)
theorem op_notInU (hu : X.A.units + 200 < cLine) : OpR X (compareOp .NotIn) (rInU X.K true) := op_notin_str.or (op_notInP hu)
variable {K : PySem.W.Frag} {mg : Str → Option Value}
theorem eqE_at {neg : Bool} {w : Wd} {S : Store} {H : Hp} {x y : V} {d e : D} {b : Bool} {Q : VK} (s : Sto K mg w S H) (r1 : Rp K mg w H d x) (r2 : Rp K mg w H e y) (h : eqE S d e = some b) (q : Q (.bl (if neg then !b else b)) H) : rEqE K neg x y H Q := by
  unfold eqE at h
  split at h
  · obtain ⟨ds, h1, h2⟩ := Option.map_eq_some_iff.mp h
    obtain ⟨a, vs, e1, t1, q1⟩ := seqL_at s r1 h1
    obtain ⟨a2, vs2, e2, t2, q2⟩ := seqL_at s r2 (show seqL S (.lst []) = some [] from rfl)
    unfold RpL at q2
    subst q2
    have : vs.isEmpty = ds.isEmpty := by have := q1.length; cases vs <;> cases ds <;> simp_all
    exact .inr ⟨a, a2, vs, e1, e2, .inl ⟨t1, t2⟩, by rw [this, h2]; exact q⟩
  · split at h
    · rename_i ds
      cases h
      obtain ⟨a, vs, e1, t1, q1⟩ := tup_at r1
      obtain ⟨a2, vs2, e2, t2, q2⟩ := tup_at r2
      unfold RpL at q2
      subst q2
      have : vs.isEmpty = ds.isEmpty := by have := q1.length; cases vs <;> cases ds <;> simp_all
      exact .inr ⟨a, a2, vs, e1, e2, .inr ⟨t1, t2⟩, by rw [this]; exact q⟩
    · cases h
  · split at h
    · rename_i zb _ za ds
      cases h
      obtain ⟨a, vs, e1, t1, q1⟩ := tup_at r1
      obtain ⟨a2, vs2, e2, t2, q2⟩ := tup_at r2
      obtain ⟨v2, rfl, q3⟩ := q2.one_inv
      unfold RpL at q1
      obtain ⟨v1, vt, rfl, q4, q5⟩ := q1
      rw [rp_str q3] at t2
      rw [rp_str q4] at t1
      have : vt.isEmpty = ds.isEmpty := by have := q5.length; cases vt <;> cases ds <;> simp_all
      exact .inl (.inr ⟨a, a2, vt, za, zb, e1, e2, t1, t2, by rw [this]; exact q⟩)
    · cases h
  · split at h
    · cases h
      exact .inl (.inl ⟨_, _, rp_str r1, rp_str r2, q⟩)
    · cases h
  · cases h
theorem eqP_v : OpV K mg (rEqU K) gEq := by
  intro w S H x y d e Q E s r1 r2 h
  unfold gEq at h
  split at h
  · rename_i b hb; exact .inl (eqE_at (neg := false) s r1 r2 hb (h.ret s rp_b))
  · split at h
    · rename_i p q h1 h2
      split at h
      · rename_i hk; exact .inr ⟨p, q, pyS_at s d x p r1 h1, pyS_at s e y q r2 h2, hk, h.ret s rp_b⟩
      · exact h.elim
    · exact h.elim
theorem neP_v : OpV K mg (rNeU K) gNe := by
  intro w S H x y d e Q E s r1 r2 h
  unfold gNe at h
  split at h
  · rename_i b hb; exact .inl (eqE_at (neg := true) s r1 r2 hb (h.ret s rp_b))
  · split at h
    · rename_i p q h1 h2
      split at h
      · rename_i hk; exact .inr ⟨p, q, pyS_at s d x p r1 h1, pyS_at s e y q r2 h2, hk, h.ret s rp_b⟩
      · exact h.elim
    · exact h.elim
theorem inU_v {neg : Bool} : OpV K mg (rInU K neg) (gIn neg) := by
  intro w S H x y d e Q E s r1 r2 h
  unfold gIn at h
  split at h
  · rename_i b h1
    split at h
    · rename_i a
      have ye := pyS_at s e y _ r2 h1
      cases ye
      exact .inl ⟨_, _, rp_str r1, rfl, h.ret s rp_b⟩
    · exact h.elim
  · rename_i ds h1
    split at h
    · rename_i p h2
      split at h
      · rename_i hk
        simp only [Bool.and_eq_true, decide_eq_true_eq] at hk
        exact .inr ⟨p, ds, pyS_at s d x p r1 h2, .inl (pyS_at s e y _ r2 h1), hk.1.1, hk.1.2, hk.2, h.ret s rp_b⟩
      · exact h.elim
    · exact h.elim
  · rename_i ds h1
    split at h
    · rename_i p h2
      split at h
      · rename_i hk
        simp only [Bool.and_eq_true, decide_eq_true_eq] at hk
        exact .inr ⟨p, ds, pyS_at s d x p r1 h2, .inr (pyS_at s e y _ r2 h1), hk.1.1, hk.1.2, hk.2, h.ret s rp_b⟩
      · exact h.elim
    · exact h.elim
  · exact h.elim
theorem cmp_v (p : Int → Int → Bool) : OpV K mg (rI0 fun i j => .bl (p i j)) (gCmp p) := by
  intro w S H x y d e Q E s r1 r2 h
  cases d <;> cases e <;> simp only [gCmp] at h <;> try exact h.elim
  exact ⟨_, _, rp_int r1, rp_int r2, h.ret s rp_b⟩
end
/-- whether it is None -/
def isNon (S : Store) : D → Option Bool
  | .non => some true
  | .loc n => (cellOf S n).map fun _ => false
  | _ => some false
/-- is None, is True -/
def gIs (neg : Bool) (x y : D) (S : Store) : RE D := match y with
  | .non => (match isNon S x with
    | some k => .ok (.bl (xor neg k)) S
    | none => .no)
  | .bl b => (match x with
    | .bl a => .ok (.bl (xor neg (decide (a = b)))) S
    | _ => .no)
  | _ => .no
def rIsU (neg : Bool) : R2 := fun x y H Q => (y = .non ∧ Q (.bl (xor neg (decide (x = .non)))) H) ∨ (∃ a b : Bool, x = .bl a ∧ y = .bl b ∧ Q (.bl (xor neg (decide (a = b)))) H)
section
variable {X : Cx}
theorem op_isU : OpR X (compareOp .Is) (rIsU false) := by
  have h := (op_isN (X := X)).or (op_isBl (X := X))
  intro pins s σ H x y v u Q I rx ry q
  refine h pins s σ H x y v u Q I rx ry ?_
  rcases q with ⟨a, b⟩ | ⟨a, b, c, d, e⟩
  · exact .inl ⟨a, by simpa using b⟩
  · exact .inr ⟨a, b, c, d, by simpa using e⟩
theorem op_isNotU : OpR X (compareOp .IsNot) (rIsU true) := by
  have h := (op_notN (X := X)).or (op_notBl (X := X))
  intro pins s σ H x y v u Q I rx ry q
  refine h pins s σ H x y v u Q I rx ry ?_
  rcases q with ⟨a, b⟩ | ⟨a, b, c, d, e⟩
  · exact .inl ⟨a, by simpa using b⟩
  · exact .inr ⟨a, b, c, d, by simpa using e⟩
variable {K : PySem.W.Frag} {mg : Str → Option Value}
theorem isNon_at {w : Wd} {S : Store} {H : Hp} {x : V} {d : D} {k : Bool} (s : Sto K mg w S H) (r1 : Rp K mg w H d x) (h : isNon S d = some k) : decide (x = V.non) = k := by
  cases d with
  | loc n =>
    simp only [isNon, Option.map_eq_some_iff] at h
    obtain ⟨ds, h1, h2⟩ := h
    obtain ⟨a, xs, e, t, q⟩ := seqL_at (S := S) (d := .loc n) s r1 h1
    rw [e, ← h2]; rfl
  | non => simp only [isNon] at h; cases h; rw [rp_non r1]; rfl
  | bl b => simp only [isNon] at h; cases h; rw [rp_bl r1]; rfl
  | int b => simp only [isNon] at h; cases h; rw [rp_int r1]; rfl
  | str b => simp only [isNon] at h; cases h; rw [rp_str r1]; rfl
  | tup ds => simp only [isNon] at h; cases h; unfold Rp at r1; obtain ⟨a, xs, e, _⟩ := r1; rw [e]; rfl
  | lst ds => simp only [isNon] at h; cases h; unfold Rp at r1; obtain ⟨a, xs, e, _⟩ := r1; rw [e]; rfl
  | dic ks ds => simp only [isNon] at h; cases h; unfold Rp at r1; obtain ⟨a, vs, e, _⟩ := r1; rw [e]; rfl
  | ins c fs ds => simp only [isNon] at h; cases h; unfold Rp at r1; obtain ⟨a, C, dx, vs, e, _⟩ := r1; rw [e]; rfl
  | glo n => simp only [isNon] at h; cases h; unfold Rp at r1; obtain ⟨a, e, _⟩ := r1; rw [e]; rfl
  | exn n => simp only [isNon] at h; cases h; unfold Rp at r1; rw [r1]; rfl
  | fls ds => simp only [isNon] at h; cases h; unfold Rp at r1; obtain ⟨a, xs, e, _⟩ := r1; rw [e]; rfl
  | exo c ns ds => simp only [isNon] at h; cases h; unfold Rp at r1; obtain ⟨a, C, od, vs, e, _⟩ := r1; rw [e]; rfl
theorem isU_v {neg : Bool} : OpV K mg (rIsU neg) (gIs neg) := by
  intro w S H x y d e Q E s r1 r2 h
  cases e <;> simp only [gIs] at h <;> try exact h.elim
  · split at h
    · rename_i k hk
      refine .inl ⟨rp_non r2, ?_⟩
      rw [isNon_at s r1 hk]
      exact h.ret s rp_b
    · exact h.elim
  · cases d <;> simp only [] at h <;> try exact h.elim
    exact .inr ⟨_, _, rp_bl r1, rp_bl r2, h.ret s rp_b⟩
end
end Kw

/-! Kw4: subscripts, slices, built-ins, methods of lists, isinstance. -/
namespace Kw
open PySem PySem.Spec PyProof.Rows L2

/-! ### subscripts -/
section
variable {K : PySem.W.Frag} {mg : Str → Option Value} {w : Wd} {H : Hp} {S : Store}
theorem RpL.atI {ds : List D} {xs : List V} {i : Int} {d : D} (r : RpL K mg w H ds xs) (h : L2.atI ds i = some d) : ∃ v, L2.atI xs i = some v ∧ Rp K mg w H d v := by
  unfold L2.atI at h ⊢
  rw [← r.length]
  cases e : ixN ds.length i with
  | none => rw [e] at h; cases h
  | some j =>
    rw [e] at h
    exact r.get h
end
def gIx (x y : D) (S : Store) : RE D := match y with
  | .int i => (match x with
    | .str z => if z.length ≤ sizeLine then (match L2.atI z.cps.toList i with
      | some c => .ok (.str ⟨#[c]⟩) S
      | none => .no) else .no
    | x => (match seqA S x with
      | some ds => (match L2.atI ds i with
        | some d => .ok d S
        | none => .no)
      | none => .no))
  | _ => .no
section
variable {K : PySem.W.Frag} {mg : Str → Option Value}
theorem ix_v : OpV K mg (rIx K) gIx := by
  intro w S H x y d e Q E s r1 r2 h
  cases e <;> simp only [gIx] at h <;> try exact h.elim
  rename_i i
  have seqs : End K mg (fun w H => Rp K mg w H) w H (match seqA S d with
      | some ds => (match L2.atI ds i with
        | some d => .ok d S
        | none => .no)
      | none => .no) Q E → rIx K x y H Q := fun h => by
    split at h
    · rename_i ds h1
      split at h
      · rename_i d' h2
        obtain ⟨a, xs, e1, t1, q1⟩ := seqA_at s r1 h1
        obtain ⟨v, h3, h4⟩ := q1.atI h2
        rcases t1 with t1 | t1
        · exact .inl ⟨a, xs, i, v, e1, rp_int r2, t1, h3, h.ret s h4⟩
        · exact .inr (.inl ⟨a, xs, i, v, e1, rp_int r2, t1, h3, h.ret s h4⟩)
      · exact h.elim
    · exact h.elim
  cases d <;> simp only [] at h
  case str z =>
    split at h
    · rename_i hl
      split at h
      · rename_i c hc
        exact .inr (.inr ⟨z, i, c, rp_str r1, rp_int r2, hl, hc, h.ret s rp_s⟩)
      · exact h.elim
    · exact h.elim
  all_goals exact seqs h
end
section
variable {X : Cx} {W : WX} {a b e : Expr} {es : List Expr} {fa fb : FE} {fs : FA} {pos : Pos}
theorem q_ix (ha : PE X a (tF X W fa)) (hb : PE X b (tF X W fb)) (hs : PlainIx b := by intro _ _; rfl) : PE X (.Subscript a b pos) (tF X W (f2 gIx fa fb)) := PE.wk (pe_ix ix_seq ha hb hs) fun σ H Q h => two ix_v h
end
/-! ### slices -/
abbrev FO := FEnv → Store → RE (Option Int)
def tO (X : Cx) (W : WX) (f : FO) : TO := fun σ H Q => ∃ w ρ S, Sto X.K X.mg w S H ∧ EnvR X.K X.mg w H ρ σ ∧ End X.K X.mg (fun _ _ (a b : Option Int) => b = a) w H (f ρ S) Q (fun c od H' => W c od σ H')
def fNone : FO := fun _ S => .ok none S
def fSome (f : FE) : FO := fun ρ S => (f ρ S).bnd fun x S1 => match x with
  | .int i => .ok (some i) S1
  | _ => .no
def cutL {α : Type} (xs : List α) (lo hi : Option Int) : List α := (xs.drop (HT.sIx xs.length 0 lo)).take (HT.sIx xs.length xs.length hi - HT.sIx xs.length 0 lo)
/-- c: the slice of a list is a cell -/
def gSl (c : Bool) (x : D) (lo hi : Option Int) (S : Store) : RE D := match x with
  | .str z => if z.length ≤ sizeLine then .ok (.str (cutS z lo hi)) S else .no
  | .tup ds => .ok (.tup (cutL ds lo hi)) S
  | x => (match seqL S x with
    | some ds => if c then .ok (.loc S.length) (S ++ [.lst (cutL ds lo hi)]) else .ok (.lst (cutL ds lo hi)) S
    | none => .no)
def fSl (g : D → Option Int → Option Int → Store → RE D) (a : FE) (l u : FO) : FE := fun ρ S => (a ρ S).bnd fun x S1 => (l ρ S1).bnd fun lo S2 => (u ρ S2).bnd fun hi S3 => g x lo hi S3
def rSlU (K : PySem.W.Frag) : V → Option Int → Option Int → Hp → VK → Prop := fun x lo hi H Q => rSlL K x lo hi H Q ∨ rSlA K x lo hi H Q ∨ rSlS x lo hi H Q
theorem sl_U {X : Cx} : SlR X (rSlU X.K) := sl_list.or (sl_tupA.or sl_str)
section
variable {K : PySem.W.Frag} {mg : Str → Option Value} {w : Wd} {H : Hp} {S : Store} {Q : VK} {E : Value → Option Addr → Hp → Prop}
theorem RpL.cut {ds : List D} {xs : List V} (r : RpL K mg w H ds xs) (lo hi : Option Int) : RpL K mg w H (cutL ds lo hi) (cutV xs lo hi) := by
  unfold cutL cutV
  rw [← r.length]
  exact (r.drop _).take _
theorem newLst {ds : List D} {xs : List V} {p : Addr} (s : Sto K mg w S H) (r : RpL K mg w H ds xs) (np : H p = none) (h : End K mg (fun w H => Rp K mg w H) w H (.ok (.lst ds) S) Q E) : Q (.ref p) (upd H p (.lst xs)) := by
  refine h w _ _ (Ext.new np) (s.beside np) ?_
  show Rp _ _ _ _ _ _
  unfold Rp
  exact ⟨p, xs, rfl, upd_same, s.new np, RpL.ext (Ext.new np) _ _ r⟩
theorem newTup {ds : List D} {xs : List V} {p : Addr} (s : Sto K mg w S H) (r : RpL K mg w H ds xs) (np : H p = none) (h : End K mg (fun w H => Rp K mg w H) w H (.ok (.tup ds) S) Q E) : Q (.ref p) (upd H p (.tup xs)) := by
  refine h w _ _ (Ext.new np) (s.beside np) ?_
  show Rp _ _ _ _ _ _
  unfold Rp
  exact ⟨p, xs, rfl, .inl ⟨upd_same, s.new np⟩, RpL.ext (Ext.new np) _ _ r⟩
theorem newCel {ds : List D} {xs : List V} {p : Addr} (s : Sto K mg w S H) (r : RpL K mg w H ds xs) (np : H p = none) (h : End K mg (fun w H => Rp K mg w H) w H (.ok (.loc S.length) (S ++ [.lst ds])) Q E) : Q (.ref p) (upd H p (.lst xs)) := by
  refine h _ _ _ (Ext.cell np) (s.cellNew np r) ?_
  show Rp _ _ _ _ _ _
  unfold Rp
  refine ⟨by show S.length < (w.φ ++ [some p]).length; rw [List.length_append, s.len]; exact Nat.lt_succ_self _, fun a ha => ?_⟩
  have ha' : (w.φ ++ [some p])[S.length]? = some (some a) := ha
  rw [← s.len, List.getElem?_append_right (Nat.le_refl _), Nat.sub_self] at ha'
  simp at ha'; rw [ha']
theorem slU_v {c : Bool} {x : V} {d : D} {lo hi : Option Int} (s : Sto K mg w S H) (r1 : Rp K mg w H d x) (h : End K mg (fun w H => Rp K mg w H) w H (gSl c d lo hi S) Q E) : rSlU K x lo hi H Q := by
  have lists : End K mg (fun w H => Rp K mg w H) w H (match seqL S d with
      | some ds => if c then .ok (.loc S.length) (S ++ [.lst (cutL ds lo hi)]) else .ok (.lst (cutL ds lo hi)) S
      | none => .no) Q E → rSlL K x lo hi H Q := fun h => by
    split at h
    · rename_i ds h1
      obtain ⟨a, xs, e1, t1, q1⟩ := seqL_at s r1 h1
      refine ⟨a, xs, e1, t1, fun p np => ?_⟩
      cases c
      · exact newLst s (q1.cut lo hi) np h
      · exact newCel s (q1.cut lo hi) np h
    · exact h.elim
  cases d <;> simp only [gSl] at h
  case str z =>
    split at h
    · rename_i hl; exact .inr (.inr ⟨z, rp_str r1, hl, h.ret s rp_s⟩)
    · exact h.elim
  case tup ds =>
    have r1' := r1
    unfold Rp at r1'
    obtain ⟨a, xs, e1, t1, q1⟩ := r1'
    refine .inr (.inl ⟨a, xs, e1, t1.sq, fun ⟨z1, z2⟩ => ?_, fun _ p np => newTup s (q1.cut lo hi) np h⟩)
    have e2 : cutL ds lo hi = ds := by
      unfold cutL
      rw [q1.length, z1, z2, List.drop_zero, ← q1.length]
      exact List.take_of_length_le (by omega)
    rw [e2] at h
    exact h.ret s (by rw [← e1]; exact r1)
  all_goals exact .inl (lists h)
end
section
variable {X : Cx} {W : WX} {a b e : Expr} {es : List Expr} {fa fb : FE} {fs : FA} {pos : Pos}
theorem q_none : PO X none (tO X W fNone) := ⟨fun pins s σ H Q I ⟨w, ρ, S, st, en, h⟩ => po_none.run pins s σ H Q I (h.ret st rfl)⟩
theorem q_some (h : PE X e (tF X W fa)) : PO X (some e) (tO X W (fSome fa)) := ⟨fun pins s σ H Q I ⟨w, ρ, S, st, en, hh⟩ => (po_some h).run pins s σ H Q I (by
  refine ⟨w, ρ, S, st, en, (End.bind (R := fun w H => Rp X.K X.mg w H) hh).imp ?_ (fun _ _ _ z => z)⟩
  rintro x H1 ⟨w1, S1, d, e1, s1, r1, h1⟩
  cases d <;> try exact h1.elim
  exact ⟨_, rp_int r1, h1.ret s1 rfl⟩)⟩
theorem q_slice {c : Bool} {lo hi : Option Expr} {fl fu : FO} {p2 : Pos} (he : PE X e (tF X W fa)) (hl : PO X lo (tO X W fl)) (hu : PO X hi (tO X W fu)) : PE X (.Subscript e (.Slice lo hi none p2) pos) (tF X W (fSl (gSl c) fa fl fu)) :=
  PE.wk (pe_slice sl_U he hl hu) fun σ H Q ⟨w, ρ, S, s, en, h⟩ => by
    refine ⟨w, ρ, S, s, en, (End.bind h).imp ?_ (fun _ _ _ z => z)⟩
    rintro x H1 ⟨w1, S1, d, e1, s1, r1, h1⟩
    refine ⟨w1, ρ, S1, s1, en.ext e1, (End.bind h1).imp ?_ (fun _ _ _ z => z)⟩
    rintro l H2 ⟨w2, S2, l', e2, s2, r2, h2⟩
    cases r2
    refine ⟨w2, ρ, S2, s2, (en.ext e1).ext e2, (End.bind h2).imp ?_ (fun _ _ _ z => z)⟩
    rintro u H3 ⟨w3, S3, u', e3, s3, r3, h3⟩
    cases r3
    exact slU_v s3 (Rp.ext e3 _ _ (Rp.ext e2 _ _ r1)) h3
end

/-! ### built-ins -/
def gLen : List D → Store → RE D := fun ds S => match ds with
  | [.str z] => if z.length ≤ sizeLine then .ok (.int z.length) S else .no
  | [d] => (match seqA S d with
    | some xs => .ok (.int xs.length) S
    | none => .no)
  | _ => .no
def gInt : List D → Store → RE D := fun ds S => match ds with
  | [.int i] => .ok (.int i) S
  | [.bl k] => .ok (.int (if k then 1 else 0)) S
  | _ => .no
def gList (c : Bool) : List D → Store → RE D := fun ds S => match ds with
  | [d] => (match seqA S d with
    | some xs => if c then .ok (.loc S.length) (S ++ [.lst xs]) else .ok (.lst xs) S
    | none => .no)
  | _ => .no
def gTuple : List D → Store → RE D := fun ds S => match ds with
  | [d] => (match seqA S d with
    | some xs => .ok (.tup xs) S
    | none => .no)
  | _ => .no
def blsOf : List D → Option (List Bool)
  | [] => some []
  | .bl b :: r => (blsOf r).map (b :: ·)
  | _ => none
def intsOf : List D → Option (List Int)
  | [] => some []
  | .int b :: r => (intsOf r).map (b :: ·)
  | _ => none
def gAll : List D → Store → RE D := fun ds S => match ds with
  | [d] => (match (seqL S d).bind blsOf with
    | some bs => .ok (.bl (bs.all id)) S
    | none => .no)
  | _ => .no
def gAny : List D → Store → RE D := fun ds S => match ds with
  | [d] => (match (seqL S d).bind blsOf with
    | some bs => .ok (.bl (bs.any id)) S
    | none => .no)
  | _ => .no
def gSum : List D → Store → RE D := fun ds S => match ds with
  | [d] => (match (seqL S d).bind intsOf with
    | some bs => .ok (.int bs.sum) S
    | none => .no)
  | _ => .no
def gMax : List D → Store → RE D := fun ds S => match ds with
  | [.int i, .int j] => .ok (.int (if j > i then j else i)) S
  | _ => .no
def gMin : List D → Store → RE D := fun ds S => match ds with
  | [.int i, .int j] => .ok (.int (if j < i then j else i)) S
  | _ => .no
section
variable {K : PySem.W.Frag} {mg : Str → Option Value}
theorem len_v : CallV K mg (fun xs H Q => ∃ x n, xs = [x] ∧ LenV K x H n ∧ Q (.int n) H) gLen := by
  intro w S H xs ds Q E s r h
  unfold gLen at h
  split at h
  · rename_i z
    split at h
    · rename_i hl
      obtain ⟨v, rfl, r1⟩ := r.one_inv
      exact ⟨v, z.length, rfl, by rw [rp_str r1]; exact ⟨hl, rfl⟩, h.ret s rp_i⟩
    · exact h.elim
  · rename_i d _
    split at h
    · rename_i ys h1
      obtain ⟨v, rfl, r1⟩ := r.one_inv
      obtain ⟨a, vs, e1, t1, q1⟩ := seqA_at s r1 h1
      refine ⟨v, ys.length, rfl, ?_, h.ret s rp_i⟩
      rw [e1, q1.length]
      rcases t1 with t1 | t1
      · exact .inl ⟨vs, t1, rfl⟩
      · exact .inr ⟨vs, t1, rfl⟩
    · exact h.elim
  · exact h.elim
theorem int_v : CallV K mg (fun xs H Q => (∃ i, xs = [.int i] ∧ Q (.int i) H) ∨ ∃ k, xs = [.bl k] ∧ Q (.int (if k then 1 else 0)) H) gInt := by
  intro w S H xs ds Q E s r h
  unfold gInt at h
  split at h
  · obtain ⟨v, rfl, r1⟩ := r.one_inv
    exact .inl ⟨_, by rw [rp_int r1], h.ret s rp_i⟩
  · obtain ⟨v, rfl, r1⟩ := r.one_inv
    exact .inr ⟨_, by rw [rp_bl r1], h.ret s rp_i⟩
  · exact h.elim
theorem list_v {c : Bool} : CallV K mg (fun xs H Q => ∃ p ys, xs = [.ref p] ∧ (SqL K H p ys ∨ SqT K H p ys) ∧ ∀ l, H l = none → Q (.ref l) (upd H l (.lst ys))) (gList c) := by
  intro w S H xs ds Q E s r h
  unfold gList at h
  split at h
  · split at h
    · rename_i ys h1
      obtain ⟨v, rfl, r1⟩ := r.one_inv
      obtain ⟨a, vs, e1, t1, q1⟩ := seqA_at s r1 h1
      refine ⟨a, vs, by rw [e1], t1, fun p np => ?_⟩
      cases c
      · exact newLst s q1 np h
      · exact newCel s q1 np h
    · exact h.elim
  · exact h.elim
theorem tuple_v : CallV K mg (fun xs H Q => ∃ p ys, xs = [.ref p] ∧ ((SqL K H p ys ∧ ∀ l, H l = none → Q (.ref l) (upd H l (.tup ys))) ∨ (SqT K H p ys ∧ Q (.ref p) H))) gTuple := by
  intro w S H xs ds Q E s r h
  unfold gTuple at h
  split at h
  · rename_i d
    split at h
    · rename_i ys h1
      obtain ⟨v, rfl, r1⟩ := r.one_inv
      cases d <;> simp only [seqA] at h1 <;> try (cases h1; done)
      · cases h1
        obtain ⟨a, vs, e1, t1, q1⟩ := tup_at r1
        exact ⟨a, vs, by rw [e1], .inr ⟨t1, h.ret s (by rw [← e1]; exact r1)⟩⟩
      · cases h1
        obtain ⟨a, vs, e1, t1, q1⟩ := seqL_at (S := S) s r1 rfl
        exact ⟨a, vs, by rw [e1], .inl ⟨t1, fun p np => newTup s q1 np h⟩⟩
      · rename_i n
        obtain ⟨a, vs, e1, t1, q1⟩ := seqL_at (S := S) (d := .loc n) s r1 h1
        exact ⟨a, vs, by rw [e1], .inl ⟨t1, fun p np => newTup s q1 np h⟩⟩
      · rename_i ds'
        cases h1
        obtain ⟨a, vs, e1, t1, q1⟩ := seqL_at (S := S) (d := .fls ys) s r1 rfl
        exact ⟨a, vs, by rw [e1], .inl ⟨t1, fun p np => newTup s q1 np h⟩⟩
    · exact h.elim
  · exact h.elim
theorem blsOf_at {w : Wd} {H : Hp} : ∀ {ds : List D} {vs : List V} {bs : List Bool}, RpL K mg w H ds vs → blsOf ds = some bs → vs = bs.map V.bl
  | [], vs, bs, r, h => by unfold RpL at r; simp only [blsOf] at h; cases h; rw [r]; rfl
  | d :: ds, vs, bs, r, h => by
    unfold RpL at r
    obtain ⟨v, vs', e, r1, r2⟩ := r
    cases d <;> simp only [blsOf] at h <;> try (cases h; done)
    simp only [Option.map_eq_some_iff] at h
    obtain ⟨b', h1, h2⟩ := h
    rw [e, ← h2, rp_bl r1, blsOf_at r2 h1]; rfl
theorem intsOf_at {w : Wd} {H : Hp} : ∀ {ds : List D} {vs : List V} {bs : List Int}, RpL K mg w H ds vs → intsOf ds = some bs → vs = bs.map V.int
  | [], vs, bs, r, h => by unfold RpL at r; simp only [intsOf] at h; cases h; rw [r]; rfl
  | d :: ds, vs, bs, r, h => by
    unfold RpL at r
    obtain ⟨v, vs', e, r1, r2⟩ := r
    cases d <;> simp only [intsOf] at h <;> try (cases h; done)
    simp only [Option.map_eq_some_iff] at h
    obtain ⟨b', h1, h2⟩ := h
    rw [e, ← h2, rp_int r1, intsOf_at r2 h1]; rfl
theorem all_v : CallV K mg (rAll K) gAll := by
  intro w S H xs ds Q E s r h
  unfold gAll at h
  split at h
  · split at h
    · rename_i bs h1
      obtain ⟨v, rfl, r1⟩ := r.one_inv
      simp only [Option.bind_eq_some_iff] at h1
      obtain ⟨ys, h2, h3⟩ := h1
      obtain ⟨a, vs, e1, t1, q1⟩ := seqL_at s r1 h2
      exact ⟨a, bs, by rw [e1], by rw [← blsOf_at q1 h3]; exact t1, h.ret s rp_b⟩
    · exact h.elim
  · exact h.elim
theorem any_v : CallV K mg (rAny K) gAny := by
  intro w S H xs ds Q E s r h
  unfold gAny at h
  split at h
  · split at h
    · rename_i bs h1
      obtain ⟨v, rfl, r1⟩ := r.one_inv
      simp only [Option.bind_eq_some_iff] at h1
      obtain ⟨ys, h2, h3⟩ := h1
      obtain ⟨a, vs, e1, t1, q1⟩ := seqL_at s r1 h2
      exact ⟨a, bs, by rw [e1], by rw [← blsOf_at q1 h3]; exact t1, h.ret s rp_b⟩
    · exact h.elim
  · exact h.elim
theorem sum_v : CallV K mg (rSum K) gSum := by
  intro w S H xs ds Q E s r h
  unfold gSum at h
  split at h
  · split at h
    · rename_i bs h1
      obtain ⟨v, rfl, r1⟩ := r.one_inv
      simp only [Option.bind_eq_some_iff] at h1
      obtain ⟨ys, h2, h3⟩ := h1
      obtain ⟨a, vs, e1, t1, q1⟩ := seqL_at s r1 h2
      exact ⟨a, bs, by rw [e1], by rw [← intsOf_at q1 h3]; exact t1, h.ret s rp_i⟩
    · exact h.elim
  · exact h.elim
theorem RpL.two_inv {w : Wd} {H : Hp} {d e : D} {vs : List V} (h : RpL K mg w H [d, e] vs) : ∃ v u, vs = [v, u] ∧ Rp K mg w H d v ∧ Rp K mg w H e u := by
  unfold RpL at h
  obtain ⟨v, r, e1, h1, h2⟩ := h
  obtain ⟨u, rfl, h3⟩ := h2.one_inv
  exact ⟨v, u, e1, h1, h3⟩
theorem max_v : CallV K mg (fun xs H Q => ∃ i j, xs = [.int i, .int j] ∧ Q (.int (if j > i then j else i)) H) gMax := by
  intro w S H xs ds Q E s r h
  unfold gMax at h
  split at h
  · obtain ⟨v, u, rfl, r1, r2⟩ := r.two_inv
    exact ⟨_, _, by rw [rp_int r1, rp_int r2], h.ret s rp_i⟩
  · exact h.elim
theorem min_v : CallV K mg (fun xs H Q => ∃ i j, xs = [.int i, .int j] ∧ Q (.int (if j < i then j else i)) H) gMin := by
  intro w S H xs ds Q E s r h
  unfold gMin at h
  split at h
  · obtain ⟨v, u, rfl, r1, r2⟩ := r.two_inv
    exact ⟨_, _, by rw [rp_int r1, rp_int r2], h.ret s rp_i⟩
  · exact h.elim
end

/-! ### isinstance with a built-in type -/
def tyD (S : Store) : D → Option String
  | .non => some "NoneType"
  | .bl _ => some "bool"
  | .int _ => some "int"
  | .str _ => some "str"
  | .tup _ => some "tuple"
  | .lst _ => some "list"
  | .fls _ => some "list"
  | .dic _ _ => some "dict"
  | .loc n => (cellOf S n).map fun _ => "list"
  | _ => none
def isiB (t T : String) : Bool := t == T || (t == "bool" && T == "int")
def fIsi (T : String) (f : FE) : FE := fun ρ S => (f ρ S).bnd fun x S1 => match tyD S1 x with
  | some t => .ok (.bl (isiB t T)) S1
  | none => .no
theorem tyX_of {K : PySem.W.Frag} {mg : Str → Option Value} {w : Wd} {H : Hp} {S : Store} {d : D} {v : V} {t : String} (s : Sto K mg w S H) (r : Rp K mg w H d v) (h : tyD S d = some t) : TyX K H v (.type t) := by
  cases d with
  | non => simp only [tyD] at h; cases h; rw [rp_non r]; exact .base .non
  | bl b => simp only [tyD] at h; cases h; rw [rp_bl r]; exact .base (.bl b)
  | int b => simp only [tyD] at h; cases h; rw [rp_int r]; exact .base (.int b)
  | str b => simp only [tyD] at h; cases h; rw [rp_str r]; exact .base (.str b)
  | tup ds =>
    simp only [tyD] at h; cases h
    unfold Rp at r
    obtain ⟨a, xs, e, t, _⟩ := r
    rw [e]
    rcases t with t | ⟨o, its, n, h1, h2, _⟩
    · exact .base (.tup t.1)
    · exact .kTuple h1 h2
  | lst ds =>
    simp only [tyD] at h; cases h
    unfold Rp at r
    obtain ⟨a, xs, e, t, _⟩ := r
    rw [e]; exact .base (.lst t)
  | dic ks ds =>
    simp only [tyD] at h; cases h
    unfold Rp at r
    obtain ⟨a, xs, e, t, _⟩ := r
    rw [e]; exact .base (.dK t)
  | loc n =>
    simp only [tyD, Option.map_eq_some_iff] at h
    obtain ⟨ds, h1, h2⟩ := h
    obtain ⟨a, xs, h3, h4, h5⟩ := cellOf_at s h1
    unfold Rp at r
    rw [r.2 a h3, ← h2]
    rcases h4 with h4 | ⟨o, h4⟩
    · exact .base (.lst h4)
    · exact .base (.frz h4)
  | fls ds =>
    simp only [tyD] at h; cases h
    unfold Rp at r
    obtain ⟨a, xs, e, t, _⟩ := r
    rw [e]
    rcases t with ⟨o, t, _⟩ | ⟨o, its, n, h1, h2, _⟩
    · exact .base (.frz t)
    · exact .kList h1 h2
  | ins _ _ _ => simp [tyD] at h
  | glo _ => simp [tyD] at h
  | exn _ => simp [tyD] at h
  | exo _ _ _ => simp [tyD] at h
theorem kitB_ok {t T : String} (ht : t ∈ ["NoneType", "bool", "int", "str", "tuple", "list", "dict"]) (hT : T ∈ ["bool", "int", "str", "tuple", "list", "dict"]) : kitB t T = some (isiB t T) := by
  have key : ∀ t ∈ ["NoneType", "bool", "int", "str", "tuple", "list", "dict"], ∀ T ∈ ["bool", "int", "str", "tuple", "list", "dict"], kitB t T = some (isiB t T) := by decide +kernel
  exact key t ht T hT
theorem tyD_mem {S : Store} {d : D} {t : String} (h : tyD S d = some t) : t ∈ ["NoneType", "bool", "int", "str", "tuple", "list", "dict"] := by
  cases d <;> simp only [tyD, Option.map_eq_some_iff] at h <;> first | (cases h; decide) | (obtain ⟨_, _, rfl⟩ := h; decide) | (cases h)
section
variable {X : Cx} {W : WX} {a b e : Expr} {es : List Expr} {fa fb : FE} {fs : FA} {pos : Pos}
theorem q_isi {T : String} {x : Str} {p q : Pos} (hg : Gl X "isinstance") (hm : X.mg "isinstance" = none) (hgT : Gl X x) (hmT : X.mg x = none) (hvT : bootBuiltins x = some (.type T)) (hT : T ∈ ["bool", "int", "str", "tuple", "list", "dict"]) (ha : PE X a (tF X W fa))
    (hn : x ≠ "__name__" := by decide) (hd : (x == ("__debug__" : Str)) = false := by decide)
    (h1 : starEach [a, .Name x q] X.env = (false, eval a X.env) :: starEach [.Name x q] X.env := by rfl) (h2 : starEach [.Name x q] X.env = (false, eval (.Name x q) X.env) :: starEach [] X.env := by rfl) (hpl : (backTo pos (starEach [.Name x q] X.env)).any (·.1) = false := by rfl) :
    PE X (.Call (.Name "isinstance" p) [a, .Name x q] [] pos) (tF X W (fIsi T fa)) := by
  have hx : PE X (.Name x q) (tC (.ty T)) := pe_bltn hgT hmT hvT rfl hn hd
  refine PE.wk (pe_callB call_isi hg hm (by decide +kernel) (pa_cons ha (pa_cons hx pa_nil h2) h1) (by decide) (by decide) h1 hpl) fun σ H Q ⟨w, ρ, S, s, en, h⟩ => ?_
  refine ⟨w, ρ, S, s, en, (End.bind (R := fun w H => Rp X.K X.mg w H) h).imp ?_ (fun _ _ _ z => z)⟩
  rintro v H1 ⟨w1, S1, d, e1, s1, r1, h3⟩
  split at h3
  · rename_i t ht
    exact ⟨v, .ty T, .type t, .type T, isiB t T, rfl, .ty T, tyX_of s1 r1 ht, kit_ty (kitB_ok (tyD_mem ht) hT), h3.ret s1 rp_b⟩
  · exact h3.elim
end

/-! ### methods of lists -/
section
variable {K : PySem.W.Frag} {mg : Str → Option Value} {w : Wd} {H : Hp} {S : Store}
theorem Ext.write {n : Nat} {l : Addr} {o : HO} (hw : w.φ[n]? = some (some l)) : Ext w H w (upd H l o) := ⟨fun a u e n => by
  have : a ≠ l := fun z => by subst z; exact n (List.mem_of_getElem? hw)
  rw [upd_ne this]; exact e, Nat.le_refl _, fun _ _ h _ => h, fun _ h => .inl h, rfl⟩
theorem Sto.write {n : Nat} {l : Addr} {ds : List D} {xs : List V} (s : Sto K mg w S H) (hw : w.φ[n]? = some (some l)) (hn : n < S.length) (r : RpL K mg w H ds xs) : Sto K mg w (S.set n (.lst ds)) (upd H l (.lst xs)) := by
  have ex : Ext w H w (upd H l (.lst xs)) := Ext.write hw
  refine ⟨by rw [List.length_set]; exact s.len, s.nd, fun a ha => ⟨upd_some (s.ap a ha).1, (s.ap a ha).2⟩, fun m c hc => ?_⟩
  by_cases e : m = n
  · subst e
    rw [List.getElem?_set_self hn] at hc
    cases hc
    exact ⟨l, xs, hw, upd_same, RpL.ext ex _ _ r⟩
  · rw [List.getElem?_set_ne (Ne.symm e)] at hc
    refine CellR.ext ex (fun a ha => ⟨ha, ?_⟩) id (s.cell m c hc)
    have : a ≠ l := fun z => by subst z; exact e (s.nd m n a ha hw)
    rw [upd_ne this]
theorem cellM_lt {n : Nat} {ds : List D} (h : cellM S n = some ds) : n < S.length := by
  unfold cellM at h
  split at h
  · rename_i e he; exact (List.getElem?_eq_some_iff.mp he).1
  · cases h
/-- a cell is written -/
theorem wrote {n : Nat} {ds ds' : List D} {xs' : List V} {x : V} {Q : VK} {E : Value → Option Addr → Hp → Prop} {d : D} {v : V} (s : Sto K mg w S H) (r : Rp K mg w H (.loc n) x) (h : cellM S n = some ds) (r' : RpL K mg w H ds' xs') (rv : Rp K mg w H d v)
    (he : End K mg (fun w H => Rp K mg w H) w H (.ok d (S.set n (.lst ds'))) Q E) : ∀ l, x = .ref l → Q v (upd H l (.lst xs')) := fun l el => by
  obtain ⟨a, xs, h1, h2, h3⟩ := cellM_at s h
  have e := r.2 a h1
  rw [el] at e; cases e
  exact he w _ v (Ext.write h1) (s.write h1 (cellM_lt h) r') (Rp.ext (Ext.write h1) _ _ rv)
end
def MtV (K : PySem.W.Frag) (mg : Str → Option Value) (r : V → List V → Hp → VK → Prop) (g : D → List D → Store → RE D) : Prop :=
  ∀ (w : Wd) (S : Store) (H : Hp) (x : V) (xs : List V) (d : D) (ds : List D) (Q : VK) (E : Value → Option Addr → Hp → Prop), Sto K mg w S H → Rp K mg w H d x → RpL K mg w H ds xs → End K mg (fun w H => Rp K mg w H) w H (g d ds S) Q E → r x xs H Q
def gAppend (x : D) (ds : List D) (S : Store) : RE D := match x, ds with
  | .loc n, [y] => (match cellM S n with
    | some xs => if xs.length < sizeLine then .ok .non (S.set n (.lst (xs ++ [y]))) else .no
    | none => .no)
  | _, _ => .no
def gExtend (x : D) (ds : List D) (S : Store) : RE D := match x, ds with
  | .loc n, [y] => (match cellM S n, seqM S y with
    | some xs, some ys => if xs.length + ys.length ≤ sizeLine then .ok .non (S.set n (.lst (xs ++ ys))) else .no
    | _, _ => .no)
  | _, _ => .no
def gPop0 (x : D) (ds : List D) (S : Store) : RE D := match x, ds with
  | .loc n, [] => (match cellM S n with
    | some xs => (match xs[xs.length - 1]? with
      | some y => .ok y (S.set n (.lst xs.dropLast))
      | none => .no)
    | none => .no)
  | _, _ => .no
def gPop1 (x : D) (ds : List D) (S : Store) : RE D := match x, ds with
  | .loc n, [.int i] => (match cellM S n with
    | some xs => if -(2 ^ 63) ≤ i ∧ i < 2 ^ 63 then (match seqIndex? i xs.length with
      | some k => (match xs[k]? with
        | some y => .ok y (S.set n (.lst (xs.eraseIdx k)))
        | none => .no)
      | none => .no) else .no
    | none => .no)
  | _, _ => .no
def gRev (x : D) (ds : List D) (S : Store) : RE D := match x, ds with
  | .loc n, [] => (match cellM S n with
    | some xs => .ok .non (S.set n (.lst xs.reverse))
    | none => .no)
  | _, _ => .no
def gClear (x : D) (ds : List D) (S : Store) : RE D := match x, ds with
  | .loc n, [] => (match cellM S n with
    | some xs => .ok .non (S.set n (.lst []))
    | none => .no)
  | _, _ => .no
section
variable {K : PySem.W.Frag} {mg : Str → Option Value}
theorem RpL.dropLast {w : Wd} {H : Hp} {ds : List D} {xs : List V} (r : RpL K mg w H ds xs) : RpL K mg w H ds.dropLast xs.dropLast := by
  rw [List.dropLast_eq_take, List.dropLast_eq_take, r.length]; exact r.take _
theorem RpL.erase {w : Wd} {H : Hp} : ∀ {ds : List D} {xs : List V} (k : Nat), RpL K mg w H ds xs → RpL K mg w H (ds.eraseIdx k) (xs.eraseIdx k)
  | [], xs, k, h => by unfold RpL at h; rw [h]; simp; unfold RpL; rfl
  | d :: ds, xs, 0, h => by
    unfold RpL at h
    obtain ⟨v, r, e1, h1, h2⟩ := h
    rw [e1]; exact h2
  | d :: ds, xs, k + 1, h => by
    unfold RpL at h
    obtain ⟨v, r, e1, h1, h2⟩ := h
    rw [e1, List.eraseIdx_cons_succ, List.eraseIdx_cons_succ]
    exact RpL.cons h1 (RpL.erase k h2)
theorem RpL.reverse {w : Wd} {H : Hp} : ∀ {ds : List D} {xs : List V}, RpL K mg w H ds xs → RpL K mg w H ds.reverse xs.reverse
  | [], xs, h => by unfold RpL at h; rw [h]; exact RpL.nil
  | d :: ds, xs, h => by
    unfold RpL at h
    obtain ⟨v, r, e1, h1, h2⟩ := h
    rw [e1, List.reverse_cons, List.reverse_cons]
    exact (RpL.reverse h2).append (RpL.one h1)
theorem append_v : MtV K mg rAppend gAppend := by
  intro w S H x xs d ds Q E s r1 r2 h
  unfold gAppend at h
  split at h
  · rename_i n y
    split at h
    · rename_i zs hz
      split at h
      · rename_i hl
        obtain ⟨v, rfl, r3⟩ := r2.one_inv
        obtain ⟨l, vs, e1, t1, q1⟩ := seqM_at (S := S) (d := .loc n) s r1 hz
        exact ⟨l, vs, v, e1, rfl, t1, by rw [← q1.length]; exact hl, wrote s r1 hz (q1.append (RpL.one r3)) rp_n h l e1⟩
      · exact h.elim
    · exact h.elim
  · exact h.elim
theorem extend_v : MtV K mg rExtend gExtend := by
  intro w S H x xs d ds Q E s r1 r2 h
  unfold gExtend at h
  split at h
  · rename_i n y
    split at h
    · rename_i zs ys hz hy
      split at h
      · rename_i hl
        obtain ⟨v, rfl, r3⟩ := r2.one_inv
        obtain ⟨l, vs, e1, t1, q1⟩ := seqM_at (S := S) (d := .loc n) s r1 hz
        obtain ⟨b, us, e2, t2, q2⟩ := seqM_at s r3 hy
        exact ⟨l, b, vs, us, e1, by rw [e2], t1, t2, by rw [← q1.length, ← q2.length]; exact hl, wrote s r1 hz (q1.append q2) rp_n h l e1⟩
      · exact h.elim
    · exact h.elim
  · exact h.elim
theorem pop0_v : MtV K mg rPop gPop0 := by
  intro w S H x xs d ds Q E s r1 r2 h
  unfold gPop0 at h
  split at h
  · rename_i n
    split at h
    · rename_i zs hz
      split at h
      · rename_i y hy
        obtain ⟨l, vs, e1, t1, q1⟩ := seqM_at (S := S) (d := .loc n) s r1 hz
        obtain ⟨u, h3, h4⟩ := q1.get hy
        unfold RpL at r2
        exact ⟨l, vs, u, e1, r2, t1, by rw [← q1.length]; exact h3, wrote s r1 hz q1.dropLast h4 h l e1⟩
      · exact h.elim
    · exact h.elim
  · exact h.elim
theorem pop1_v : MtV K mg rPopAt gPop1 := by
  intro w S H x xs d ds Q E s r1 r2 h
  unfold gPop1 at h
  split at h
  · rename_i n i
    split at h
    · rename_i zs hz
      split at h
      · rename_i hb
        split at h
        · rename_i k hk
          split at h
          · rename_i y hy
            obtain ⟨v, rfl, r3⟩ := r2.one_inv
            obtain ⟨l, vs, e1, t1, q1⟩ := seqM_at (S := S) (d := .loc n) s r1 hz
            obtain ⟨u, h3, h4⟩ := q1.get hy
            exact ⟨l, vs, i, k, u, e1, by rw [rp_int r3], t1, hb.1, hb.2, by rw [← q1.length]; exact hk, h3, wrote s r1 hz (q1.erase k) h4 h l e1⟩
          · exact h.elim
        · exact h.elim
      · exact h.elim
    · exact h.elim
  · exact h.elim
theorem rev_v : MtV K mg rReverse gRev := by
  intro w S H x xs d ds Q E s r1 r2 h
  unfold gRev at h
  split at h
  · rename_i n
    split at h
    · rename_i zs hz
      obtain ⟨l, vs, e1, t1, q1⟩ := seqM_at (S := S) (d := .loc n) s r1 hz
      unfold RpL at r2
      exact ⟨l, vs, e1, r2, t1, wrote s r1 hz q1.reverse rp_n h l e1⟩
    · exact h.elim
  · exact h.elim
theorem clear_v : MtV K mg rClear gClear := by
  intro w S H x xs d ds Q E s r1 r2 h
  unfold gClear at h
  split at h
  · rename_i n
    split at h
    · rename_i zs hz
      obtain ⟨l, vs, e1, t1, q1⟩ := seqM_at (S := S) (d := .loc n) s r1 hz
      unfold RpL at r2
      exact ⟨l, vs, e1, r2, t1, wrote s r1 hz RpL.nil rp_n h l e1⟩
    · exact h.elim
  · exact h.elim
end
/-- o.m(..), o a list -/
def fMth (g : D → List D → Store → RE D) (o : FE) (a : FA) : FE := fun ρ S => (o ρ S).bnd fun x S1 => match seqL S1 x with
  | some _ => (a ρ S1).bnd fun ds S2 => g x ds S2
  | none => .no
section
variable {X : Cx} {W : WX} {o e : Expr} {es : List Expr} {fo : FE} {fs : FA} {name : Str} {apos cpos : Pos} {id : String} {r : V → List V → Hp → VK → Prop} {g : D → List D → Store → RE D}
theorem q_mth (slot : Slot "list" name id) (hty : typeOf (.builtin id) = pure (.type "method_descriptor")) (hm : MtR X id r) (hv : MtV X.K X.mg r g) (ho : PE X o (tF X W fo)) (ha : PA X (e :: es) (tA X W fs))
    (hbase : attributeBase o name X.env (eval o X.env) = eval o X.env := by rfl)
    (hfew : ((backTo cpos (starEach (e :: es) X.env)).all (fun x => !x.1) && (backToKw cpos (keywordEach [] X.env)).all (fun x => x.1.isSome)
      && decide ((e :: es).length + ([] : List Keyword).length + (if ([] : List Keyword).isEmpty then 0 else 1) < 30)) = true := by rfl)
    (hline : (apos.endLine == cpos.line) = true := by rfl) (hs : starEach (e :: es) X.env = (false, eval e X.env) :: starEach es X.env := by rfl) (hplain : (backTo cpos (starEach es X.env)).any (·.1) = false := by rfl) :
    PE X (.Call (.Attribute o name apos) (e :: es) [] cpos) (tF X W (fMth g fo fs)) :=
  PE.wk (pe_bm PySem.F.plainAttrs_list slot hty hm ho ha hbase hfew hline hs hplain) fun σ H Q ⟨w, ρ, S, s, en, h⟩ => by
    refine ⟨w, ρ, S, s, en, (End.bind (R := fun w H => Rp X.K X.mg w H) h).imp ?_ (fun _ _ _ z => z)⟩
    rintro x H1 ⟨w1, S1, d, e1, s1, r1, h1⟩
    split at h1
    · rename_i ys hy
      obtain ⟨a, vs, e2, t2, q2⟩ := seqL_at s1 r1 hy
      refine ⟨by rw [e2]; exact .inl ⟨rfl, vs, t2⟩, w1, ρ, S1, s1, en.ext e1, (End.bind (R := fun w H => RpL X.K X.mg w H) h1).imp ?_ (fun _ _ _ z => z)⟩
      rintro us H2 ⟨w2, S2, ds, e3, s2, r2, h2⟩
      exact hv w2 S2 H2 x us d ds Q _ s2 (Rp.ext e3 _ _ r1) r2 h2
    · exact h1.elim
theorem q_mth0 (slot : Slot "list" name id) (hty : typeOf (.builtin id) = pure (.type "method_descriptor")) (hm : MtR X id r) (hv : MtV X.K X.mg r g) (ho : PE X o (tF X W fo))
    (hbase : attributeBase o name X.env (eval o X.env) = eval o X.env := by rfl) (hline : (apos.endLine == cpos.line) = true := by rfl) :
    PE X (.Call (.Attribute o name apos) [] [] cpos) (tF X W (fMth g fo fNil)) :=
  PE.wk (pe_bm0 PySem.F.plainAttrs_list slot hty hm ho hbase hline) fun σ H Q ⟨w, ρ, S, s, en, h⟩ => by
    refine ⟨w, ρ, S, s, en, (End.bind (R := fun w H => Rp X.K X.mg w H) h).imp ?_ (fun _ _ _ z => z)⟩
    rintro x H1 ⟨w1, S1, d, e1, s1, r1, h1⟩
    split at h1
    · rename_i ys hy
      obtain ⟨a, vs, e2, t2, q2⟩ := seqL_at s1 r1 hy
      exact ⟨by rw [e2]; exact .inl ⟨rfl, vs, t2⟩, hv w1 S1 H1 x [] d [] Q _ s1 r1 RpL.nil h1⟩
    · exact h1.elim
end
end Kw

/-! Kw5: calls of the text's own defs, statements, a def by its body. -/
namespace Kw
open PySem PySem.Spec PyProof.Rows L2

/-! ### calls -/
abbrev FF := List D → Store → RE D
def spF (K : PySem.W.Frag) (mg : Str → Option Value) (m : Nat) (f : FF) : Sp := fun vs H Q E => ∃ w S ds, Sto K mg w S H ∧ RpL K mg w H ds vs ∧ ds.length = m ∧ End K mg (fun w H => Rp K mg w H) w H (f ds S) Q E
/-- room, and nothing is being shown -/
structure RoomG (k : Nat) (A : Around) : Prop where
  rm : Room k A
  gd : A.guards = some []
theorem RoomG.down {k : Nat} {A : Around} (r : RoomG (k + 1) A) (env : Env) : RoomG k (A.deeper env) := ⟨r.rm.deeper env, r.gd⟩
/-- a def's promise where nothing is being shown -/
structure FnG (P : Program) (w : World) (K : PySem.W.Frag) (mg : Str → Option Value) (base : Heap) (k : Nat) (a : Addr) (fd : FuncData) (ps : List Str) (sp : Sp) : Prop where
  size : ∀ vs H Q E, sp vs H Q E → vs.length = ps.length
  runs : ∀ (A : Around) (stk : List Env) (s : Shared) (H : Hp) (ar : Args) (us : List Value) (vs : List V) (Q : VK) (E : XK), RoomG k A → Env0 P w K mg base A stk s H → BindsTo s fd ar (ps.zip us) → Vals vs us → sp vs H Q E →
    codeAny (model P w) A (.call (.ref a) ar) (CR (L2.CX P w) stk P w H s Q E) s
theorem FnG.weak {P : Program} {w : World} {K : PySem.W.Frag} {mg : Str → Option Value} {base : Heap} {k : Nat} {a : Addr} {fd : FuncData} {ps : List Str} {sp sp' : Sp} (F : FnG P w K mg base k a fd ps sp) (h : ∀ vs H Q E, sp' vs H Q E → sp vs H Q E) : FnG P w K mg base k a fd ps sp' :=
  ⟨fun vs H Q E q => F.size vs H Q E (h _ _ _ _ q), fun A stk s H ar us vs Q E hr e0 hb hv hs => F.runs A stk s H ar us vs Q E hr e0 hb hv (h _ _ _ _ hs)⟩
/-- the name x stands for a def that computes f -/
def Cal (P : Program) (w : World) (K : PySem.W.Frag) (mg : Str → Option Value) (base : Heap) (k : Nat) (x : Str) (f : FF) : Prop :=
  ∃ a fd ps, FnG P w K mg base k a fd ps (spF K mg ps.length f) ∧ mg x = some (.ref a) ∧ PySem.W.keepIn K (.ref a) = true ∧ Binds K fd ps [] ∧ (∀ ds S, ds.length ≠ ps.length → f ds S = .no) ∧ ps = fd.params.args.map (·.arg) ∧ ∃ oc od osl, K.lookup a = some ⟨oc, od, .func fd, osl⟩
section
variable {X : Cx} {W : WX} {e : Expr} {es : List Expr} {fs : FA} {pos : Pos} {k : Nat} {x : Str} {f : FF} {p : Pos}
theorem run_g {a : Addr} {fd : FuncData} {ps : List Str} {sp : Sp} {pins : List (Addr × Obj)} {σ : L2.St} {H : Hp} {s : Shared} {Q : VK} {us : List Value} {vs : List V} (F : FnG X.prog X.w X.K X.mg X.base k a fd ps sp) (hr : RoomG k X.A) (tk : Takes X W)
    (I : Inv X pins σ H s) (r : Vals vs us) (hbd : BindsTo s fd ⟨us, []⟩ (ps.zip us)) (h : sp vs H Q (WE W σ)) : wpAny (model X.prog X.w) X.A (call (.ref a) us) (EP X pins σ Q) X.xe s :=
  wpAny_call (codeAny_mono (F.runs X.A X.stack s H ⟨us, []⟩ us vs Q (WE W σ) hr I.env0 hbd r h) fun res s' hq => by
    match res, hq with
    | .error e, hq => exact passAt tk σ pins H s e s' I hq
    | .ok (.ret u), hq => exact I.after hq
    | .ok .next, hq => exact hq.elim
    | .ok .brk, hq => exact hq.elim
    | .ok .cont, hq => exact hq.elim)
theorem binds0 {K : PySem.W.Frag} {fd : FuncData} {ps : List Str} (hb : Binds K fd ps []) {s : Shared} {us : List Value} (kin : K.In s.heap) (hl : us.length = ps.length) : BindsTo s fd ⟨us, []⟩ (ps.zip us) := by
  have z := hb s us kin (by simpa using hl)
  simpa using z
theorem q_call (C : Cal X.prog X.w X.K X.mg X.base k x f) (hr : RoomG k X.A) (tk : Takes X W) (hg : Gl X x) (ha : PA X (e :: es) (tA X W fs)) (hdb : (x == ("__debug__" : Str)) = false := by decide)
    (he : starEach (e :: es) X.env = (false, eval e X.env) :: starEach es X.env := by rfl) (hpl : (backTo pos (starEach es X.env)).any (·.1) = false := by rfl) : PE X (.Call (.Name x p) (e :: es) [] pos) (tF X W (fArg f fs)) := by
  obtain ⟨a, fd, ps, F, hm, hk, hb, ar, _⟩ := C
  refine ⟨fun pins s σ H Q I ⟨w, ρ, S, s0, en, h⟩ => wpAny_Call_Name_kw (ld_glob I hg hm ?_ hdb)⟩
  refine PySem.W.callWith_K (h₀ := X.base) I.ok.mod.kin hk (thn (ha.run pos pins s σ H (fun vs H1 => spF X.K X.mg ps.length f vs H1 Q (WE W σ)) I
    ⟨w, ρ, S, s0, en, (End.bind (R := fun w H => RpL X.K X.mg w H) h).imp ?_ (fun _ _ _ z => z)⟩) fun us s1 ⟨vs, H1, I1, r, q⟩ => ⟨I1.kIn, run_g (us := us) F hr tk I1 r (binds0 (us := us) hb I1.kIn (by rw [← r.length]; exact F.size _ _ _ _ q)) q⟩) he hpl
  rintro vs H1 ⟨w1, S1, ds, e1, s1, r1, h1⟩
  refine ⟨w1, S1, ds, s1, r1, ?_, h1⟩
  apply Classical.byContradiction
  intro hn
  rw [ar ds S1 hn] at h1
  exact h1
end

/-! ### statements -/
inductive RS where
  | nx (ρ : FEnv) (S : Store) | rt (d : D) (S : Store) | bk (ρ : FEnv) (S : Store) | ct (ρ : FEnv) (S : Store) | ex (x : Ex) (ρ : FEnv) (S : Store) | no
abbrev FS := FEnv → Store → RS
def RE.toS {α : Type} (m : RE α) (ρ : FEnv) (k : α → Store → RS) : RS := match m with
  | .ok a S => k a S
  | .ex x S => .ex x ρ S
  | .no => .no
def RS.bnd (m : RS) (k : FS) : RS := match m with
  | .nx ρ S => k ρ S
  | r => r
def EndS (K : PySem.W.Frag) (mg : Str → Option Value) (w : Wd) (H : Hp) (r : RS) (D : Ends) (W : WX) : Prop := match r with
  | .nx ρ S => ∀ w' H' σ', Ext w H w' H' → Sto K mg w' S H' → EnvR K mg w' H' ρ σ' → D.nx σ' H'
  | .rt d S => ∀ w' H' v, Ext w H w' H' → Sto K mg w' S H' → Rp K mg w' H' d v → D.rt v H'
  | .bk ρ S => ∀ w' H' σ', Ext w H w' H' → Sto K mg w' S H' → EnvR K mg w' H' ρ σ' → D.bk σ' H'
  | .ct ρ S => ∀ w' H' σ', Ext w H w' H' → Sto K mg w' S H' → EnvR K mg w' H' ρ σ' → D.ct σ' H'
  | .ex x ρ S => ∀ w' H' σ' c od, Ext w H w' H' → Sto K mg w' S H' → EnvR K mg w' H' ρ σ' → ExR K mg w' H' x c od → W c od σ' H'
  | .no => False
def tS (X : Cx) (W : WX) (f : FS) : TS := fun D σ H => ∃ w ρ S, Sto X.K X.mg w S H ∧ EnvR X.K X.mg w H ρ σ ∧ EndS X.K X.mg w H (f ρ S) D W
section
variable {K : PySem.W.Frag} {mg : Str → Option Value} {w w1 : Wd} {H H1 : Hp} {r : RS} {D D' : Ends} {W W' : WX} {ρ : FEnv} {σ : L2.St} {S : Store}
theorem EndS.on (x : Ext w H w1 H1) (h : EndS K mg w H r D W) : EndS K mg w1 H1 r D W := by
  unfold EndS at h ⊢
  split
  · exact fun w' H' b e s k => h w' H' b (x.trans e) s k
  · exact fun w' H' b e s k => h w' H' b (x.trans e) s k
  · exact fun w' H' b e s k => h w' H' b (x.trans e) s k
  · exact fun w' H' b e s k => h w' H' b (x.trans e) s k
  · exact fun w' H' b c od e s k l => h w' H' b c od (x.trans e) s k l
  · exact h
theorem EndS.imp (h : EndS K mg w H r D W) (h1 : ∀ σ H, D.nx σ H → D'.nx σ H) (h2 : ∀ v H, D.rt v H → D'.rt v H) (h3 : ∀ σ H, D.bk σ H → D'.bk σ H) (h4 : ∀ σ H, D.ct σ H → D'.ct σ H) (h5 : ∀ c od σ H, W c od σ H → W' c od σ H) : EndS K mg w H r D' W' := by
  unfold EndS at h ⊢
  split
  · exact fun w' H' b e s k => h1 _ _ (h w' H' b e s k)
  · exact fun w' H' b e s k => h2 _ _ (h w' H' b e s k)
  · exact fun w' H' b e s k => h3 _ _ (h w' H' b e s k)
  · exact fun w' H' b e s k => h4 _ _ (h w' H' b e s k)
  · exact fun w' H' b c od e s k l => h5 _ _ _ _ (h w' H' b c od e s k l)
  · exact h
theorem EndS.of {α β : Type} {R : Wd → Hp → α → β → Prop} {m : RE α} {k : α → Store → RS} (h : EndS K mg w H (m.toS ρ k) D W) (en : EnvR K mg w H ρ σ) :
    End K mg R w H m (fun b H1 => ∃ w1 S1 a, Ext w H w1 H1 ∧ Sto K mg w1 S1 H1 ∧ R w1 H1 a b ∧ EndS K mg w1 H1 (k a S1) D W) (fun c od H' => W c od σ H') := by
  cases m with
  | ok a S1 =>
    have h' : EndS K mg w H (k a S1) D W := h
    exact fun w' H' b e s kk => ⟨w', S1, a, e, s, kk, h'.on e⟩
  | ex x S1 => exact fun w' H' c od e s kk => h w' H' σ c od e s (en.ext e) kk
  | no => exact h
theorem EndS.bind {k : FS} (h : EndS K mg w H (r.bnd k) D W) : EndS K mg w H r { D with nx := fun σ H1 => ∃ w1 ρ1 S1, Sto K mg w1 S1 H1 ∧ EnvR K mg w1 H1 ρ1 σ ∧ EndS K mg w1 H1 (k ρ1 S1) D W } W := by
  cases r with
  | nx ρ1 S1 =>
    have h' : EndS K mg w H (k ρ1 S1) D W := h
    exact fun w' H' b e s kk => ⟨w', ρ1, S1, s, kk, h'.on e⟩
  | _ => exact h
theorem EnvR.set {i : Nat} {d : Kw.D} {v : V} (en : EnvR K mg w H ρ σ) (r : Rp K mg w H d v) : EnvR K mg w H (ρ.set i (some d)) (σ.set i (some v)) := by
  refine ⟨by rw [List.length_set, List.length_set]; exact en.len, fun j d' h => ?_⟩
  by_cases e : j = i
  · subst e
    have hj : j < ρ.length := by
      have := (List.getElem?_eq_some_iff.mp h).1
      rwa [List.length_set] at this
    rw [List.getElem?_set_self hj] at h
    cases h
    exact ⟨v, by rw [List.getElem?_set_self (en.len ▸ hj)], r⟩
  · rw [List.getElem?_set_ne (Ne.symm e)] at h
    obtain ⟨u, h1, h2⟩ := en.at_ j d' h
    exact ⟨u, by rw [List.getElem?_set_ne (Ne.symm e)]; exact h1, h2⟩
theorem EnvR.wipe1 {i : Nat} (en : EnvR K mg w H ρ σ) : EnvR K mg w H (ρ.set i none) (σ.set i none) := by
  refine ⟨by rw [List.length_set, List.length_set]; exact en.len, fun j d' h => ?_⟩
  by_cases e : j = i
  · subst e
    have hj : j < ρ.length := by
      have := (List.getElem?_eq_some_iff.mp h).1
      rwa [List.length_set] at this
    rw [List.getElem?_set_self hj] at h
    cases h
  · rw [List.getElem?_set_ne (Ne.symm e)] at h
    obtain ⟨u, h1, h2⟩ := en.at_ j d' h
    exact ⟨u, by rw [List.getElem?_set_ne (Ne.symm e)]; exact h1, h2⟩
theorem EndS.nx' {ρ' : FEnv} {σ' : L2.St} (h : EndS K mg w H (.nx ρ' S) D W) (s : Sto K mg w S H) (en : EnvR K mg w H ρ' σ') : D.nx σ' H := h w H σ' Ext.refl s en
theorem EndS.rt' {d : Kw.D} {v : V} (h : EndS K mg w H (.rt d S) D W) (s : Sto K mg w S H) (r : Rp K mg w H d v) : D.rt v H := h w H v Ext.refl s r
end
def sNil : FS := fun ρ S => .nx ρ S
def sSeq (f g : FS) : FS := fun ρ S => (f ρ S).bnd g
def sBrk : FS := fun ρ S => .bk ρ S
def sCnt : FS := fun ρ S => .ct ρ S
def sExp (f : FE) : FS := fun ρ S => (f ρ S).toS ρ fun _ S1 => .nx ρ S1
def sRet (f : FE) : FS := fun ρ S => (f ρ S).toS ρ fun d S1 => .rt d S1
def sRetN : FS := fun _ S => .rt .non S
def sSet (i : Nat) (f : FE) : FS := fun ρ S => (f ρ S).toS ρ fun d S1 => .nx (ρ.set i (some d)) S1
def sIf (c : FT) (a b : FS) : FS := fun ρ S => (c ρ S).toS ρ fun k S1 => match k with
  | true => a ρ S1
  | false => b ρ S1
section
variable {X : Cx} {W : WX} {st : Stmt} {rest : List Stmt} {f g : FS} {e : Expr} {fe : FE} {pos : Pos}
theorem q_snil : PSs X [] (tS X W sNil) := PSs.wk pss_nil fun D σ H ⟨w, ρ, S, s, en, h⟩ => h.nx' s en
theorem q_seq (h1 : PS X st (tS X W f)) (h2 : PSs X rest (tS X W g)) : PSs X (st :: rest) (tS X W (sSeq f g)) :=
  PSs.wk (pss_cons h1 h2) fun D σ H ⟨w, ρ, S, s, en, h⟩ => ⟨w, ρ, S, s, en, h.bind⟩
theorem q_last (h1 : PS X st (tS X W f)) : PSs X [st] (tS X W f) := pss_one h1
theorem q_brk : PS X (.Break pos) (tS X W sBrk) := PS.wk ps_break fun D σ H ⟨w, ρ, S, s, en, h⟩ => h w H σ Ext.refl s en
theorem q_cnt : PS X (.Continue pos) (tS X W sCnt) := PS.wk ps_continue fun D σ H ⟨w, ρ, S, s, en, h⟩ => h w H σ Ext.refl s en
theorem q_pass : PS X (.Pass pos) (tS X W sNil) := PS.wk ps_pass fun D σ H ⟨w, ρ, S, s, en, h⟩ => h.nx' s en
theorem q_expr (he : PE X e (tF X W fe)) (hs : swapsWith e none pos.line X.env = pure false := by rfl) : PS X (.Expr e pos) (tS X W (sExp fe)) :=
  PS.wk (ps_expr he hs) fun D σ H ⟨w, ρ, S, s, en, h⟩ => ⟨w, ρ, S, s, en, (h.of (R := fun w H => Rp X.K X.mg w H) en).imp (fun v H1 ⟨w1, S1, d, e1, s1, r1, h1⟩ => h1.nx' s1 (en.ext e1)) (fun _ _ _ z => z)⟩
theorem q_ret (he : PE X e (tF X W fe)) : PS X (.Return (some e) pos) (tS X W (sRet fe)) :=
  PS.wk (ps_ret he) fun D σ H ⟨w, ρ, S, s, en, h⟩ => ⟨w, ρ, S, s, en, (h.of (R := fun w H => Rp X.K X.mg w H) en).imp (fun v H1 ⟨w1, S1, d, e1, s1, r1, h1⟩ => h1.rt' s1 r1) (fun _ _ _ z => z)⟩
theorem q_retN : PS X (.Return none pos) (tS X W sRetN) := PS.wk ps_retN fun D σ H ⟨w, ρ, S, s, en, h⟩ => h.rt' s rp_n
theorem q_set {i : Nat} {x : Str} {pos' : Pos} (hN : X.N.Nodup) (hi : X.N[i]? = some x) (hx : Loc X.env.scope x) (he : PE X e (tF X W fe)) (hs : swapsWith e (some (.Name x pos')) pos.line X.env = pure false := by rfl) (hf : X.fn x = true ∨ X.env.scope.names.lookup x = some .local := by first | exact .inl rfl | exact .inr rfl | assumption) :
    PS X (.Assign [.Name x pos'] e pos) (tS X W (sSet i fe)) :=
  PS.wk (ps_set hN hi hx he hs hf) fun D σ H ⟨w, ρ, S, s, en, h⟩ => ⟨w, ρ, S, s, en, (h.of (R := fun w H => Rp X.K X.mg w H) en).imp (fun v H1 ⟨w1, S1, d, e1, s1, r1, h1⟩ => h1.nx' s1 ((en.ext e1).set r1)) (fun _ _ _ z => z)⟩
theorem q_ifS {c : Expr} {a b : List Stmt} {tc : FT} (hc : PT X c (tT X W tc)) (ha : PSs X a (tS X W f)) (hb : PSs X b (tS X W g)) : PS X (.If c a b pos) (tS X W (sIf tc f g)) :=
  PS.wk (ps_if hc ha hb) fun D σ H ⟨w, ρ, S, s, en, h⟩ => ⟨w, ρ, S, s, en, (h.of (R := fun _ _ (a b : Bool) => b = a) en).imp (fun v H1 ⟨w1, S1, d, e1, s1, r1, h1⟩ => by
    cases r1
    cases v with
    | true => rw [if_pos rfl]; exact ⟨w1, ρ, S1, s1, en.ext e1, h1⟩
    | false => rw [if_neg (by decide)]; exact ⟨w1, ρ, S1, s1, en.ext e1, h1⟩) (fun _ _ _ z => z)⟩
end
/-- name op= e: two whole numbers -/
def sAug (i : Nat) (g : D → D → Store → RE D) (f : FE) : FS := fun ρ S => match ρ[i]? with
  | some (some x) => (f ρ S).toS ρ fun y S1 => (g x y S1).toS ρ fun z S2 => .nx (ρ.set i (some z)) S2
  | _ => .no
def gIAdd (x y : D) (S : Store) : RE D := match x, y with
  | .int i, .int j => .ok (.int (i + j)) S
  | _, _ => .no
section
variable {X : Cx} {W : WX} {e : Expr} {fe : FE} {pos : Pos}
theorem iadd_v {K : PySem.W.Frag} {mg : Str → Option Value} : OpV K mg (ipI fun i j => i + j) gIAdd := by
  intro w S H x y d e Q E s r1 r2 h
  cases d <;> cases e <;> simp only [gIAdd] at h <;> try exact h.elim
  exact ⟨_, _, rp_int r1, rp_int r2, h.ret s rp_i⟩
theorem isub_v {K : PySem.W.Frag} {mg : Str → Option Value} : OpV K mg (ipI fun i j => i - j) gSub := sub_v
theorem q_aug {i : Nat} {x : Str} {op : Operator} {ti : TIp} {g : D → D → Store → RE D} {pos' : Pos} (hN : X.N.Nodup) (hi : X.N[i]? = some x) (hx : Loc X.env.scope x) (he : PE X e (tF X W fe)) (ho : PIp X op ti) (hv : OpV X.K X.mg ti g) (hf : X.fn x = true ∨ X.env.scope.names.lookup x = some .local := by first | exact .inl rfl | exact .inr rfl | assumption) :
    PS X (.AugAssign (.Name x pos') op e pos) (tS X W (sAug i g fe)) :=
  PS.wk (ps_aug hN hi hx he ho hf) fun D σ H ⟨w, ρ, S, s, en, h⟩ => by
    unfold sAug at h
    split at h
    · rename_i d hd
      obtain ⟨v, h1, h2⟩ := en.at_ i d hd
      refine ⟨v, h1, w, ρ, S, s, en, (h.of (R := fun w H => Rp X.K X.mg w H) en).imp ?_ (fun _ _ _ z => z)⟩
      rintro u H1 ⟨w1, S1, d1, e1, s1, r1, h3⟩
      refine hv w1 S1 H1 v u d d1 _ _ s1 (Rp.ext e1 _ _ h2) r1 ((h3.of (R := fun w H => Rp X.K X.mg w H) (en.ext e1)).imp ?_ (fun _ _ _ z => z))
      rintro z H2 ⟨w2, S2, d2, e2, s2, r2, h4⟩
      exact h4.nx' s2 (((en.ext e1).ext e2).set r2)
    · exact h.elim
end

/-! ### what is thrown away behind a def: the cells that it made -/
mutual
/-- no cell from n on is in it -/
def D.under (n : Nat) : D → Bool
  | .tup ds => underL n ds
  | .lst ds => underL n ds
  | .fls ds => underL n ds
  | .dic _ ds => underL n ds
  | .ins _ _ ds => underL n ds
  | .exo _ _ ds => underL n ds
  | .loc m => decide (m < n)
  | _ => true
def underL (n : Nat) : List D → Bool
  | [] => true
  | d :: ds => D.under n d && underL n ds
end
def Cell.under (n : Nat) : Cell → Bool
  | .lst ds => underL n ds
  | .frz ds => underL n ds
  | .dead => true
  | .tab _ => true
  | .sys => true
  | .gst ρ _ => ρ.all fun o => match o with
    | some d => d.under n
    | none => true
  | .ob _ _ ds => underL n ds
/-- the cells ahead of S's end are as they were, or have nothing that was made since -/
def CutOk (S S' : Store) : Prop := S.length ≤ S'.length ∧ ∀ (i : Nat) c, i < S.length → S'[i]? = some c → S[i]? = some c ∨ c.under S.length = true
open Classical in
noncomputable def cutR (S : Store) (r : RE D) : RE D := match r with
  | .ok d S' => if d.under S.length = true ∧ CutOk S S' then .ok d (S'.take S.length) else .no
  | .ex x S' => if underL S.length x.ds = true ∧ CutOk S S' then .ex x (S'.take S.length) else .no
  | .no => .no
def RS.fin (r : RS) : RE D := match r with
  | .nx _ S => .ok .non S
  | .rt d S => .ok d S
  | .ex x _ S => .ex x S
  | _ => .no
/-- a def with m parameters, n names -/
def fnB (m n : Nat) (b : FS) : FF := fun ds S => if ds.length = m then (b (ds.map some ++ List.replicate (n - m) none) S).fin else .no
/-- .. that throws its cells away -/
noncomputable def fnC (m n : Nat) (b : FS) : FF := fun ds S => cutR S (fnB m n b ds S)
section
variable {K : PySem.W.Frag} {mg : Str → Option Value} {w : Wd} {H : Hp} {S S' : Store}
theorem getElem?_of_take {α : Type} {l : List α} {n m : Nat} {x : α} (h : (l.take n)[m]? = some x) : l[m]? = some x ∧ m < n := by
  by_cases e : m < n
  · rw [List.getElem?_take_of_lt e] at h; exact ⟨h, e⟩
  · rw [List.getElem?_eq_none (by rw [List.length_take]; omega)] at h; exact (nomatch h)
def Wd.cut (w : Wd) (n : Nat) : Wd := ⟨w.φ.take n, w.hd⟩
theorem Wd.off_cut {n : Nat} {a : Addr} (h : w.Off a) : (w.cut n).Off a := ⟨fun z => h.1 (List.mem_of_mem_take z), h.2⟩
theorem Tp.cut {n : Nat} {a : Addr} {xs : List V} (h : Tp K w H a xs) : Tp K (w.cut n) H a xs := by
  rcases h with ⟨h, k⟩ | h
  · exact .inl ⟨h, Wd.off_cut k⟩
  · exact .inr h
theorem Fp.cut {n : Nat} {a : Addr} {xs : List V} (h : Fp K w H a xs) : Fp K (w.cut n) H a xs := by
  rcases h with ⟨o, h, k⟩ | h
  · exact .inl ⟨o, h, Wd.off_cut k⟩
  · exact .inr h
mutual
theorem Rp.cut {n : Nat} (hn : n ≤ w.φ.length) : ∀ (d : D) (v : V), d.under n = true → Rp K mg w H d v → Rp K mg (w.cut n) H d v
  | .non, _, _, h => by unfold Rp at h ⊢; exact h
  | .bl _, _, _, h => by unfold Rp at h ⊢; exact h
  | .int _, _, _, h => by unfold Rp at h ⊢; exact h
  | .str _, _, _, h => by unfold Rp at h ⊢; exact h
  | .tup ds, v, b, h => by
    unfold Rp at h ⊢
    obtain ⟨a, xs, e1, t, r⟩ := h
    exact ⟨a, xs, e1, t.cut, RpL.cutW hn ds xs (by simpa [D.under] using b) r⟩
  | .lst ds, v, b, h => by
    unfold Rp at h ⊢
    obtain ⟨a, xs, e1, t, o, r⟩ := h
    exact ⟨a, xs, e1, t, Wd.off_cut o, RpL.cutW hn ds xs (by simpa [D.under] using b) r⟩
  | .dic ks ds, v, b, h => by
    unfold Rp at h ⊢
    obtain ⟨a, vs, e1, t, o, l, r⟩ := h
    exact ⟨a, vs, e1, t, Wd.off_cut o, l, RpL.cutW hn ds vs (by simpa [D.under] using b) r⟩
  | .ins c fs ds, v, b, h => by
    unfold Rp at h ⊢
    obtain ⟨a, C, dx, vs, e1, m, t, o, l, r⟩ := h
    exact ⟨a, C, dx, vs, e1, m, t, Wd.off_cut o, l, RpL.cutW hn ds vs (by simpa [D.under] using b) r⟩
  | .loc m, v, b, h => by
    have hm : m < n := by simpa [D.under] using b
    unfold Rp at h ⊢
    refine ⟨?_, fun a q => h.2 a ?_⟩
    · show m < (w.φ.take n).length
      rw [List.length_take]; omega
    · have q' : (w.φ.take n)[m]? = some (some a) := q
      exact (getElem?_of_take q').1
  | .glo _, _, _, h => by unfold Rp at h ⊢; exact h
  | .exn _, _, _, h => by unfold Rp at h ⊢; exact h
  | .exo c ns ds, v, b, h => by
    unfold Rp at h ⊢
    obtain ⟨a, C, od, vs, e1, m, t, o, z, q, l, r⟩ := h
    exact ⟨a, C, od, vs, e1, m, t, Wd.off_cut o, z, fun d hd => ⟨(q d hd).1, Wd.off_cut (q d hd).2⟩, l, RpL.cutW hn ds vs (by simpa [D.under] using b) r⟩
  | .fls ds, v, b, h => by
    unfold Rp at h ⊢
    obtain ⟨a, xs, e1, t, r⟩ := h
    exact ⟨a, xs, e1, t.cut, RpL.cutW hn ds xs (by simpa [D.under] using b) r⟩
theorem RpL.cutW {n : Nat} (hn : n ≤ w.φ.length) : ∀ (ds : List D) (vs : List V), underL n ds = true → RpL K mg w H ds vs → RpL K mg (w.cut n) H ds vs
  | [], _, _, h => by unfold RpL at h ⊢; exact h
  | d :: ds, vs, b, h => by
    have b' : d.under n = true ∧ underL n ds = true := by simpa [underL] using b
    unfold RpL at h ⊢
    obtain ⟨v, r, e1, h1, h2⟩ := h
    exact ⟨v, r, e1, Rp.cut hn d v b'.1 h1, RpL.cutW hn ds r b'.2 h2⟩
end
mutual
theorem Rp.isUnder : ∀ (d : D) (v : V), Rp K mg w H d v → d.under w.φ.length = true
  | .non, _, h => rfl
  | .bl _, _, h => rfl
  | .int _, _, h => rfl
  | .str _, _, h => rfl
  | .tup ds, v, h => by
    unfold Rp at h
    obtain ⟨a, xs, e1, t, r⟩ := h
    simpa [D.under] using RpL.isUnder ds xs r
  | .lst ds, v, h => by
    unfold Rp at h
    obtain ⟨a, xs, e1, t, o, r⟩ := h
    simpa [D.under] using RpL.isUnder ds xs r
  | .dic ks ds, v, h => by
    unfold Rp at h
    obtain ⟨a, vs, e1, t, o, l, r⟩ := h
    simpa [D.under] using RpL.isUnder ds vs r
  | .ins c fs ds, v, h => by
    unfold Rp at h
    obtain ⟨a, C, dx, vs, e1, m, t, o, l, r⟩ := h
    simpa [D.under] using RpL.isUnder ds vs r
  | .loc m, v, h => by
    unfold Rp at h
    simpa [D.under] using h.1
  | .glo _, _, h => rfl
  | .exn _, _, h => rfl
  | .exo c ns ds, v, h => by
    unfold Rp at h
    obtain ⟨a, C, od, vs, e1, m, t, o, z, q, l, r⟩ := h
    simpa [D.under] using RpL.isUnder ds vs r
  | .fls ds, v, h => by
    unfold Rp at h
    obtain ⟨a, xs, e1, t, r⟩ := h
    simpa [D.under] using RpL.isUnder ds xs r
theorem RpL.isUnder : ∀ (ds : List D) (vs : List V), RpL K mg w H ds vs → underL w.φ.length ds = true
  | [], _, h => rfl
  | d :: ds, vs, h => by
    unfold RpL at h
    obtain ⟨v, r, e1, h1, h2⟩ := h
    simp [underL, Rp.isUnder d v h1, RpL.isUnder ds r h2]
end
theorem CellR.isUnder {c : Cell} {n : Nat} (h : CellR K mg w H c n) : c.under w.φ.length = true := by
  unfold CellR at h
  split at h
  · obtain ⟨_, _, _, _, h⟩ := h; exact RpL.isUnder _ _ h
  · obtain ⟨_, _, _, _, _, h⟩ := h; exact RpL.isUnder _ _ h
  · rfl
  · rfl
  · rfl
  · rename_i ρ σ
    show (ρ.all fun o => match o with
      | some d => D.under w.φ.length d
      | none => true) = true
    rw [List.all_eq_true]
    intro o ho
    cases o with
    | none => rfl
    | some d =>
      obtain ⟨i, hi, e⟩ := List.mem_iff_getElem.mp ho
      obtain ⟨v, _, r⟩ := h.2.at_ i d (by rw [List.getElem?_eq_getElem hi, e])
      exact Rp.isUnder _ _ r
  · obtain ⟨_, _, _, _, _, _, _, _, h⟩ := h; exact RpL.isUnder _ _ h
theorem CellR.cut {c : Cell} {m n : Nat} (hn : n ≤ w.φ.length) (hm : m < n) (b : c.under n = true) (h : CellR K mg w H c m) : CellR K mg (w.cut n) H c m := by
  have g : (w.cut n).φ[m]? = w.φ[m]? := by
    show (w.φ.take n)[m]? = _
    rw [List.getElem?_take, if_pos hm]
  unfold CellR at h ⊢
  split at h
  · obtain ⟨a, xs, h1, h2, h3⟩ := h; exact ⟨a, xs, by rw [g]; exact h1, h2, RpL.cutW hn _ _ (by simpa [Cell.under] using b) h3⟩
  · obtain ⟨a, xs, o, h1, h2, h3⟩ := h; exact ⟨a, xs, o, by rw [g]; exact h1, h2, RpL.cutW hn _ _ (by simpa [Cell.under] using b) h3⟩
  · show _ = _; rw [g]; exact h
  · obtain ⟨c0, P, ht, h1, ps, h2, h3, h4⟩ := h
    refine ⟨c0, P, ht, by rw [g]; exact h1, ps, h2, h3, fun pos cv hc => ?_⟩
    obtain ⟨c, e1, e2, e3⟩ := h4 pos cv hc
    exact ⟨c, e1, e2, fun z => e3.1 (List.mem_of_mem_take z), e3.2⟩
  · exact ⟨by rw [g]; exact h.1, h.2.1, fun z => h.2.2.1 (List.mem_of_mem_take z), h.2.2.2⟩
  · refine ⟨by rw [g]; exact h.1, h.2.len, fun i d q => ?_⟩
    obtain ⟨v, h1, h2⟩ := h.2.at_ i d q
    have b' := List.all_eq_true.mp b (some d) (List.mem_of_getElem? q)
    exact ⟨v, h1, Rp.cut hn _ _ b' h2⟩
  · obtain ⟨a, C, dx, vs, h1, h2, h3, h4, h5⟩ := h; exact ⟨a, C, dx, vs, by rw [g]; exact h1, h2, h3, h4, RpL.cutW hn _ _ (by simpa [Cell.under] using b) h5⟩
theorem Sto.cut {w0 : Wd} {H0 : Hp} (s0 : Sto K mg w0 S H0) (s : Sto K mg w S' H) (h : CutOk S S') : Sto K mg (w.cut S.length) (S'.take S.length) H := by
  have hl : S.length ≤ w.φ.length := by rw [s.len]; exact h.1
  refine ⟨by show (w.φ.take _).length = _; rw [List.length_take, List.length_take, s.len], fun m n a h1 h2 => ?_, fun a ha => ⟨(s.ap a ha).1, fun z => (s.ap a ha).2 (List.mem_of_mem_take z)⟩, fun n c hc => ?_⟩
  · have k : ∀ m : Nat, (w.φ.take S.length)[m]? = some (some a) → w.φ[m]? = some (some a) := fun m q => by
      rw [List.getElem?_take] at q
      split at q
      · exact q
      · cases q
    exact s.nd m n a (k m h1) (k n h2)
  · rw [List.getElem?_take] at hc
    split at hc
    · rename_i hn
      have c0 := s.cell n c hc
      refine CellR.cut hl hn ?_ c0
      rcases h.2 n c hn hc with z | z
      · have := (s0.cell n c z).isUnder
        rw [s0.len] at this; exact this
      · exact z
    · cases hc
theorem Ext.cut {w0 : Wd} {H0 : Hp} (e : Ext w0 H0 w H) : Ext w0 H0 (w.cut w0.φ.length) H where
  fr := e.fr
  ln := by show _ ≤ (w.φ.take _).length; rw [List.length_take]; have := e.ln; omega
  ph := fun n a h l => by
    have q : (w.φ.take w0.φ.length)[n]? = some (some a) := h
    exact e.ph n a (getElem?_of_take q).1 l
  nw := fun a h => e.nw a (List.mem_of_mem_take h)
  hd := e.hd
theorem ExR.cutX {n : Nat} {x : Ex} {c : Value} {od : Option Addr} (hn : n ≤ w.φ.length) (b : underL n x.ds = true) (h : ExR K mg w H x c od) : ExR K mg (w.cut n) H x c od := by
  obtain ⟨h1, h2⟩ := h
  refine ⟨h1, ?_⟩
  rcases h2 with h2 | ⟨d, vs, a0, a1, a2, a3, a4, a5⟩
  · exact .inl h2
  · exact .inr ⟨d, vs, a0, a1, a2, Wd.off_cut a3, a4, RpL.cutW hn _ _ b a5⟩
/-- the cells that were made since are thrown away -/
theorem End.cutE {Q : VK} {E : Value → Option Addr → Hp → Prop} {r : RE D} (s : Sto K mg w S H) (h : End K mg (fun w H => Rp K mg w H) w H (cutR S r) Q E) : End K mg (fun w H => Rp K mg w H) w H r Q E := by
  cases r with
  | ok d S' =>
    have h' : End K mg (fun w H => Rp K mg w H) w H (cutR S (.ok d S')) Q E := h
    unfold cutR at h'
    simp only at h'
    split at h'
    · rename_i hc
      intro w1 H1 v e s1 r1
      have hl : S.length ≤ w1.φ.length := by rw [s1.len]; exact hc.2.1
      refine h' (w1.cut S.length) H1 v (s.len ▸ e.cut) (Sto.cut s s1 hc.2) (Rp.cut hl d v hc.1 r1)
    · exact h'.elim
  | ex x S' =>
    have h' : End K mg (fun w H => Rp K mg w H) w H (cutR S (.ex x S')) Q E := h
    unfold cutR at h'
    simp only at h'
    split at h'
    · rename_i hc
      intro w1 H1 c od e s1 r1
      have hl : S.length ≤ w1.φ.length := by rw [s1.len]; exact hc.2.1
      refine h' (w1.cut S.length) H1 c od (s.len ▸ e.cut) (Sto.cut s s1 hc.2) (ExR.cutX hl hc.1 r1)
    · exact h'.elim
  | no => exact h
end

/-! ### a def by its body -/
theorem envStart {K : PySem.W.Frag} {mg : Str → Option Value} {w : Wd} {H : Hp} {ds : List D} {vs : List V} {N : List Str} (r : RpL K mg w H ds vs) : EnvR K mg w H (ds.map some ++ List.replicate (N.length - ds.length) none) (L2.start N vs) := by
  unfold L2.start
  refine ⟨by simp [r.length], fun i d h => ?_⟩
  by_cases hi : i < ds.length
  · rw [List.getElem?_append_left (by rw [List.length_map]; exact hi), List.getElem?_map] at h
    cases e : ds[i]? with
    | none => rw [e] at h; cases h
    | some d' =>
      rw [e] at h
      have ed : d' = d := by simpa using h
      subst ed
      obtain ⟨v, h1, h2⟩ := r.get e
      refine ⟨v, ?_, h2⟩
      rw [List.getElem?_append_left (by rw [List.length_map, ← r.length]; exact hi), List.getElem?_map, h1]
      rfl
  · rw [List.getElem?_append_right (by rw [List.length_map]; omega)] at h
    have := List.mem_of_getElem? h
    have := List.eq_of_mem_replicate this
    cases this
section
variable {P : Program} {w : World} {K : PySem.W.Frag} {mg : Str → Option Value} {base : Heap}
/-- a def by its body -/
theorem fn_g {x qual : Str} {st : Stmt} {f : Addr} {fd : FuncData} {N ps : List Str} {k : Nat} {sp : Sp} (F : Fun K x qual st f fd) (S : FnScope N ps (defScope st)) (size : ∀ vs H Q E, sp vs H Q E → vs.length = ps.length)
    (hb : ∀ (cdv : Value) (A : Around) (stk : List Env) (s : Shared) (H : Hp) (vs : List V) (Q : VK) (E : XK), RoomG k (A.deeper (envOfC qual (defScope st) s.heap.objs.size f cdv)) → sp vs H Q E →
      ∃ t, PSs (cxOf (L2.CX P w) P w K mg base N qual (defScope st) f cdv A stk s H E) (defBody st) t ∧ t { nx := fun _ H' => Q .non H', rt := Q } (L2.start N vs) H) : FnG P w K mg base (k + 1) f fd ps sp := by
  obtain ⟨oc, od, kV, doc, pm, an, cdv, ct, osl, rfl, lk, hcd⟩ := F.ex
  refine ⟨size, fun A stk s H ar us vs Q E hr e0 hbd hv hsp => ?_⟩
  have up : ∀ b o, base.get? b = some o → s.heap.get? b = some o := fun b o z => (e0.bs b o z).1
  have KX : K.In s.heap := e0.mod.kin.keeps up
  refine codeAny_call_function hr.rm.depth (KX _ _ lk) rfl S.co S.gen rfl (PySem.W.codeRec_of KX hcd) (hbd _ _ _ _ (wpAny_newFunctionEnv_cells S.kind (fun ⟨n, v⟩ hn => ?par) fun env he s1 x => ?run))
  case par =>
    have hn' := S.par n (List.of_mem_zip hn).1
    exact hn'.imp id fun z => ⟨z, PySem.W.cellsFrom_some _ _ _ (.inl z)⟩
  case run =>
    subst he
    obtain ⟨t, ht, hq⟩ := hb cdv A stk s H vs Q E (hr.down _) hsp
    have I0 := inv_start (CX := L2.CX P w) (E := E) S hr.rm.hd e0 (size _ _ _ _ hsp) hv x
    refine ⟨(e0.mod.nolimit.keeps up).keeps x.toInCall.keep, codeAny_func (wpAny_mono (ht.run [] s1 (L2.start N vs) H _ I0 hq) (fun fl s' hs => ?_) fun e s' hs => hs)⟩
    match fl, hs with
    | .ret u, ⟨v, σ', H', J, rv, q⟩ => exact ⟨v, H', J.os, J.bare, J.base, J.hok, rv, q⟩
    | .next, ⟨σ', H', J, q⟩ => exact ⟨.non, H', J.os, J.bare, J.base, J.hok, rfl, q⟩
    | .brk, ⟨_, _, _, q⟩ => exact q.elim
    | .cont, ⟨_, _, _, q⟩ => exact q.elim
theorem fn_ok {x qual : Str} {st : Stmt} {f : Addr} {fd : FuncData} {N ps : List Str} {k : Nat} {b : FS} (F : Fun K x qual st f fd) (S : FnScope N ps (defScope st))
    (hb : ∀ (cdv : Value) (A : Around) (outer : List Env) (s : Shared) (H : Hp) (E : XK), RoomG k (A.deeper (envOfC qual (defScope st) s.heap.objs.size f cdv)) →
      PSs (cxOf (L2.CX P w) P w K mg base N qual (defScope st) f cdv A outer s H E) (defBody st) (tS (cxOf (L2.CX P w) P w K mg base N qual (defScope st) f cdv A outer s H E) (fun c d _ H => E c d H) b)) :
    FnG P w K mg base (k + 1) f fd ps (spF K mg ps.length (fnB ps.length N.length b)) := by
  refine fn_g F S (fun vs H Q E ⟨w, st, ds, s, r, l, h⟩ => by rw [← r.length]; exact l) fun cdv A outer s H vs Q E hr ⟨w1, S1, ds, s1, r1, l, h⟩ => ⟨_, hb cdv A outer s H E hr, w1, _, S1, s1, envStart (N := N) r1, ?_⟩
  unfold fnB at h
  rw [if_pos l] at h
  rw [l]
  revert h
  cases hbb : b (ds.map some ++ List.replicate (N.length - ps.length) none) S1 with
  | nx ρ S2 => exact fun h w' H' σ' e s' en => h w' H' _ e s' rp_n
  | rt d S2 => exact fun h w' H' v e s' r' => h w' H' v e s' r'
  | ex x ρ S2 => exact fun h w' H' σ' c od e s' en ex => h w' H' c od e s' ex
  | bk ρ S2 => exact fun h => h.elim
  | ct ρ S2 => exact fun h => h.elim
  | no => exact fun h => h.elim
theorem fun_look {x qual : Str} {st : Stmt} {f : Addr} {fd : FuncData} (F : Fun K x qual st f fd) : ∃ oc od osl, K.lookup f = some ⟨oc, od, .func fd, osl⟩ := by
  obtain ⟨oc, od, kV, doc, pm, an, cdv, ct, osl, rfl, lk, hcd⟩ := F.ex
  exact ⟨oc, od, osl, lk⟩
theorem fun_names {x qual : Str} {st : Stmt} {f : Addr} {fd : FuncData} (F : Fun K x qual st f fd) : fd.params.args.map (·.arg) = (defArgs st).args.map (·.arg) := by
  obtain ⟨oc, od, kV, doc, pm, an, cdv, ct, osl, rfl, lk, hcd⟩ := F.ex
  rfl
theorem spF_cut {m : Nat} {f : FF} {k : Nat} {a : Addr} {fd : FuncData} {ps : List Str} (F : FnG P w K mg base k a fd ps (spF K mg m f)) : FnG P w K mg base k a fd ps (spF K mg m (fun ds S => cutR S (f ds S))) :=
  F.weak fun vs H Q E ⟨w1, S1, ds, s1, r1, l, h⟩ => ⟨w1, S1, ds, s1, r1, l, h.cutE s1⟩
theorem fnB_ar {m n : Nat} {b : FS} : ∀ ds S, ds.length ≠ m → fnB m n b ds S = .no := fun ds S h => by unfold fnB; rw [if_neg h]
theorem fnC_ar {m n : Nat} {b : FS} : ∀ ds S, ds.length ≠ m → fnC m n b ds S = .no := fun ds S h => by unfold fnC; rw [fnB_ar ds S h]; rfl
theorem cal_B {x : Str} {st : Stmt} {f : Addr} {fd : FuncData} {N ps : List Str} {k : Nat} {b : FS} (F : Fun K x x st f fd) (S : FnScope N ps (defScope st)) (hm : mg x = some (.ref f)) (hbd : Binds K fd ps []) (hps : ps = (defArgs st).args.map (·.arg))
    (hb : ∀ (cdv : Value) (A : Around) (outer : List Env) (s : Shared) (H : Hp) (E : XK), RoomG k (A.deeper (envOfC x (defScope st) s.heap.objs.size f cdv)) →
      PSs (cxOf (L2.CX P w) P w K mg base N x (defScope st) f cdv A outer s H E) (defBody st) (tS (cxOf (L2.CX P w) P w K mg base N x (defScope st) f cdv A outer s H E) (fun c d _ H => E c d H) b)) :
    Cal P w K mg base (k + 1) x (fnB ps.length N.length b) := ⟨f, fd, ps, fn_ok F S hb, hm, F.kp, hbd, fnB_ar, hps.trans (fun_names F).symm, fun_look F⟩
theorem cal_C {x : Str} {st : Stmt} {f : Addr} {fd : FuncData} {N ps : List Str} {k : Nat} {b : FS} (F : Fun K x x st f fd) (S : FnScope N ps (defScope st)) (hm : mg x = some (.ref f)) (hbd : Binds K fd ps []) (hps : ps = (defArgs st).args.map (·.arg))
    (hb : ∀ (cdv : Value) (A : Around) (outer : List Env) (s : Shared) (H : Hp) (E : XK), RoomG k (A.deeper (envOfC x (defScope st) s.heap.objs.size f cdv)) →
      PSs (cxOf (L2.CX P w) P w K mg base N x (defScope st) f cdv A outer s H E) (defBody st) (tS (cxOf (L2.CX P w) P w K mg base N x (defScope st) f cdv A outer s H E) (fun c d _ H => E c d H) b)) :
    Cal P w K mg base (k + 1) x (fnC ps.length N.length b) := ⟨f, fd, ps, spF_cut (fn_ok F S hb), hm, F.kp, hbd, fnC_ar, hps.trans (fun_names F).symm, fun_look F⟩
end
/-! ### a cell is made a value -/
def gFz (x : D) (S : Store) : RE D := match x with
  | .loc n => (match cellM S n with
    | some ds => .ok (.lst ds) (S.set n .dead)
    | none => .no)
  | _ => .no
section
variable {K : PySem.W.Frag} {mg : Str → Option Value} {w : Wd} {H : Hp} {S : Store} {Q : VK} {E : Value → Option Addr → Hp → Prop}
theorem fz_at {x : D} {v : V} (s : Sto K mg w S H) (r : Rp K mg w H x v) (h : End K mg (fun w H => Rp K mg w H) w H (gFz x S) Q E) : Q v H := by
  unfold gFz at h
  split at h
  · rename_i n
    split at h
    · rename_i ds hz
      obtain ⟨a, xs, h1, h2, h3⟩ := cellM_at s hz
      unfold Rp at r
      have ev := r.2 a h1
      have hn : n < w.φ.length := r.1
      have gs : (w.φ.set n none)[n]? = some none := by rw [List.getElem?_set_self hn]
      have gn : ∀ m : Nat, m ≠ n → (w.φ.set n none)[m]? = w.φ[m]? := fun m hm => List.getElem?_set_ne (Ne.symm hm)
      have sub : ∀ (m : Nat) b, (w.φ.set n none)[m]? = some (some b) → w.φ[m]? = some (some b) ∧ m ≠ n := fun m b q => by
        by_cases e : m = n
        · subst e; rw [gs] at q; cases q
        · rw [gn m e] at q; exact ⟨q, e⟩
      have mem : ∀ b, some b ∈ w.φ.set n none → some b ∈ w.φ := fun b q => by
        obtain ⟨m, hm⟩ := List.mem_iff_getElem?.mp q
        exact List.mem_of_getElem? (sub m b hm).1
      have out : some a ∉ w.φ.set n none := fun q => by
        obtain ⟨m, hm⟩ := List.mem_iff_getElem?.mp q
        obtain ⟨q1, q2⟩ := sub m a hm
        exact q2 (s.nd m n a q1 h1)
      have ex : Ext w H ⟨w.φ.set n none, w.hd⟩ H := ⟨fun _ _ h _ => h, by show _ ≤ (w.φ.set n none).length; rw [List.length_set]; exact Nat.le_refl _, fun m b q _ => (sub m b q).1, fun b q => .inl (mem b q), rfl⟩
      have s' : Sto K mg ⟨w.φ.set n none, w.hd⟩ (S.set n .dead) H := by
        refine ⟨by show (w.φ.set n none).length = _; rw [List.length_set, List.length_set]; exact s.len, fun m k b q1 q2 => s.nd m k b (sub m b q1).1 (sub k b q2).1, fun b hb => ⟨(s.ap b hb).1, fun z => (s.ap b hb).2 (mem b z)⟩, fun m c hc => ?_⟩
        by_cases e : m = n
        · subst e
          rw [List.getElem?_set_self (s.len ▸ hn)] at hc
          cases hc
          exact gs
        · rw [List.getElem?_set_ne (Ne.symm e)] at hc
          exact CellR.ext ex (fun b hb => ⟨by show (w.φ.set n none)[m]? = _; rw [gn m e]; exact hb, rfl⟩) (fun hb => by show (w.φ.set n none)[m]? = _; rw [gn m e]; exact hb) (s.cell m c hc)
      refine h ⟨w.φ.set n none, w.hd⟩ H v ex s' ?_
      show Rp _ _ _ _ _ _
      unfold Rp
      exact ⟨a, xs, ev, h2, ⟨out, fun z => (s.ap a z).2 (List.mem_of_getElem? h1)⟩, RpL.ext ex _ _ h3⟩
    · exact h.elim
  · exact h.elim
end
theorem q_fz {X : Cx} {W : WX} {e : Expr} {f : FE} (he : PE X e (tF X W f)) : PE X e (tF X W (f1 gFz f)) := PE.wk he fun σ H Q ⟨w, ρ, S, s, en, h⟩ =>
  ⟨w, ρ, S, s, en, (End.bind (R := fun w H => Rp X.K X.mg w H) h).imp (fun x H1 ⟨w1, S1, d, e1, s1, r1, h1⟩ => fz_at s1 r1 h1) (fun _ _ _ z => z)⟩
end Kw

/-! Kw6: targets, for, while, comprehensions. -/
namespace Kw
open PySem PySem.Spec PyProof.Rows L2

/-! ### what carries a tree over -/
structure Mv (w : Wd) (H : Hp) (w' : Wd) (H' : Hp) : Prop where
  fr : ∀ a o, H a = some o → w.Off a → H' a = some o ∧ w'.Off a
  ln : w.φ.length ≤ w'.φ.length
  ph : ∀ (n : Nat) a, w'.φ[n]? = some (some a) → n < w.φ.length → w.φ[n]? = some (some a)
section
variable {K : PySem.W.Frag} {mg : Str → Option Value} {w w' w'' : Wd} {H H' H'' : Hp} {S : Store}
mutual
theorem Rp.mv (e : Mv w H w' H') : ∀ (d : D) (v : V), Rp K mg w H d v → Rp K mg w' H' d v
  | .non, _, h => by unfold Rp at h ⊢; exact h
  | .bl _, _, h => by unfold Rp at h ⊢; exact h
  | .int _, _, h => by unfold Rp at h ⊢; exact h
  | .str _, _, h => by unfold Rp at h ⊢; exact h
  | .tup ds, v, h => by
    unfold Rp at h ⊢
    obtain ⟨a, xs, e1, t, r⟩ := h
    refine ⟨a, xs, e1, ?_, RpL.mv e ds xs r⟩
    rcases t with ⟨t, n⟩ | t
    · exact .inl (e.fr _ _ t n)
    · exact .inr t
  | .lst ds, v, h => by
    unfold Rp at h ⊢
    obtain ⟨a, xs, e1, t, n, r⟩ := h
    exact ⟨a, xs, e1, (e.fr _ _ t n).1, (e.fr _ _ t n).2, RpL.mv e ds xs r⟩
  | .dic ks ds, v, h => by
    unfold Rp at h ⊢
    obtain ⟨a, vs, e1, t, n, l, r⟩ := h
    exact ⟨a, vs, e1, (e.fr _ _ t n).1, (e.fr _ _ t n).2, l, RpL.mv e ds vs r⟩
  | .ins c fs ds, v, h => by
    unfold Rp at h ⊢
    obtain ⟨a, C, dx, vs, e1, m, t, n, l, r⟩ := h
    exact ⟨a, C, dx, vs, e1, m, (e.fr _ _ t n).1, (e.fr _ _ t n).2, l, RpL.mv e ds vs r⟩
  | .loc n, v, h => by
    unfold Rp at h ⊢
    exact ⟨Nat.lt_of_lt_of_le h.1 e.ln, fun a q => h.2 a (e.ph n a q h.1)⟩
  | .glo _, _, h => by unfold Rp at h ⊢; exact h
  | .exn _, _, h => by unfold Rp at h ⊢; exact h
  | .exo c ns ds, v, h => by
    unfold Rp at h ⊢
    obtain ⟨a, C, od, vs, e1, m, t, n, z, q, l, r⟩ := h
    exact ⟨a, C, od, vs, e1, m, (e.fr _ _ t n).1, (e.fr _ _ t n).2, z, fun d hd => ⟨(e.fr _ _ (q d hd).1 (q d hd).2).1, (e.fr _ _ (q d hd).1 (q d hd).2).2⟩, l, RpL.mv e ds vs r⟩
  | .fls ds, v, h => by
    unfold Rp at h ⊢
    obtain ⟨a, xs, e1, t, r⟩ := h
    refine ⟨a, xs, e1, ?_, RpL.mv e ds xs r⟩
    rcases t with ⟨o, t, n⟩ | t
    · exact .inl ⟨o, e.fr _ _ t n⟩
    · exact .inr t
theorem RpL.mv (e : Mv w H w' H') : ∀ (ds : List D) (vs : List V), RpL K mg w H ds vs → RpL K mg w' H' ds vs
  | [], _, h => by unfold RpL at h ⊢; exact h
  | d :: ds, vs, h => by
    unfold RpL at h ⊢
    obtain ⟨v, r, e1, h1, h2⟩ := h
    exact ⟨v, r, e1, Rp.mv e d v h1, RpL.mv e ds r h2⟩
end
theorem EnvR.mv {ρ : FEnv} {σ : L2.St} (e : Mv w H w' H') (h : EnvR K mg w H ρ σ) : EnvR K mg w' H' ρ σ := ⟨h.len, fun i d q => by
  obtain ⟨v, h1, h2⟩ := h.at_ i d q
  exact ⟨v, h1, Rp.mv e _ _ h2⟩⟩
theorem TabW.mv {P : Addr} {q : Str} (m : Mv w H w' H') (hP : H' P = H P) (h : TabW w H P q) : TabW w' H' P q := by
  obtain ⟨ps, h1, h2, h3⟩ := h
  refine ⟨ps, by rw [hP]; exact h1, h2, fun pos cv hc => ?_⟩
  obtain ⟨c, e1, e2, e3⟩ := h3 pos cv hc
  exact ⟨c, e1, m.fr _ _ e2 e3⟩
theorem Ext.mv (e : Ext w H w' H') : Mv w H w' H' := ⟨fun a o h n => ⟨e.fr a o h n.1, e.out h n⟩, e.ln, e.ph⟩
theorem Mv.trans (a : Mv w H w' H') (b : Mv w' H' w'' H'') : Mv w H w'' H'' :=
  ⟨fun c o h n => b.fr c o (a.fr c o h n).1 (a.fr c o h n).2, Nat.le_trans a.ln b.ln, fun n c h l => a.ph n c (b.ph n c h (Nat.lt_of_lt_of_le l a.ln)) l⟩
theorem Mv.refl : Mv w H w H := Ext.refl.mv
/-- the object at C is built, hidden -/
structure ExtD (C : Addr) (w : Wd) (H : Hp) (w' : Wd) (H' : Hp) : Prop where
  c0 : H C = none
  fr : ∀ a o, a ≠ C → H a = some o → some a ∉ w.φ → H' a = some o
  ln : w.φ.length ≤ w'.φ.length
  ph : ∀ (n : Nat) a, w'.φ[n]? = some (some a) → n < w.φ.length → w.φ[n]? = some (some a)
  nw : ∀ a, some a ∈ w'.φ → some a ∈ w.φ ∨ H a = none
  hd : w'.hd = C :: w.hd
theorem ExtD.step {C : Addr} (a : ExtD C w H w' H') (b : Ext w' H' w'' H'') : ExtD C w H w'' H'' where
  c0 := a.c0
  fr := fun c o hc h n => b.fr c o (a.fr c o hc h n) fun z => by
    rcases a.nw c z with z | z
    · exact n z
    · rw [h] at z; cases z
  ln := Nat.le_trans a.ln b.ln
  ph := fun n c h l => a.ph n c (b.ph n c h (Nat.lt_of_lt_of_le l a.ln)) l
  nw := fun c h => by
    rcases b.nw c h with z | z
    · exact a.nw c z
    · by_cases q : some c ∈ w.φ
      · exact .inl q
      · cases e : H c with
        | none => exact .inr rfl
        | some o =>
          have hc : c ≠ C := fun z => by subst z; rw [a.c0] at e; cases e
          rw [a.fr c o hc e q] at z; cases z
  hd := b.hd.trans a.hd
theorem ExtD.poke {C : Addr} {o : HO} (a : ExtD C w H w' H') : ExtD C w H w' (upd H' C o) := ⟨a.c0, fun c u hc h n => by rw [upd_ne hc]; exact a.fr c u hc h n, a.ln, a.ph, a.nw, a.hd⟩
theorem ExtD.mv {C : Addr} (a : ExtD C w H w' H') : Mv w H w' H' := ⟨fun c o h n => by
  have hc : c ≠ C := fun z => by subst z; rw [a.c0] at h; cases h
  refine ⟨a.fr c o hc h n.1, fun z => ?_, fun z => ?_⟩
  · rcases a.nw c z with z | z
    · exact n.1 z
    · rw [h] at z; cases z
  · rw [a.hd] at z
    rcases List.mem_cons.mp z with z | z
    · exact hc z
    · exact n.2 z, a.ln, a.ph⟩
theorem ExtD.begin_ {C : Addr} {o : HO} (hC : H C = none) : ExtD C w H ⟨w.φ, C :: w.hd⟩ (upd H C o) := ⟨hC, fun a u e h _ => by rw [upd_ne e]; exact h, Nat.le_refl _, fun _ _ h _ => h, fun _ h => .inl h, rfl⟩
theorem ExtD.done {C : Addr} (a : ExtD C w H w' H') : Ext w H ⟨w'.φ, w.hd⟩ H' := ⟨fun c o h n => a.fr c o (fun z => by subst z; rw [a.c0] at h; cases h) h n, a.ln, a.ph, a.nw, rfl⟩
theorem Sto.mvd {C : Addr} (s : Sto K mg w S H) (hC : H C = none) {o : HO} : Sto K mg ⟨w.φ, C :: w.hd⟩ S (upd H C o) := by
  have m : Mv w H ⟨w.φ, C :: w.hd⟩ (upd H C o) := (ExtD.begin_ hC).mv
  refine ⟨s.len, s.nd, fun a ha => ?_, fun n c hc => ?_⟩
  · rcases List.mem_cons.mp ha with e | ha
    · subst e; exact ⟨by rw [upd_same]; exact fun z => (nomatch z), (s.new hC).1⟩
    · exact ⟨upd_some (s.ap a ha).1, (s.ap a ha).2⟩
  · have c0 := s.cell n c hc
    have ne : ∀ a, w.φ[n]? = some (some a) → upd H C o a = H a := fun a ha => upd_ne fun z => by subst z; exact (s.new hC).1 (List.mem_of_getElem? ha)
    unfold CellR at c0 ⊢
    split at c0
    · obtain ⟨b, xs, h2, h3, h4⟩ := c0; exact ⟨b, xs, h2, by rw [ne b h2]; exact h3, RpL.mv m _ _ h4⟩
    · obtain ⟨b, xs, o', h2, h3, h4⟩ := c0; exact ⟨b, xs, o', h2, by rw [ne b h2]; exact h3, RpL.mv m _ _ h4⟩
    · exact c0
    · obtain ⟨c1, P, ht, t1, t2⟩ := c0; exact ⟨c1, P, ht, t1, TabW.mv m (ne _ t1) t2⟩
    · obtain ⟨h1, h2, h3, ⟨φ, h4, h6⟩, h5⟩ := c0
      exact ⟨h1, List.mem_cons_of_mem _ h2, h3, ⟨φ, by rw [upd_ne (fun z => by rw [z, hC] at h4; cases h4)]; exact h4, h6⟩, h5⟩
    · exact ⟨c0.1, EnvR.mv m c0.2⟩
    · obtain ⟨b, C1, dx, vs, h2, h3, h4, h5, h6⟩ := c0; exact ⟨b, C1, dx, vs, h2, h3, by rw [ne b h2]; exact h4, h5, RpL.mv m _ _ h6⟩
theorem Mv.poke {C : Addr} {o : HO} (hC : C ∈ w.hd) : Mv w H w (upd H C o) := ⟨fun a u h n => ⟨by rw [upd_ne (fun z => by subst z; exact n.2 hC)]; exact h, n⟩, Nat.le_refl _, fun _ _ h _ => h⟩
theorem Sto.poke {C : Addr} {o : HO} (s : Sto K mg w S H) (hC : C ∈ w.hd) (hx : ∃ xs, H C = some (.lst xs)) : Sto K mg w S (upd H C o) := by
  have m : Mv w H w (upd H C o) := Mv.poke hC
  refine ⟨s.len, s.nd, fun a ha => ⟨upd_some (s.ap a ha).1, (s.ap a ha).2⟩, fun n c hc => ?_⟩
  have c0 := s.cell n c hc
  have ne : ∀ a, w.φ[n]? = some (some a) → upd H C o a = H a := fun a ha => upd_ne fun z => by subst z; exact (s.ap a hC).2 (List.mem_of_getElem? ha)
  unfold CellR at c0 ⊢
  split at c0
  · obtain ⟨b, xs, h2, h3, h4⟩ := c0; exact ⟨b, xs, h2, by rw [ne b h2]; exact h3, RpL.mv m _ _ h4⟩
  · obtain ⟨b, xs, o', h2, h3, h4⟩ := c0; exact ⟨b, xs, o', h2, by rw [ne b h2]; exact h3, RpL.mv m _ _ h4⟩
  · exact c0
  · obtain ⟨c1, P, ht, t1, t2⟩ := c0; exact ⟨c1, P, ht, t1, TabW.mv m (ne _ t1) t2⟩
  · obtain ⟨h1, h2, h3, ⟨φ, h4, h6⟩, h5⟩ := c0
    obtain ⟨xs, hx⟩ := hx
    exact ⟨h1, h2, h3, ⟨φ, by rw [upd_ne (fun z => by rw [z, hx] at h4; cases h4)]; exact h4, h6⟩, h5⟩
  · exact ⟨c0.1, EnvR.mv m c0.2⟩
  · obtain ⟨b, C1, dx, vs, h2, h3, h4, h5, h6⟩ := c0; exact ⟨b, C1, dx, vs, h2, h3, by rw [ne b h2]; exact h4, h5, RpL.mv m _ _ h6⟩
theorem Mv.show {C : Addr} {h0 : List Addr} (e : w.hd = C :: h0) : Mv w H ⟨w.φ, h0⟩ H := ⟨fun a o h n => ⟨h, n.1, fun z => n.2 (by rw [e]; exact List.mem_cons_of_mem _ z)⟩, Nat.le_refl _, fun _ _ h _ => h⟩
theorem Sto.show {C : Addr} {h0 : List Addr} (s : Sto K mg w S H) (e : w.hd = C :: h0) (hx : ∃ xs, H C = some (.lst xs)) : Sto K mg ⟨w.φ, h0⟩ S H := by
  have m : Mv w H ⟨w.φ, h0⟩ H := Mv.show e
  refine ⟨s.len, s.nd, fun a ha => s.ap a (by rw [e]; exact List.mem_cons_of_mem _ ha), fun n c hc => ?_⟩
  have c0 := s.cell n c hc
  unfold CellR at c0 ⊢
  split at c0
  · obtain ⟨b, xs, h2, h3, h4⟩ := c0; exact ⟨b, xs, h2, h3, RpL.mv m _ _ h4⟩
  · obtain ⟨b, xs, o', h2, h3, h4⟩ := c0; exact ⟨b, xs, o', h2, h3, RpL.mv m _ _ h4⟩
  · exact c0
  · obtain ⟨c1, P, ht, t1, t2⟩ := c0; exact ⟨c1, P, ht, t1, TabW.mv m rfl t2⟩
  · obtain ⟨h1, h2, h3, ⟨φ, h4, h6⟩, h5⟩ := c0
    obtain ⟨xs, hx⟩ := hx
    refine ⟨h1, ?_, h3, ⟨φ, h4, h6⟩, h5⟩
    rw [e] at h2
    rcases List.mem_cons.mp h2 with z | z
    · rw [z, hx] at h4; cases h4
    · exact z
  · exact ⟨c0.1, EnvR.mv m c0.2⟩
  · obtain ⟨b, C1, dx, vs, h2, h3, h4, h5, h6⟩ := c0; exact ⟨b, C1, dx, vs, h2, h3, h4, h5, RpL.mv m _ _ h6⟩
end

/-! ### targets -/
abbrev FG := D → FEnv → Store → Option (FEnv × Store)
abbrev FGs := List D → FEnv → Store → Option (FEnv × Store)
def GOk (X : Cx) (w : Wd) (H : Hp) (sl : List Nat) (σ : L2.St) (r : Option (FEnv × Store)) (Q : L2.St → Hp → Prop) : Prop := match r with
  | some (ρ', S') => ∀ w' H' σ', Ext w H w' H' → Sto X.K X.mg w' S' H' → EnvR X.K X.mg w' H' ρ' σ' → (∀ i, i ∉ sl → σ'[i]? = σ[i]?) → σ'.length = σ.length → Q σ' H'
  | none => False
def tG (X : Cx) (sl : List Nat) (g : FG) : TG := fun v σ H Q => ∃ w ρ S d, Sto X.K X.mg w S H ∧ EnvR X.K X.mg w H ρ σ ∧ Rp X.K X.mg w H d v ∧ GOk X w H sl σ (g d ρ S) Q
def tGs (X : Cx) (sl : List Nat) (g : FGs) : TGs := fun vs σ H Q => ∃ w ρ S ds, Sto X.K X.mg w S H ∧ EnvR X.K X.mg w H ρ σ ∧ RpL X.K X.mg w H ds vs ∧ GOk X w H sl σ (g ds ρ S) Q
theorem PG.wk {X : Cx} {e : Expr} {t t' : TG} (h : PG X e t) (m : ∀ v σ H Q, t' v σ H Q → t v σ H Q) : PG X e t' := ⟨fun pins s σ H v u Q I r k => h.run pins s σ H v u Q I r (m v σ H Q k)⟩
theorem PGs.wk {X : Cx} {e : List Expr} {t t' : TGs} (h : PGs X e t) (m : ∀ v σ H Q, t' v σ H Q → t v σ H Q) : PGs X e t' := ⟨fun pins s σ H v u Q I r k => h.run pins s σ H v u Q I r (m v σ H Q k)⟩
def gN (i : Nat) : FG := fun d ρ S => some (ρ.set i (some d), S)
def gsNil : FGs := fun ds ρ S => match ds with
  | [] => some (ρ, S)
  | _ => none
def gsCons (g : FG) (gs : FGs) : FGs := fun ds ρ S => match ds with
  | d :: r => (match g d ρ S with
    | some (ρ1, S1) => gs r ρ1 S1
    | none => none)
  | [] => none
def gTu (n : Nat) (gs : FGs) : FG := fun d ρ S => match d with
  | .tup ds => if ds.length = n then gs ds ρ S else none
  | _ => none
def gSetI (o i d : D) (S : Store) : Option Store := match o, i with
  | .loc n, .int k => (match cellM S n with
    | some xs => (match ixN xs.length k with
      | some j => some (S.set n (.lst (xs.set j d)))
      | none => none)
    | none => none)
  | _, _ => none
def gSb (fo fi : FE) : FG := fun d ρ S => match fo ρ S with
  | .ok o S1 => (match fi ρ S1 with
    | .ok i S2 => (match gSetI o i d S2 with
      | some S3 => some (ρ, S3)
      | none => none)
    | _ => none)
  | _ => none
section
variable {X : Cx} {W : WX} {pos : Pos} {e : Expr} {es : List Expr}
theorem GOk.imp {w : Wd} {H : Hp} {sl sl' : List Nat} {σ : L2.St} {r : Option (FEnv × Store)} {Q Q' : L2.St → Hp → Prop} (h : GOk X w H sl σ r Q) (hs : ∀ i, i ∉ sl → i ∉ sl') (hq : ∀ σ H, Q σ H → Q' σ H) : GOk X w H sl' σ r Q' := by
  unfold GOk at h ⊢
  split
  · intro w' H' σ' e s en k l
    exact hq _ _ (h w' H' σ' e s en (fun i hi => k i (hs i hi)) l)
  · exact h
theorem q_gn {i : Nat} {x : Str} (hN : X.N.Nodup) (hi : X.N[i]? = some x) (hx : Loc X.env.scope x) (hf : X.fn x = true ∨ X.env.scope.names.lookup x = some .local := by first | exact .inl rfl | exact .inr rfl | assumption) : PG X (.Name x pos) (tG X [i] (gN i)) :=
  PG.wk (pg_name hN hi hx hf) fun v σ H Q ⟨w, ρ, S, d, s, en, r, h⟩ => h w H _ Ext.refl s (en.set r) (fun j hj => by
    rw [List.getElem?_set_ne (fun z => hj (by rw [z]; exact List.mem_singleton.mpr rfl))]) (by rw [List.length_set])
theorem q_gsnil : PGs X [] (tGs X [] gsNil) := PGs.wk pgs_nil fun v σ H Q ⟨w, ρ, S, ds, s, en, r, h⟩ => by
  unfold gsNil at h
  split at h
  · unfold RpL at r
    exact ⟨r, h w H σ Ext.refl s en (fun _ _ => rfl) rfl⟩
  · exact h.elim
theorem q_gscons {g : FG} {gs : FGs} {sl sl2 : List Nat} (h1 : PG X e (tG X sl g)) (h2 : PGs X es (tGs X sl2 gs)) (hs : (assignEach (e :: es) X.env).map (·.2) = assign e X.env :: (assignEach es X.env).map (·.2) := by rfl) : PGs X (e :: es) (tGs X (sl ++ sl2) (gsCons g gs)) :=
  PGs.wk (pgs_cons h1 h2 hs) fun vs σ H Q ⟨w, ρ, S, ds, s, en, r, h⟩ => by
    unfold gsCons at h
    split at h
    · rename_i d ds'
      unfold RpL at r
      obtain ⟨v, vs', e1, r1, r2⟩ := r
      refine ⟨v, vs', e1, w, ρ, S, d, s, en, r1, ?_⟩
      split at h
      · rename_i ρ1 S1 hg
        rw [hg]
        intro w' H' σ' ex s' en' k l
        refine ⟨w', ρ1, S1, ds', s', en', RpL.ext ex _ _ r2, ?_⟩
        unfold GOk at h ⊢
        split at h
        · intro w2 H2 σ2 ex2 s2 en2 k2 l2
          exact h w2 H2 σ2 (ex.trans ex2) s2 en2 (fun i hi => by
            rw [k2 i (fun z => hi (List.mem_append_right _ z)), k i (fun z => hi (List.mem_append_left _ z))]) (l2.trans l)
        · exact h
      · exact h.elim
    · exact h.elim
theorem q_gtu {k n : Nat} {gs : FGs} {sl : List Nat} (hc : X.calm = true) (h : PGs X es (tGs X sl gs)) (hn : (assignEach es X.env).length = n := by rfl) (hst : (assignEach es X.env).findIdx? (·.1) = none := by rfl) : PG X (.Tuple es k pos) (tG X sl (gTu n gs)) :=
  PG.wk (pg_tup hc h hn hst) fun v σ H Q ⟨w, ρ, S, d, s, en, r, h⟩ => by
    unfold gTu at h
    split at h
    · rename_i ds
      split at h
      · rename_i hl
        obtain ⟨a, xs, e1, t1, q1⟩ := tup_at r
        exact ⟨a, xs, e1, t1, by rw [← q1.length]; exact hl, w, ρ, S, ds, s, en, q1, h⟩
      · exact h.elim
    · exact h.elim
theorem setI_at {w : Wd} {S S' : Store} {H : Hp} {o i d : D} {ov iv v : V} (s : Sto X.K X.mg w S H) (ro : Rp X.K X.mg w H o ov) (ri : Rp X.K X.mg w H i iv) (rd : Rp X.K X.mg w H d v) (h : gSetI o i d S = some S') {Q : Hp → Prop} (hq : ∀ H', Ext w H w H' → Sto X.K X.mg w S' H' → Q H') : rSetL ov iv v H Q := by
  unfold gSetI at h
  split at h
  · rename_i n k
    split at h
    · rename_i xs hx
      split at h
      · rename_i j hj
        cases h
        obtain ⟨a, vs, h1, h2, h3⟩ := cellM_at s hx
        unfold Rp at ro
        refine ⟨a, vs, k, j, ro.2 a h1, rp_int ri, h2, by rw [← h3.length]; exact hj, hq _ (Ext.write h1) (s.write h1 (cellM_lt hx) (h3.set j rd))⟩
      · cases h
    · cases h
  · cases h
theorem q_gsb {o i : Expr} {fo fi : FE} (ho : PE X o (tF X W fo)) (hi : PE X i (tF X W fi)) (ha : ∀ v, assign (.Subscript o i pos) X.env v = (do
      let ov ← holding [v] (eval o X.env)
      let iv ← holding [v, ov] (eval i X.env)
      standAt pos
      holding [v, ov, iv] (setItem ov iv v)
      release [v, ov, iv] []) := by intro _; rfl) : PG X (.Subscript o i pos) (tG X [] (gSb fo fi)) :=
  PG.wk (pg_sub ho hi set_list ha) fun v σ H Q ⟨w, ρ, S, d, s, en, r, h⟩ => by
    unfold gSb at h
    split at h
    · rename_i od S1 h1
      split at h
      · rename_i id S2 h2
        split at h
        · rename_i S3 h3
          refine ⟨w, ρ, S, s, en, ?_⟩
          rw [h1]
          intro w1 H1 ov e1 s1 r1
          refine ⟨w1, ρ, S1, s1, en.ext e1, ?_⟩
          rw [h2]
          intro w2 H2 iv e2 s2 r2
          have ex := e1.trans e2
          refine setI_at s2 (Rp.ext e2 _ _ r1) r2 (Rp.ext ex _ _ r) h3 fun H3 e3 s3 => ?_
          exact h w2 H3 σ (ex.trans e3) s3 (en.ext (ex.trans e3)) (fun _ _ => rfl) rfl
        · exact h.elim
      · exact h.elim
    · exact h.elim
/-- target = value -/
def sAsg (f : FE) (g : FG) : FS := fun ρ S => (f ρ S).toS ρ fun d S1 => match g d ρ S1 with
  | some (ρ', S') => .nx ρ' S'
  | none => .no
theorem q_asg {tg : Expr} {fe : FE} {g : FG} {sl : List Nat} (he : PE X e (tF X W fe)) (hg : PG X tg (tG X sl g)) (hs : swapsWithSole [tg] e pos.line X.env = pure false := by rfl) (hw : swappedStores [tg] e X.env = pure none := by rfl) (h1 : (assignEach [tg] X.env).map (·.2) = [assign tg X.env] := by rfl) : PS X (.Assign [tg] e pos) (tS X W (sAsg fe g)) :=
  PS.wk (ps_asg he hg hs hw h1) fun D σ H ⟨w, ρ, S, s, en, h⟩ => ⟨w, ρ, S, s, en, (h.of (R := fun w H => Rp X.K X.mg w H) en).imp (fun v H1 ⟨w1, S1, d, e1, s1, r1, h1⟩ => by
    refine ⟨w1, ρ, S1, d, s1, en.ext e1, r1, ?_⟩
    split at h1
    · rename_i ρ' S' hg'
      rw [hg']
      intro w2 H2 σ2 e2 s2 en2 _ _
      exact h1 w2 H2 σ2 e2 s2 en2
    · exact h1.elim) (fun _ _ _ z => z)⟩
/-- a, b = x, y -/
def sPar (i j : Nat) (f : FA) : FS := fun ρ S => (f ρ S).toS ρ fun ds S1 => match ds with
  | [x, y] => .nx ((ρ.set i (some x)).set j (some y)) S1
  | _ => .no
theorem q_par {i j : Nat} {x y : Str} {a b : Expr} {fa : FA} {px py pt : Pos} {kt k2 pt2} (hc : X.calm = true) (hN : X.N.Nodup) (hi : X.N[i]? = some x) (hj : X.N[j]? = some y) (hij : i ≠ j)
    (hx : X.env.scope.names.lookup x = some .local) (hy : X.env.scope.names.lookup y = some .local) (ha : PA X [a, b] (tA X W fa))
    (hw : swappedStores [.Tuple [.Name x px, .Name y py] kt pt] (.Tuple [a, b] k2 pt2) X.env = pure (some [x, y]))
    (hs : swapsWithSole [.Tuple [.Name x px, .Name y py] kt pt] (.Tuple [a, b] k2 pt2) pos.line X.env = pure false := by rfl) : PS X (.Assign [.Tuple [.Name x px, .Name y py] kt pt] (.Tuple [a, b] k2 pt2) pos) (tS X W (sPar i j fa)) :=
  PS.wk (ps_par hc hN hi hj hij hx hy ha hw hs) fun D σ H ⟨w, ρ, S, s, en, h⟩ => ⟨w, ρ, S, s, en, (h.of (R := fun w H => RpL X.K X.mg w H) en).imp (fun v H1 ⟨w1, S1, ds, e1, s1, r1, h1⟩ => by
    split at h1
    · obtain ⟨u, t, e2, r2, r3⟩ := r1.two_inv
      exact ⟨u, t, e2, h1.nx' s1 (((en.ext e1).set r2).set r3)⟩
    · exact h1.elim) (fun _ _ _ z => z)⟩
end

/-! ### what is walked -/
abbrev Its' := List D × Option (Nat × List D)
/-- the list that is walked is as it was -/
def gd (g : Option (Nat × List D)) (S : Store) : Prop := match g with
  | none => True
  | some (n, ds) => cellOf S n = some ds
open Classical in
noncomputable def gchk (g : Option (Nat × List D)) (S : Store) {α : Type} (a b : α) : α := if gd g S then a else b
def ItOk (K : PySem.W.Frag) (mg : Str → Option Value) (w : Wd) (H : Hp) (p : Its') (J : It) : Prop :=
  ∀ w' S' H', Mv w H w' H' → Sto K mg w' S' H' → gd p.2 S' → (∀ i, p.1.length ≤ i → J.stop i H') ∧ ∀ i d, p.1[i]? = some d → J.go i H' ∧ ∀ x H'', J.yld i H' x H'' → Ext w' H' w' H'' ∧ Sto K mg w' S' H'' ∧ Rp K mg w' H'' d x
abbrev FI := FEnv → Store → RE Its'
def tI (X : Cx) (W : WX) (f : FI) : TI := fun σ H R => ∃ w ρ S, Sto X.K X.mg w S H ∧ EnvR X.K X.mg w H ρ σ ∧ End X.K X.mg (ItOk X.K X.mg) w H (f ρ S) R (fun c od H' => W c od σ H')
theorem PI.wk {X : Cx} {tg e : Expr} {t t' : TI} (h : PI X tg e t) (m : ∀ σ H R, t' σ H R → t σ H R) : PI X tg e t' := ⟨fun pins s σ H R I k => h.run pins s σ H R I (m σ H R k)⟩
/-- a list or a tuple -/
def iSeq (S : Store) : D → Option Its'
  | .lst ds => some (ds, none)
  | .fls ds => some (ds, none)
  | .loc n => (cellOf S n).map fun ds => (ds, some (n, ds))
  | _ => none
def fiL (f : FE) : FI := fun ρ S => (f ρ S).bnd fun x S1 => match iSeq S1 x with
  | some p => .ok p S1
  | none => .no
def fiT (f : FE) : FI := fun ρ S => (f ρ S).bnd fun x S1 => match x with
  | .tup ds => .ok (ds, none) S1
  | _ => .no
def chrs (z : Str) : List D := z.cps.toList.map fun c => .str ⟨#[c]⟩
def fiS (f : FE) : FI := fun ρ S => (f ρ S).bnd fun x S1 => match x with
  | .str z => .ok (chrs z, none) S1
  | _ => .no
def rngD (lo : Int) : Nat → List D
  | 0 => []
  | n + 1 => .int lo :: rngD (lo + 1) n
def fiR1 (f : FA) : FI := fun ρ S => (f ρ S).bnd fun ds S1 => match ds with
  | [.int j] => if -(2 ^ 62) ≤ j ∧ j < 2 ^ 62 then .ok (rngD 0 j.toNat, none) S1 else .no
  | _ => .no
def fiR2 (f : FA) : FI := fun ρ S => (f ρ S).bnd fun ds S1 => match ds with
  | [.int i, .int j] => if -(2 ^ 62) ≤ i ∧ i < 2 ^ 62 ∧ -(2 ^ 62) ≤ j ∧ j < 2 ^ 62 then .ok (rngD i (j - i).toNat, none) S1 else .no
  | _ => .no
def enumD : Nat → List D → List D
  | _, [] => []
  | i, d :: r => .tup [.int i, d] :: enumD (i + 1) r
def fiE (f : FA) : FI := fun ρ S => (f ρ S).bnd fun ds S1 => match ds with
  | [x] => (match iSeq S1 x with
    | some (xs, g) => .ok (enumD 0 xs, g) S1
    | none => .no)
  | _ => .no
def zipD : List D → List D → List D
  | a :: r, b :: q => .tup [a, b] :: zipD r q
  | _, _ => []
/-- zip of two lists, one of them no cell at least -/
def fiZ (f : FA) : FI := fun ρ S => (f ρ S).bnd fun ds S1 => match ds with
  | [x, y] => (match iSeq S1 x, iSeq S1 y with
    | some (xs, none), some (ys, g) => .ok (zipD xs ys, g) S1
    | some (xs, g), some (ys, none) => .ok (zipD xs ys, g) S1
    | _, _ => .no)
  | _ => .no
section
variable {K : PySem.W.Frag} {mg : Str → Option Value} {w w' : Wd} {H H' : Hp} {S S' : Store}
/-- a walked list, at any later time -/
theorem iSeq_at {x : D} {v : V} {p : Its'} (s : Sto K mg w S H) (r : Rp K mg w H x v) (h : iSeq S x = some p) : ∃ a, v = .ref a ∧ (∃ xs, SqL K H a xs) ∧
    ∀ w' S' H', Mv w H w' H' → Sto K mg w' S' H' → gd p.2 S' → ∃ xs, SqL K H' a xs ∧ RpL K mg w' H' p.1 xs := by
  cases x <;> simp only [iSeq] at h <;> try (cases h; done)
  · cases h
    unfold Rp at r
    obtain ⟨a, xs, e, t, o, q⟩ := r
    refine ⟨a, e, ⟨xs, .of t⟩, fun w' S' H' m s' _ => ?_⟩
    obtain ⟨t', o'⟩ := m.fr a _ t o
    exact ⟨xs, .of t', RpL.mv m _ _ q⟩
  · rename_i n
    simp only [Option.map_eq_some_iff] at h
    obtain ⟨ds, h1, h2⟩ := h
    subst h2
    obtain ⟨a, xs, h3, h4, h5⟩ := cellOf_at s h1
    unfold Rp at r
    refine ⟨a, r.2 a h3, ⟨xs, .inl h4⟩, fun w' S' H' m s' g => ?_⟩
    obtain ⟨b, ys, k3, k4, k5⟩ := cellOf_at s' (show cellOf S' n = some ds from g)
    have := m.ph n b k3 r.1
    rw [h3] at this
    cases this
    exact ⟨ys, .inl k4, k5⟩
  · cases h
    unfold Rp at r
    obtain ⟨a, xs, e, t, q⟩ := r
    refine ⟨a, e, ⟨xs, t.sq⟩, fun w' S' H' m s' _ => ?_⟩
    have t' : Fp K w' H' a xs := by
      rcases t with ⟨o, t, n⟩ | t
      · exact .inl ⟨o, m.fr _ _ t n⟩
      · exact .inr t
    exact ⟨xs, t'.sq, RpL.mv m _ _ q⟩
theorem Rd.inj {a : Addr} {u u' : HO} (h : Rd H a u) (h' : Rd H a u') (n : ∀ o q, u ≠ .frz o q) (n' : ∀ o q, u' ≠ .frz o q) : u = u' := by
  rcases h with h | ⟨o, h⟩ <;> rcases h' with h' | ⟨o', h'⟩
  · rw [h] at h'; cases h'; rfl
  · rw [h] at h'; cases h'; exact absurd rfl (n _ _)
  · rw [h] at h'; cases h'; exact absurd rfl (n' _ _)
  · rw [h] at h'; cases h'; rfl
theorem itl_ok {x : D} {v : V} {p : Its'} (s : Sto K mg w S H) (r : Rp K mg w H x v) (h : iSeq S x = some p) {R : It → Hp → Prop} {E : Value → Option Addr → Hp → Prop} (he : End K mg (ItOk K mg) w H (.ok p S) R E) : ∃ a, v = .ref a ∧ (∃ xs, SqL K H a xs) ∧ R (Itl K a) H := by
  obtain ⟨a, e, ex, k⟩ := iSeq_at s r h
  refine ⟨a, e, ex, he w H _ Ext.refl s fun w' S' H' m s' g => ?_⟩
  obtain ⟨xs, q1, q2⟩ := k w' S' H' m s' g
  refine ⟨fun i hi => ⟨xs, q1, by rw [← q2.length]; exact hi⟩, fun i d hd => ?_⟩
  obtain ⟨u, h1, h2⟩ := q2.get hd
  refine ⟨⟨xs, u, q1, h1⟩, fun y H'' hy => ?_⟩
  obtain ⟨rfl, hy⟩ := hy
  have := hy xs q1
  rw [h1] at this
  cases this
  exact ⟨Ext.refl, s', h2⟩
theorem enumD_get : ∀ (l : List D) (k i : Nat) (d : D), (enumD k l)[i]? = some d → ∃ y, l[i]? = some y ∧ d = .tup [.int ((k + i : Nat) : Int), y]
  | [], k, i, d, h => by simp [enumD] at h
  | y :: l, k, 0, d, h => by simp [enumD] at h; exact ⟨y, rfl, by rw [← h]; rfl⟩
  | y :: l, k, i + 1, d, h => by
    simp only [enumD, List.getElem?_cons_succ] at h
    obtain ⟨z, h1, h2⟩ := enumD_get l (k + 1) i d h
    exact ⟨z, by simpa using h1, by rw [h2]; rw [show k + 1 + i = k + (i + 1) by omega]⟩
theorem enumD_len : ∀ (l : List D) (k : Nat), (enumD k l).length = l.length
  | [], _ => rfl
  | _ :: l, k => by simp [enumD, enumD_len l (k + 1)]
theorem zipD_get : ∀ (l m : List D) (i : Nat) (d : D), (zipD l m)[i]? = some d → ∃ x y, l[i]? = some x ∧ m[i]? = some y ∧ d = .tup [x, y]
  | [], _, i, d, h => by simp [zipD] at h
  | _ :: _, [], i, d, h => by simp [zipD] at h
  | x :: l, y :: m, 0, d, h => by simp [zipD] at h; exact ⟨x, y, rfl, rfl, h.symm⟩
  | x :: l, y :: m, i + 1, d, h => by
    simp only [zipD, List.getElem?_cons_succ] at h
    obtain ⟨a, b, h1, h2, h3⟩ := zipD_get l m i d h
    exact ⟨a, b, by simpa using h1, by simpa using h2, h3⟩
theorem zipD_len : ∀ (l m : List D), (zipD l m).length = min l.length m.length
  | [], _ => by simp [zipD]
  | _ :: _, [] => by simp [zipD]
  | x :: l, y :: m => by simp [zipD, zipD_len l m]
theorem pair_new {p : Addr} {d e : D} {x y : V} (s : Sto K mg w S H) (np : H p = none) (r1 : Rp K mg w H d x) (r2 : Rp K mg w H e y) : Ext w H w (upd H p (.tup [x, y])) ∧ Sto K mg w S (upd H p (.tup [x, y])) ∧ Rp K mg w (upd H p (.tup [x, y])) (.tup [d, e]) (.ref p) := by
  have ex : Ext w H w (upd H p (.tup [x, y])) := Ext.new np
  refine ⟨ex, s.beside np, ?_⟩
  unfold Rp
  exact ⟨p, _, rfl, .inl ⟨upd_same, s.new np⟩, RpL.cons (Rp.ext ex _ _ r1) (RpL.one (Rp.ext ex _ _ r2))⟩
end
section
variable {X : Cx} {W : WX} {tg e e2 : Expr} {fe : FE} {fa : FA} {p pos : Pos}
theorem qi_list (he : PE X e (tF X W fe)) : PI X tg e (tI X W (fiL fe)) := PI.wk (pi_list he) fun σ H R ⟨w, ρ, S, s, en, h⟩ =>
  ⟨w, ρ, S, s, en, (End.bind (R := fun w H => Rp X.K X.mg w H) h).imp (fun v H1 ⟨w1, S1, d, e1, s1, r1, h1⟩ => by
    split at h1
    · rename_i q hq; exact itl_ok s1 r1 hq h1
    · exact h1.elim) (fun _ _ _ z => z)⟩
theorem qi_tup (he : PE X e (tF X W fe)) : PI X tg e (tI X W (fiT fe)) := PI.wk (pi_tup he) fun σ H R ⟨w, ρ, S, s, en, h⟩ =>
  ⟨w, ρ, S, s, en, (End.bind (R := fun w H => Rp X.K X.mg w H) h).imp (fun v H1 ⟨w1, S1, d, e1, s1, r1, h1⟩ => by
    split at h1
    · rename_i ds
      have r1' := r1
      unfold Rp at r1'
      obtain ⟨a, xs, e, t, q⟩ := r1'
      refine ⟨a, e, ⟨xs, t.sq⟩, h1 w1 H1 _ Ext.refl s1 fun w' S' H' m s' g => ?_⟩
      have t' : SqT X.K H' a xs := by
        rcases t with ⟨t, o⟩ | t
        · exact .of (m.fr a _ t o).1
        · exact .inr t
      have q' := RpL.mv m _ _ q
      refine ⟨fun i hi => ⟨xs, t', by rw [← q.length]; exact hi⟩, fun i d hd => ?_⟩
      obtain ⟨u, k1, k2⟩ := q'.get hd
      refine ⟨⟨xs, u, t', k1⟩, fun y H'' hy => ?_⟩
      obtain ⟨rfl, hy⟩ := hy
      have := hy xs t'
      rw [k1] at this
      cases this
      exact ⟨Ext.refl, s', k2⟩
    · exact h1.elim) (fun _ _ _ z => z)⟩
theorem qi_str (he : PE X e (tF X W fe)) : PI X tg e (tI X W (fiS fe)) := PI.wk (pi_str he) fun σ H R ⟨w, ρ, S, s, en, h⟩ =>
  ⟨w, ρ, S, s, en, (End.bind (R := fun w H => Rp X.K X.mg w H) h).imp (fun v H1 ⟨w1, S1, d, e1, s1, r1, h1⟩ => by
    split at h1
    · rename_i z
      refine ⟨z, rp_str r1, h1 w1 H1 _ Ext.refl s1 fun w' S' H' m s' g => ?_⟩
      refine ⟨fun i hi => (show z.cps.size ≤ i by simpa [chrs] using hi), fun i d hd => ?_⟩
      have hd' : ∃ c, z.cps.toList[i]? = some c ∧ d = .str ⟨#[c]⟩ := by
        simp only [chrs, List.getElem?_map, Option.map_eq_some_iff] at hd
        obtain ⟨c, a, b⟩ := hd
        exact ⟨c, a, b.symm⟩
      obtain ⟨c, k1, k2⟩ := hd'
      rw [Array.getElem?_toList] at k1
      refine ⟨(Array.getElem?_eq_some_iff.mp k1).1, fun y H'' hy => ?_⟩
      obtain ⟨rfl, c', k3, rfl⟩ := hy
      rw [k1] at k3
      cases k3
      subst k2
      exact ⟨Ext.refl, s', rp_s⟩
    · exact h1.elim) (fun _ _ _ z => z)⟩
theorem rngD_len : ∀ (n : Nat) (lo : Int), (rngD lo n).length = n
  | 0, _ => rfl
  | n + 1, lo => by simp [rngD, rngD_len n (lo + 1)]
theorem rngD_get : ∀ (n : Nat) (lo : Int) (i : Nat) (d : D), (rngD lo n)[i]? = some d → i < n ∧ d = .int (lo + i)
  | 0, lo, i, d, h => by simp [rngD] at h
  | n + 1, lo, 0, d, h => by simp [rngD] at h; exact ⟨Nat.succ_pos _, by rw [← h]; simp⟩
  | n + 1, lo, i + 1, d, h => by
    simp only [rngD, List.getElem?_cons_succ] at h
    obtain ⟨h1, h2⟩ := rngD_get n (lo + 1) i d h
    exact ⟨Nat.succ_lt_succ h1, by rw [h2]; congr 1; omega⟩
theorem rng_ok {K : PySem.W.Frag} {mg : Str → Option Value} {w : Wd} {H : Hp} (lo : Int) (n : Nat) : ItOk K mg w H (rngD lo n, none) (Itr lo n) := by
  intro w' S' H' m s' g
  refine ⟨fun i hi => (show n ≤ i by have h2 : (rngD lo n).length ≤ i := hi; rw [rngD_len] at h2; exact h2), fun i d hd => ?_⟩
  obtain ⟨h1, rfl⟩ := rngD_get n lo i d hd
  refine ⟨h1, fun y H'' hy => ?_⟩
  obtain ⟨rfl, rfl⟩ := hy
  exact ⟨Ext.refl, s', rp_i⟩
theorem qi_range1 (hg : Gl X "range") (hm : X.mg "range" = none) (ha : PA X [e] (tA X W fa)) (hs : starEach [e] X.env = [(false, eval e X.env)] := by rfl) : PI X tg (.Call (.Name "range" p) [e] [] pos) (tI X W (fiR1 fa)) := PI.wk (pi_range1 hg hm ha hs) fun σ H R ⟨w, ρ, S, s, en, h⟩ =>
  ⟨w, ρ, S, s, en, (End.bind (R := fun w H => RpL X.K X.mg w H) h).imp (fun vs H1 ⟨w1, S1, ds, e1, s1, r1, h1⟩ => by
    split at h1
    · split at h1
      · rename_i j hj
        obtain ⟨v, rfl, r2⟩ := r1.one_inv
        exact ⟨j, by rw [rp_int r2], hj.1, hj.2, h1.ret s1 (rng_ok 0 _)⟩
      · exact h1.elim
    · exact h1.elim) (fun _ _ _ z => z)⟩
theorem qi_range2 (hg : Gl X "range") (hm : X.mg "range" = none) (ha : PA X [e, e2] (tA X W fa)) (hs : starEach [e, e2] X.env = [(false, eval e X.env), (false, eval e2 X.env)] := by rfl) (hs2 : starEach [e2] X.env = [(false, eval e2 X.env)] := by rfl) : PI X tg (.Call (.Name "range" p) [e, e2] [] pos) (tI X W (fiR2 fa)) := PI.wk (pi_range2 hg hm ha hs hs2) fun σ H R ⟨w, ρ, S, s, en, h⟩ =>
  ⟨w, ρ, S, s, en, (End.bind (R := fun w H => RpL X.K X.mg w H) h).imp (fun vs H1 ⟨w1, S1, ds, e1, s1, r1, h1⟩ => by
    split at h1
    · split at h1
      · rename_i i j hj
        obtain ⟨v, u, rfl, r2, r3⟩ := r1.two_inv
        exact ⟨i, j, by rw [rp_int r2, rp_int r3], hj, h1.ret s1 (rng_ok _ _)⟩
      · exact h1.elim
    · exact h1.elim) (fun _ _ _ z => z)⟩
theorem qi_enum {elts : List Expr} {kk : Nat} {tpos : Pos} (hg : Gl X "enumerate") (hm : X.mg "enumerate" = none) (ha : PA X [e] (tA X W fa)) (hs : starEach [e] X.env = [(false, eval e X.env)] := by rfl) : PI X (.Tuple elts kk tpos) (.Call (.Name "enumerate" p) [e] [] pos) (tI X W (fiE fa)) := PI.wk (pi_enum hg hm ha hs) fun σ H R ⟨w, ρ, S, s, en, h⟩ =>
  ⟨w, ρ, S, s, en, (End.bind (R := fun w H => RpL X.K X.mg w H) h).imp (fun vs H1 ⟨w1, S1, ds, e1, s1, r1, h1⟩ => by
    split at h1
    · rename_i x
      split at h1
      · rename_i xs g hx
        obtain ⟨v, rfl, r2⟩ := r1.one_inv
        obtain ⟨a, e, ⟨ys, ey⟩, k⟩ := iSeq_at s1 r2 hx
        refine ⟨a, ys, by rw [e], ey, h1.ret s1 fun w' S' H' m s' g' => ?_⟩
        obtain ⟨zs, q1, q2⟩ := k w' S' H' m s' g'
        refine ⟨fun i hi => ⟨zs, q1, ?_⟩, fun i d hd => ?_⟩
        · have h2 : (enumD 0 xs).length ≤ i := hi
          rw [enumD_len] at h2
          rw [← q2.length]; exact h2
        · obtain ⟨y, k1, k2⟩ := enumD_get _ _ _ _ hd
          obtain ⟨u, k3, k4⟩ := q2.get k1
          refine ⟨⟨zs, u, q1, k3⟩, fun z H'' hz => ?_⟩
          obtain ⟨T, x', rfl, nT, rfl, hx'⟩ := hz
          have := hx' zs q1
          rw [k3] at this
          cases this
          subst k2
          have pr := pair_new (d := .int ((0 + i : Nat) : Int)) s' nT rp_i k4
          rw [Nat.zero_add] at pr ⊢
          exact pr
      · exact h1.elim
    · exact h1.elim) (fun _ _ _ z => z)⟩
theorem zip_ok {K : PySem.W.Frag} {mg : Str → Option Value} {w : Wd} {H : Hp} {S : Store} {x y : D} {v u : V} {xs ys : List D} {g1 g2 g : Option (Nat × List D)} {R : It → Hp → Prop} {E : Value → Option Addr → Hp → Prop} (s : Sto K mg w S H) (r1 : Rp K mg w H x v) (r2 : Rp K mg w H y u)
    (h1 : iSeq S x = some (xs, g1)) (h2 : iSeq S y = some (ys, g2)) (hg : ∀ S', gd g S' → gd g1 S' ∧ gd g2 S') (he : End K mg (ItOk K mg) w H (.ok (zipD xs ys, g) S) R E) : ∃ a b as bs, [v, u] = [.ref a, .ref b] ∧ SqL K H a as ∧ SqL K H b bs ∧ R (Itz K a b) H := by
  obtain ⟨a, e1, ⟨as, ea⟩, k1⟩ := iSeq_at s r1 h1
  obtain ⟨b, e2, ⟨bs, eb⟩, k2⟩ := iSeq_at s r2 h2
  refine ⟨a, b, as, bs, by rw [e1, e2], ea, eb, he.ret s fun w' S' H' m s' g' => ?_⟩
  obtain ⟨zs, q1, q2⟩ := k1 w' S' H' m s' (hg _ g').1
  obtain ⟨us, p1, p2⟩ := k2 w' S' H' m s' (hg _ g').2
  refine ⟨fun i hi => ⟨zs, us, q1, p1, ?_⟩, fun i d hd => ?_⟩
  · have h3 : (zipD xs ys).length ≤ i := hi
    rw [zipD_len] at h3
    rw [← q2.length, ← p2.length]
    show xs.length ≤ i ∨ ys.length ≤ i
    omega
  · obtain ⟨d1, d2, t1, t2, t3⟩ := zipD_get _ _ _ _ hd
    obtain ⟨v1, t4, t5⟩ := q2.get t1
    obtain ⟨v2, t6, t7⟩ := p2.get t2
    refine ⟨⟨zs, us, v1, v2, q1, p1, t4, t6⟩, fun z H'' hz => ?_⟩
    obtain ⟨T, x', y', rfl, nT, rfl, hx', hy'⟩ := hz
    have z1 := hx' zs q1
    have z2 := hy' us p1
    rw [t4] at z1; rw [t6] at z2
    cases z1; cases z2
    subst t3
    exact pair_new s' nT t5 t7
theorem qi_zip {elts : List Expr} {kk : Nat} {tpos : Pos} (hg : Gl X "zip") (hm : X.mg "zip" = none) (ha : PA X [e, e2] (tA X W fa)) (hs : starEach [e, e2] X.env = (false, eval e X.env) :: starEach [e2] X.env := by rfl) (hpl : (backTo pos (starEach [e2] X.env)).any (·.1) = false := by rfl) : PI X (.Tuple elts kk tpos) (.Call (.Name "zip" p) [e, e2] [] pos) (tI X W (fiZ fa)) := PI.wk (pi_zip hg hm ha hs hpl) fun σ H R ⟨w, ρ, S, s, en, h⟩ =>
  ⟨w, ρ, S, s, en, (End.bind (R := fun w H => RpL X.K X.mg w H) h).imp (fun vs H1 ⟨w1, S1, ds, e1, s1, r1, h1⟩ => by
    split at h1
    · rename_i x y
      obtain ⟨v, u, rfl, r2, r3⟩ := r1.two_inv
      split at h1
      · rename_i xs ys g hx hy; exact zip_ok s1 r2 r3 hx hy (fun S' g' => ⟨trivial, g'⟩) h1
      · rename_i xs g ys hx hy; exact zip_ok s1 r2 r3 hx hy (fun S' g' => ⟨g', trivial⟩) h1
      · exact h1.elim
    · exact h1.elim) (fun _ _ _ z => z)⟩
end

/-! ### for -/
noncomputable def forL (tg : FG) (b : FS) (g : Option (Nat × List D)) : List D → FS
  | [] => fun ρ S => gchk g S (.nx ρ S) .no
  | d :: r => fun ρ S => gchk g S (match tg d ρ S with
    | some (ρ1, S1) => (match b ρ1 S1 with
      | .nx ρ2 S2 => forL tg b g r ρ2 S2
      | .ct ρ2 S2 => forL tg b g r ρ2 S2
      | .bk ρ2 S2 => .nx ρ2 S2
      | z => z)
    | none => .no) .no
noncomputable def sFor (fi : FI) (tg : FG) (b : FS) : FS := fun ρ S => (fi ρ S).toS ρ fun p S1 => forL tg b p.2 p.1 ρ S1
theorem gchk_in {K : PySem.W.Frag} {mg : Str → Option Value} {w : Wd} {H : Hp} {D : Ends} {W : WX} {g : Option (Nat × List Kw.D)} {S : Store} {r : RS} (h : EndS K mg w H (gchk g S r .no) D W) : gd g S ∧ EndS K mg w H r D W := by
  unfold gchk at h
  split at h
  · rename_i k; exact ⟨k, h⟩
  · exact h.elim
section
variable {X : Cx} {W : WX} {tg iter : Expr} {body : List Stmt} {fi : FI} {g : FG} {sl : List Nat} {b : FS} {pos : Pos}
theorem q_for (hp : PassesOwn (model X.prog X.w) X.A X.env X.xe) (hc : X.calm = true) (hi : PI X tg iter (tI X W fi)) (hg : PG X tg (tG X sl g)) (hb : PSs X body (tS X W b)) (hs : ∀ x, foldedSetIterable iter X.env x = pure x := by intro _; rfl) : PS X (.For tg iter body [] pos) (tS X W (sFor fi g b)) :=
  PS.wk (ps_for hp hc hi hg hb hs) fun D σ H ⟨w, ρ, S, s, en, h⟩ => by
    refine ⟨w, ρ, S, s, en, (h.of (R := ItOk X.K X.mg) en).imp ?_ (fun _ _ _ z => z)⟩
    rintro J H1 ⟨w1, S1, ⟨items, gu⟩, e1, s1, J1, h1⟩
    refine ⟨fun i m σ' H' => ∃ w' ρ' S', i + m = items.length ∧ Ext w1 H1 w' H' ∧ Sto X.K X.mg w' S' H' ∧ EnvR X.K X.mg w' H' ρ' σ' ∧ EndS X.K X.mg w' H' (forL g b gu (items.drop i) ρ' S') D W, ⟨items.length, w1, ρ, S1, by omega, Ext.refl, s1, en.ext e1, h1⟩, ?_⟩
    rintro i m σ' H' ⟨w', ρ', S', hm, ex, s', en', h2⟩
    cases hd : items.drop i with
    | nil =>
      rw [hd] at h2
      unfold forL at h2
      obtain ⟨gd1, h3⟩ := gchk_in h2
      have hl : items.length ≤ i := List.drop_eq_nil_iff.mp hd
      exact .inl ⟨(J1 w' S' H' ex.mv s' gd1).1 i hl, h3.nx' s' en'⟩
    | cons d r =>
      rw [hd] at h2
      unfold forL at h2
      obtain ⟨gd1, h3⟩ := gchk_in h2
      have hi' : items[i]? = some d := by
        have := congrArg (·[0]?) hd
        simpa using this
      have hr : items.drop (i + 1) = r := by
        have := congrArg List.tail hd
        simpa using this
      have hlt : i < items.length := (List.getElem?_eq_some_iff.mp hi').1
      obtain ⟨j1, j2⟩ := (J1 w' S' H' ex.mv s' gd1).2 i d hi'
      refine .inr ⟨j1, fun σ2 H2 => ∃ w2 ρ2 S2, Ext w1 H1 w2 H2 ∧ Sto X.K X.mg w2 S2 H2 ∧ EnvR X.K X.mg w2 H2 ρ2 σ2 ∧ EndS X.K X.mg w2 H2 (forL g b gu r ρ2 S2) D W, ?_, ?_⟩
      · rintro σ2 H2 ⟨w2, ρ2, S2, a1, a2, a3, a4⟩
        exact ⟨m - 1, by omega, w2, ρ2, S2, by omega, a1, a2, a3, by rw [hr]; exact a4⟩
      · intro x H'' hy
        obtain ⟨j3, j4, j5⟩ := j2 x H'' hy
        have h3' := h3.on j3
        refine ⟨w', ρ', S', d, j4, en'.ext j3, j5, ?_⟩
        split at h3'
        · rename_i ρ1 S1' hg1
          rw [hg1]
          intro w2 H2 σ2 e2 s2 en2 _ _
          have h4 := h3'.on e2
          have ex2 : Ext w1 H1 w2 H2 := (ex.trans j3).trans e2
          refine ⟨w2, ρ1, S1', s2, en2, ?_⟩
          revert h4
          cases b ρ1 S1' with
          | nx ρ3 S3 => exact fun h4 w3 H3 σ3 e3 s3 en3 => ⟨w3, ρ3, S3, ex2.trans e3, s3, en3, h4.on e3⟩
          | ct ρ3 S3 => exact fun h4 w3 H3 σ3 e3 s3 en3 => ⟨w3, ρ3, S3, ex2.trans e3, s3, en3, h4.on e3⟩
          | bk ρ3 S3 => exact fun h4 => h4
          | rt d S3 => exact fun h4 => h4
          | ex x ρ3 S3 => exact fun h4 => h4
          | no => exact fun h4 => h4
        · exact h3'.elim
end

/-! ### while -/
def wLoop (c : FT) (b : FS) : Nat → FS
  | 0 => fun _ _ => .no
  | n + 1 => fun ρ S => (c ρ S).toS ρ fun k S1 => match k with
    | true => (match b ρ S1 with
      | .nx ρ2 S2 => wLoop c b n ρ2 S2
      | .ct ρ2 S2 => wLoop c b n ρ2 S2
      | .bk ρ2 S2 => .nx ρ2 S2
      | z => z)
    | false => .nx ρ S1
open Classical in
noncomputable def sWhile (c : FT) (b : FS) : FS := fun ρ S => if h : ∃ n, wLoop c b n ρ S ≠ .no then wLoop c b (choose h) ρ S else .no
theorem wLoop_mono {c : FT} {b : FS} : ∀ {n m : Nat} {ρ : FEnv} {S : Store}, n ≤ m → wLoop c b n ρ S ≠ .no → wLoop c b m ρ S = wLoop c b n ρ S
  | 0, _, _, _, _, h => absurd rfl h
  | n + 1, 0, _, _, l, _ => absurd l (by omega)
  | n + 1, m + 1, ρ, S, l, h => by
    unfold wLoop at h ⊢
    cases hc : c ρ S with
    | ok k S1 =>
      rw [hc] at h
      cases k with
      | true =>
        simp only [RE.toS] at h ⊢
        cases hb : b ρ S1 with
        | nx ρ2 S2 =>
          rw [hb] at h
          exact wLoop_mono (Nat.le_of_succ_le_succ l) h
        | ct ρ2 S2 =>
          rw [hb] at h
          exact wLoop_mono (Nat.le_of_succ_le_succ l) h
        | _ => rfl
      | false => rfl
    | _ => rfl
theorem sWhile_eq {c : FT} {b : FS} {n : Nat} {ρ : FEnv} {S : Store} (h : wLoop c b n ρ S ≠ .no) : sWhile c b ρ S = wLoop c b n ρ S := by
  unfold sWhile
  have hx : ∃ n, wLoop c b n ρ S ≠ .no := ⟨n, h⟩
  rw [dif_pos hx]
  have hk := Classical.choose_spec hx
  rcases Nat.le_total n (Classical.choose hx) with l | l
  · exact wLoop_mono l h
  · exact (wLoop_mono l hk).symm
/-- one turn -/
theorem sWhile_step (c : FT) (b : FS) (ρ : FEnv) (S : Store) : sWhile c b ρ S = (c ρ S).toS ρ fun k S1 => match k with
    | true => (match b ρ S1 with
      | .nx ρ2 S2 => sWhile c b ρ2 S2
      | .ct ρ2 S2 => sWhile c b ρ2 S2
      | .bk ρ2 S2 => .nx ρ2 S2
      | z => z)
    | false => .nx ρ S1 := by
  by_cases hx : ∃ n, wLoop c b n ρ S ≠ .no
  · obtain ⟨n, hn⟩ := hx
    cases n with
    | zero => exact absurd rfl hn
    | succ n =>
      rw [sWhile_eq hn]
      unfold wLoop at hn ⊢
      cases hc : c ρ S with
      | ok k S1 =>
        rw [hc] at hn
        cases k with
        | true =>
          simp only [RE.toS] at hn ⊢
          cases hb : b ρ S1 with
          | nx ρ2 S2 => rw [hb] at hn; exact (sWhile_eq hn).symm
          | ct ρ2 S2 => rw [hb] at hn; exact (sWhile_eq hn).symm
          | _ => rfl
        | false => rfl
      | _ => rfl
  · have e0 : sWhile c b ρ S = .no := by unfold sWhile; rw [dif_neg hx]
    rw [e0]
    have key : ∀ n, wLoop c b n ρ S = .no := fun n => Classical.byContradiction fun z => hx ⟨n, z⟩
    cases hc : c ρ S with
    | ok k S1 =>
      cases k with
      | true =>
        simp only [RE.toS]
        have k1 : ∀ n, (match b ρ S1 with
            | .nx ρ2 S2 => wLoop c b n ρ2 S2
            | .ct ρ2 S2 => wLoop c b n ρ2 S2
            | .bk ρ2 S2 => .nx ρ2 S2
            | z => z) = RS.no := fun n => by
          have := key (n + 1)
          unfold wLoop at this
          rw [hc] at this
          exact this
        cases hb : b ρ S1 with
        | nx ρ2 S2 =>
          simp only [hb] at k1
          show RS.no = sWhile c b ρ2 S2
          unfold sWhile
          rw [dif_neg (fun ⟨n, hn⟩ => hn (k1 n))]
        | ct ρ2 S2 =>
          simp only [hb] at k1
          show RS.no = sWhile c b ρ2 S2
          unfold sWhile
          rw [dif_neg (fun ⟨n, hn⟩ => hn (k1 n))]
        | rt d1 S2 => have z := k1 0; rw [hb] at z; exact (nomatch z)
        | ex d1 ρ2 S2 => have z := k1 0; rw [hb] at z; exact (nomatch z)
        | bk ρ2 S2 => have z := k1 0; rw [hb] at z; exact (nomatch z)
        | no => rfl
      | false =>
        have := key 1
        unfold wLoop at this
        rw [hc] at this
        exact this.symm
    | ex x S1 =>
      have := key 1
      unfold wLoop at this
      rw [hc] at this
      exact this.symm
    | no => rfl
section
variable {X : Cx} {W : WX} {c : Expr} {body : List Stmt} {tc : FT} {b : FS} {pos : Pos}
theorem q_while (hp : PassesOwn (model X.prog X.w) X.A X.env X.xe) (hc : PT X c (tT X W tc)) (hb : PSs X body (tS X W b)) : PS X (.While c body [] pos) (tS X W (sWhile tc b)) :=
  PS.wk (ps_while hp hc hb) fun D σ H ⟨w, ρ, S, s, en, h⟩ => by
    refine ⟨fun m σ' H' => ∃ w' ρ' S', Sto X.K X.mg w' S' H' ∧ EnvR X.K X.mg w' H' ρ' σ' ∧ EndS X.K X.mg w' H' (wLoop tc b m ρ' S') D W, ?_, ?_⟩
    · unfold sWhile at h
      split at h
      · exact ⟨_, w, ρ, S, s, en, h⟩
      · exact h.elim
    · rintro m σ' H' ⟨w', ρ', S', s', en', h'⟩
      cases m with
      | zero => exact h'.elim
      | succ n =>
        unfold wLoop at h'
        refine ⟨w', ρ', S', s', en', (h'.of (R := fun _ _ (a b : Bool) => b = a) en').imp ?_ (fun _ _ _ z => z)⟩
        rintro k H1 ⟨w1, S1, k', e1, s1, rfl, h1⟩
        cases k with
        | false => rw [if_neg (by decide)]; exact h1.nx' s1 (en'.ext e1)
        | true =>
          rw [if_pos rfl]
          refine ⟨fun σ2 H2 => ∃ w2 ρ2 S2, Sto X.K X.mg w2 S2 H2 ∧ EnvR X.K X.mg w2 H2 ρ2 σ2 ∧ EndS X.K X.mg w2 H2 (wLoop tc b n ρ2 S2) D W, fun σ2 H2 h2 => ⟨n, Nat.lt_succ_self n, h2⟩, w1, ρ', S1, s1, en'.ext e1, ?_⟩
          revert h1
          cases b ρ' S1 with
          | nx ρ3 S3 => exact fun h4 w3 H3 σ3 e3 s3 en3 => ⟨w3, ρ3, S3, s3, en3, h4.on e3⟩
          | ct ρ3 S3 => exact fun h4 w3 H3 σ3 e3 s3 en3 => ⟨w3, ρ3, S3, s3, en3, h4.on e3⟩
          | bk ρ3 S3 => exact fun h4 => h4
          | rt d S3 => exact fun h4 => h4
          | ex x ρ3 S3 => exact fun h4 => h4
          | no => exact fun h4 => h4
end

/-! ### comprehensions -/
def wipeR (ρ : FEnv) : List Nat → FEnv
  | [] => ρ
  | v :: vs => (wipeR ρ vs).set v none
noncomputable def compL (tg : FG) (tt : FT) (te : FE) (g : Option (Nat × List D)) (ρ : FEnv) : List D → List D → Store → RE (List D)
  | [], acc, S => gchk g S (.ok acc S) .no
  | d :: r, acc, S => gchk g S (match tg d ρ S with
    | some (ρ1, S1) => (match tt ρ1 S1 with
      | .ok true S2 => (match te ρ1 S2 with
        | .ok y S3 => if acc.length < sizeLine then compL tg tt te g ρ r (acc ++ [y]) S3 else .no
        | _ => .no)
      | .ok false S2 => compL tg tt te g ρ r acc S2
      | _ => .no)
    | none => .no) .no
/-- c: the list is a cell -/
noncomputable def fLc (c : Bool) (fi : FI) (tg : FG) (tt : FT) (te : FE) (vs : List Nat) : FE := fun ρ S => (fi ρ S).bnd fun p S1 => match compL tg tt te p.2 (wipeR ρ vs) p.1 [] S1 with
  | .ok acc S2 => if c then .ok (.loc S2.length) (S2 ++ [.lst acc]) else .ok (.lst acc) S2
  | _ => .no
def fYes : FT := fun _ S => .ok true S
abbrev W0 : WX := fun _ _ _ _ => False
theorem gchk_in' {K : PySem.W.Frag} {mg : Str → Option Value} {α β : Type} {R : Wd → Hp → α → β → Prop} {w : Wd} {H : Hp} {Q : β → Hp → Prop} {E : Value → Option Addr → Hp → Prop} {g : Option (Nat × List Kw.D)} {S : Store} {r : RE α} {k : RE α → Prop} (h : k (gchk g S r .no)) (hn : ¬ k .no) : gd g S ∧ k r := by
  unfold gchk at h
  split at h
  · rename_i z; exact ⟨z, h⟩
  · exact absurd h hn
theorem wipe_eq {σ σ' : L2.St} {vs : List Nat} (hl : σ'.length = σ.length) (h : ∀ i, i ∉ vs → σ'[i]? = σ[i]?) : wipe σ' vs = wipe σ vs := by
  have len : ∀ (σ : L2.St) (vs : List Nat), (wipe σ vs).length = σ.length := fun σ vs => wipe_length σ vs
  have at1 : ∀ (σ : L2.St) (vs : List Nat) (i : Nat), i < σ.length → (wipe σ vs)[i]? = if i ∈ vs then some none else σ[i]? := by
    intro σ vs
    induction vs with
    | nil => intro i _; rw [if_neg (by simp)]; rfl
    | cons v vs ih =>
      intro i hi
      show ((wipe σ vs).set v none)[i]? = _
      by_cases e : i = v
      · subst e
        rw [List.getElem?_set_self (by rw [len]; exact hi), if_pos (by simp)]
      · rw [List.getElem?_set_ne (Ne.symm e), ih i hi]
        by_cases m : i ∈ vs
        · rw [if_pos m, if_pos (List.mem_cons_of_mem _ m)]
        · rw [if_neg m, if_neg (by simp [e, m])]
  refine List.ext_getElem? fun i => ?_
  by_cases hi : i < σ.length
  · rw [at1 σ' vs i (hl ▸ hi), at1 σ vs i hi]
    split
    · rfl
    · rename_i m; exact h i m
  · rw [List.getElem?_eq_none (by rw [len, hl]; omega), List.getElem?_eq_none (by rw [len]; omega)]
theorem EnvR.wipe {K : PySem.W.Frag} {mg : Str → Option Value} {w : Wd} {H : Hp} {ρ : FEnv} {σ : L2.St} (en : EnvR K mg w H ρ σ) : ∀ vs : List Nat, EnvR K mg w H (wipeR ρ vs) (L2.wipe σ vs)
  | [] => en
  | v :: vs => (EnvR.wipe en vs).wipe1
theorem wipe_wipe (σ : L2.St) (vs : List Nat) : L2.wipe (L2.wipe σ vs) vs = L2.wipe σ vs := wipe_eq (wipe_length σ vs) fun i hi => wipe_out hi
section
variable {X : Cx} {W : WX} {elt tg iter : Expr} {ifs : List Expr} {scope : Scope} {own : List (Str × Nat)} {pos : Pos} {fi : FI} {g : FG} {sl : List Nat} {tt : FT} {te : FE}
theorem qts_nil : PTs X [] (tT X W fYes) := ⟨fun pins s σ H Q I ⟨w, ρ, S, st, en, h⟩ => pts_nil.run pins s σ H Q I (h.ret st rfl)⟩
theorem qts_one {c : Expr} {t : FT} (h : PT X c (tT X W t)) : PTs X [c] (tT X W t) := pts_one h
/-- the reading of a comprehension -/
theorem lc_core' {σ : L2.St} {H : Hp} {Q : VK} {c : Bool} {vs : List Nat} (hsl : ∀ i ∈ sl, i ∈ vs) (h : tF X W (fLc c fi g tt te vs) σ H Q) : tLc (tI X W fi) (tG X sl g) (tT X W0 tt) (tF X W0 te) vs σ H Q := by
  obtain ⟨w, ρ, S, s, en, h⟩ := h
  refine ⟨w, ρ, S, s, en, (End.bind (R := ItOk X.K X.mg) h).imp ?_ (fun _ _ _ z => z)⟩
  rintro J H1 ⟨w1, S1, ⟨items, gu⟩, e1, s1, J1, h1⟩ C hC
  have enw : EnvR X.K X.mg w1 H1 (wipeR ρ vs) (wipe σ vs) := (en.ext e1).wipe vs
  -- what is left to do, from the items, the list so far and the store
  let fin : RE (List D) → RE D := fun r => match r with
    | .ok acc S2 => if c then .ok (.loc S2.length) (S2 ++ [.lst acc]) else .ok (.lst acc) S2
    | _ => .no
  have h1' : End X.K X.mg (fun w H => Rp X.K X.mg w H) w1 H1 (fin (compL g tt te gu (wipeR ρ vs) items [] S1)) Q (fun c od H' => W c od σ H') := h1
  let G : Hp → List D → Store → RE (List D) → Prop := fun H' acc S' r => ∃ w' xs, ExtD C w1 H1 w' H' ∧ Sto X.K X.mg w' S' H' ∧ H' C = some (.lst xs) ∧ RpL X.K X.mg w' H' acc xs ∧ ∃ r0, fin r = r0 ∧ End X.K X.mg (fun w H => Rp X.K X.mg w H) w1 H1 r0 Q (fun c od H' => W c od σ H')
  refine ⟨fun i m H' => ∃ acc S', i + m = items.length ∧ G H' acc S' (compL g tt te gu (wipeR ρ vs) (items.drop i) acc S'), ⟨items.length, [], S1, by omega, ⟨w1.φ, C :: w1.hd⟩, [], ExtD.begin_ hC, s1.mvd hC, upd_same, RpL.nil, _, rfl, h1'⟩, ?_⟩
  rintro i m H' ⟨acc, S', hm, w', xs, ed, s', hx, ra, r0, hr0, he⟩
  have hCin : C ∈ w'.hd := by rw [ed.hd]; exact List.mem_cons_self
  have no_end : ∀ {r : RE D}, r = .no → End X.K X.mg (fun w H => Rp X.K X.mg w H) w1 H1 r Q (fun c od H' => W c od σ H') → False := fun e h => by rw [e] at h; exact h
  cases hd : items.drop i with
  | nil =>
    rw [hd] at hr0
    unfold compL at hr0
    unfold gchk at hr0
    split at hr0
    · rename_i gd1
      have hl : items.length ≤ i := List.drop_eq_nil_iff.mp hd
      refine .inl ⟨(J1 w' S' H' ed.mv s' gd1).1 i hl, ?_⟩
      have hout : some C ∉ w'.φ := (s'.ap C hCin).2
      have hnh : C ∉ w1.hd := fun z => (s1.ap C z).1 hC
      have mv := Mv.show (H := H') ed.hd
      have s3 := s'.show ed.hd ⟨xs, hx⟩
      have ra3 := RpL.mv mv _ _ ra
      subst hr0
      cases c with
      | false =>
        refine he ⟨w'.φ, w1.hd⟩ H' (.ref C) ed.done s3 ?_
        show Rp _ _ _ _ _ _
        unfold Rp
        exact ⟨C, xs, rfl, hx, ⟨hout, hnh⟩, ra3⟩
      | true =>
        -- the new list becomes a cell
        have ph : ∀ (n : Nat) a, (w'.φ ++ [some C])[n]? = some (some a) → (w'.φ[n]? = some (some a) ∧ n < w'.φ.length) ∨ (n = w'.φ.length ∧ a = C) := fun n a hk => by
          by_cases hl : n < w'.φ.length
          · rw [List.getElem?_append_left hl] at hk; exact .inl ⟨hk, hl⟩
          · have hl' : w'.φ.length ≤ n := Nat.le_of_not_lt hl
            rw [List.getElem?_append_right hl'] at hk
            have : n - w'.φ.length = 0 := by
              cases e : n - w'.φ.length with
              | zero => rfl
              | succ j => rw [e] at hk; simp at hk
            rw [this] at hk; simp at hk
            exact .inr ⟨by omega, hk.symm⟩
        have mv2 : Mv w' H' ⟨w'.φ ++ [some C], w1.hd⟩ H' := ⟨fun a o h n => by
          have hne : a ≠ C := fun z => by subst z; exact n.2 hCin
          refine ⟨h, fun z => ?_, fun z => n.2 (by rw [ed.hd]; exact List.mem_cons_of_mem _ z)⟩
          rcases List.mem_append.mp (show some a ∈ w'.φ ++ [some C] from z) with z | z
          · exact n.1 z
          · simp at z; exact hne z, by show _ ≤ (w'.φ ++ [some C]).length; rw [List.length_append]; omega, fun n a h l => by
          rcases ph n a h with z | z
          · exact z.1
          · omega⟩
        have ex2 : Ext w1 H1 ⟨w'.φ ++ [some C], w1.hd⟩ H' := ⟨ed.done.fr, Nat.le_trans ed.ln mv2.ln, fun n a h l => by
          rcases ph n a h with z | z
          · exact ed.ph n a z.1 l
          · have := ed.ln; omega, fun a h => by
          rcases List.mem_append.mp (show some a ∈ w'.φ ++ [some C] from h) with z | z
          · exact ed.nw a z
          · simp at z; subst z; exact .inr hC, rfl⟩
        have ra4 := RpL.mv mv2 _ _ ra
        have s4 : Sto X.K X.mg ⟨w'.φ ++ [some C], w1.hd⟩ (S' ++ [.lst acc]) H' := by
          refine ⟨by show (w'.φ ++ [some C]).length = _; rw [List.length_append, List.length_append, s'.len]; rfl, fun m n a q1 q2 => ?_, fun a ha => ⟨(s3.ap a ha).1, fun z => ?_⟩, fun n cc hc => ?_⟩
          · rcases ph m a q1 with ⟨z1, z2⟩ | ⟨z1, z2⟩ <;> rcases ph n a q2 with ⟨y1, y2⟩ | ⟨y1, y2⟩
            · exact s'.nd m n a z1 y1
            · subst y2; exact absurd (List.mem_of_getElem? z1) hout
            · subst z2; exact absurd (List.mem_of_getElem? y1) hout
            · omega
          · rcases List.mem_append.mp (show some a ∈ w'.φ ++ [some C] from z) with z | z
            · exact (s3.ap a ha).2 z
            · simp at z; subst z; exact hnh ha
          · by_cases hl : n < S'.length
            · rw [List.getElem?_append_left hl] at hc
              have c0 := s'.cell n cc hc
              have gl : (w'.φ ++ [some C])[n]? = w'.φ[n]? := List.getElem?_append_left (s'.len ▸ hl)
              unfold CellR at c0 ⊢
              split at c0
              · obtain ⟨b, ys, h2, h3, h4⟩ := c0; exact ⟨b, ys, by rw [← gl] at h2; exact h2, h3, RpL.mv mv2 _ _ h4⟩
              · obtain ⟨b, ys, o', h2, h3, h4⟩ := c0; exact ⟨b, ys, o', by rw [← gl] at h2; exact h2, h3, RpL.mv mv2 _ _ h4⟩
              · rw [← gl] at c0; exact c0
              · obtain ⟨c1, P, ht, t1, t2⟩ := c0; exact ⟨c1, P, ht, by rw [gl]; exact t1, TabW.mv mv2 rfl t2⟩
              · obtain ⟨y1, y2, y3, ⟨φ, y4, y6⟩, y5⟩ := c0
                refine ⟨by rw [gl]; exact y1, ?_, fun z => ?_, ⟨φ, y4, y6⟩, y5⟩
                · rw [ed.hd] at y2
                  rcases List.mem_cons.mp y2 with z | z
                  · rw [z, hx] at y4; cases y4
                  · exact z
                · rcases List.mem_append.mp (show some sysModules ∈ w'.φ ++ [some C] from z) with z | z
                  · exact y3 z
                  · simp at z; rw [z, hx] at y4; cases y4
              · exact ⟨by rw [gl]; exact c0.1, EnvR.mv mv2 c0.2⟩
              · obtain ⟨b, C1, dx, vs', h2, h3, h4, h5, h6⟩ := c0; exact ⟨b, C1, dx, vs', by rw [gl]; exact h2, h3, h4, h5, RpL.mv mv2 _ _ h6⟩
            · have hl' : S'.length ≤ n := Nat.le_of_not_lt hl
              rw [List.getElem?_append_right hl'] at hc
              have e0 : n - S'.length = 0 := by
                cases e : n - S'.length with
                | zero => rfl
                | succ j => rw [e] at hc; simp at hc
              rw [e0] at hc; simp at hc; subst hc
              have en' : n = w'.φ.length := by rw [s'.len]; omega
              subst en'
              exact ⟨C, xs, by show (w'.φ ++ [some C])[w'.φ.length]? = _; rw [List.getElem?_append_right (Nat.le_refl _), Nat.sub_self]; rfl, hx, ra4⟩
        refine he ⟨w'.φ ++ [some C], w1.hd⟩ H' (.ref C) ex2 s4 ?_
        show Rp _ _ _ _ _ _
        unfold Rp
        refine ⟨by show S'.length < (w'.φ ++ [some C]).length; rw [List.length_append, s'.len]; exact Nat.lt_succ_self _, fun a ha => ?_⟩
        have ha' : (w'.φ ++ [some C])[S'.length]? = some (some a) := ha
        rw [← s'.len, List.getElem?_append_right (Nat.le_refl _), Nat.sub_self] at ha'
        simp at ha'; rw [ha']
    · exact (no_end hr0.symm he).elim
  | cons d r =>
    rw [hd] at hr0
    unfold compL at hr0
    unfold gchk at hr0
    split at hr0
    · rename_i gd1
      have hi' : items[i]? = some d := by
        have := congrArg (·[0]?) hd
        simpa using this
      have hr : items.drop (i + 1) = r := by
        have := congrArg List.tail hd
        simpa using this
      have hlt : i < items.length := (List.getElem?_eq_some_iff.mp hi').1
      obtain ⟨j1, j2⟩ := (J1 w' S' H' ed.mv s' gd1).2 i d hi'
      refine .inr ⟨j1, fun H2 => ∃ acc2 S2, G H2 acc2 S2 (compL g tt te gu (wipeR ρ vs) r acc2 S2), fun H2 ⟨acc2, S2, z⟩ => ⟨m - 1, by omega, acc2, S2, by omega, by rw [hr]; exact z⟩, ?_⟩
      intro x H'' hy
      obtain ⟨j3, j4, j5⟩ := j2 x H'' hy
      have enw' : EnvR X.K X.mg w' H'' (wipeR ρ vs) (wipe σ vs) := (enw.mv ed.mv).ext j3
      refine ⟨w', wipeR ρ vs, S', d, j4, enw', j5, ?_⟩
      split at hr0
      · rename_i ρ1 S1' hg1
        rw [hg1]
        intro w2 H2 σ2 e2 s2 en2 k2 l2
        have hw : wipe σ2 vs = wipe σ vs := by
          rw [← wipe_wipe σ vs]
          exact wipe_eq l2 fun i hi => k2 i (fun z => hi (hsl i z))
        refine ⟨hw, w2, ρ1, S1', s2, en2, ?_⟩
        have ed2 : ExtD C w1 H1 w2 H2 := (ed.step j3).step e2
        split at hr0
        · rename_i S2' ht
          rw [ht]
          intro w3 H3 b e3 s3 hb
          cases hb
          rw [if_pos rfl]
          refine ⟨w3, ρ1, S2', s3, en2.ext e3, ?_⟩
          split at hr0
          · rename_i y S3' hy'
            rw [hy']
            intro w4 H4 u e4 s4 r4
            have ed4 : ExtD C w1 H1 w4 H4 := (ed2.step e3).step e4
            have hC4 : C ∈ w4.hd := by rw [ed4.hd]; exact List.mem_cons_self
            have exx : Ext w' H' w4 H4 := ((j3.trans e2).trans e3).trans e4
            have hx4 : H4 C = some (.lst xs) := exx.fr C _ hx (s'.ap C hCin).2
            have ra4 := RpL.ext exx _ _ ra
            split at hr0
            · rename_i hlen
              refine ⟨xs, hx4, by rw [← ra.length]; exact hlen, acc ++ [y], S3', w4, xs ++ [u], ed4.poke, s4.poke hC4 ⟨xs, hx4⟩, upd_same, ?_, _, hr0, he⟩
              exact (RpL.mv (Mv.poke hC4) _ _ ra4).append (RpL.one (Rp.mv (Mv.poke hC4) _ _ r4))
            · exact (no_end hr0.symm he).elim
          · exact (no_end hr0.symm he).elim
        · rename_i S2' ht
          rw [ht]
          intro w3 H3 b e3 s3 hb
          cases hb
          rw [if_neg (by decide)]
          have exx : Ext w' H' w3 H3 := (j3.trans e2).trans e3
          exact ⟨acc, S2', w3, xs, ed2.step e3, s3, exx.fr C _ hx (s'.ap C hCin).2, RpL.ext exx _ _ ra, _, hr0, he⟩
        · exact (no_end hr0.symm he).elim
      · exact (no_end hr0.symm he).elim
    · exact (no_end hr0.symm he).elim
theorem q_lc {c : Bool} (hc : X.calm = true) (hN : X.N.Nodup) (hi : PI X tg iter (tI X W fi)) (ok : BlkOk X.N X.env.scope scope own) (hsl : ∀ i ∈ sl, i ∈ own.map (·.2))
    (hg : ∀ (s : Shared) (H : Hp) (C : Addr) (cl : List (Str × Addr)) (fp : List Addr), PG (X.blk s H scope (compEnvC scope cl C X.env) fp) tg (tG (X.blk s H scope (compEnvC scope cl C X.env) fp) sl g)) (ht : ∀ (s : Shared) (H : Hp) (C : Addr) (cl : List (Str × Addr)) (fp : List Addr), PTs (X.blk s H scope (compEnvC scope cl C X.env) fp) ifs (tT (X.blk s H scope (compEnvC scope cl C X.env) fp) W0 tt))
    (he : ∀ (s : Shared) (H : Hp) (C : Addr) (cl : List (Str × Addr)) (fp : List Addr), PE (X.blk s H scope (compEnvC scope cl C X.env) fp) elt (tF (X.blk s H scope (compEnvC scope cl C X.env) fp) W0 te)) (hs : ∀ x, foldedSetIterable iter X.env x = pure x := by intro _; rfl) :
    PE X (.ListComp elt [⟨tg, iter, ifs, 0⟩] scope pos) (tF X W (fLc c fi g tt te (own.map (·.2)))) :=
  PE.wk (pe_lc (g := tG X sl g) (tt := tT X W0 tt) (te := tF X W0 te) hc hN hi ok hg ht he hs) fun σ H Q h => lc_core' hsl h
theorem q_setLc {c : Bool} {i : Nat} {y : Str} {py spos : Pos} (hc : X.calm = true) (hN : X.N.Nodup) (hy : X.N[i]? = some y) (hyl : X.env.scope.names.lookup y = some .local)
    (hsw : swapsWith (.ListComp elt [⟨tg, iter, ifs, 0⟩] scope pos) (some (.Name y py)) spos.line X.env = pure true) (hi : PI X tg iter (tI X W fi)) (ok : BlkOk X.N X.env.scope scope own) (hsl : ∀ i ∈ sl, i ∈ own.map (·.2))
    (hg : ∀ (s : Shared) (H : Hp) (C : Addr) (cl : List (Str × Addr)) (fp : List Addr), PG (X.blk s H scope (compEnvC scope cl C X.env) fp) tg (tG (X.blk s H scope (compEnvC scope cl C X.env) fp) sl g)) (ht : ∀ (s : Shared) (H : Hp) (C : Addr) (cl : List (Str × Addr)) (fp : List Addr), PTs (X.blk s H scope (compEnvC scope cl C X.env) fp) ifs (tT (X.blk s H scope (compEnvC scope cl C X.env) fp) W0 tt))
    (he : ∀ (s : Shared) (H : Hp) (C : Addr) (cl : List (Str × Addr)) (fp : List Addr), PE (X.blk s H scope (compEnvC scope cl C X.env) fp) elt (tF (X.blk s H scope (compEnvC scope cl C X.env) fp) W0 te)) (hs : ∀ x, foldedSetIterable iter X.env x = pure x := by intro _; rfl) :
    PS X (.Assign [.Name y py] (.ListComp elt [⟨tg, iter, ifs, 0⟩] scope pos) spos) (tS X W (sSet i (fLc c fi g tt te (own.map (·.2))))) :=
  PS.wk (ps_setLc (g := tG X sl g) (tt := tT X W0 tt) (te := tF X W0 te) hc hN hy hyl hsw hi ok hg ht he hs) fun D σ H ⟨w, ρ, S, s, en, h⟩ => by
    refine lc_core' (Q := fun x H1 => gName i x σ H1 D.nx) hsl ⟨w, ρ, S, s, en, (h.of (R := fun w H => Rp X.K X.mg w H) en).imp (fun v H1 ⟨w1, S1, d, e1, s1, r1, h1⟩ => h1.nx' s1 ((en.ext e1).set r1)) (fun _ _ _ z => z)⟩
end
end Kw

/-! Kw7: names of the module, raise and try, the ends. -/
namespace Kw
open PySem PySem.Spec PyProof.Rows L2

/-! ### constants of the module -/
/-- a constant's value -/
def CV (d : D) (v : V) : Prop := match d with
  | .int i => v = .int i
  | .str z => v = .str z
  | _ => False
theorem CV.rp {K : PySem.W.Frag} {mg : Str → Option Value} {w : Wd} {H : Hp} {d : D} {v : V} (h : CV d v) : Rp K mg w H d v := by
  cases d <;> first | (exact h.elim) | (have h' := h; unfold CV at h'; subst h'; unfold Rp; rfl)
/-- the name x holds the constant d -/
def GC (mg : Str → Option Value) (x : Str) (d : D) : Prop := ∃ v u, mg x = some u ∧ RelV v u ∧ CV d v
/-- .. a dict with text keys and constants -/
def GD (K : PySem.W.Frag) (P : Params) (mg : Str → Option Value) (x : Str) (kvs : List (Str × D)) : Prop :=
  ∃ a es n, mg x = some (.ref a) ∧ K.lookup a = some ⟨.type "dict", none, .dict es n, #[]⟩ ∧ PySem.W.KeysLit P es.toList ∧ (a == sysModules) = false ∧
    ∀ z, match kvs.lookup z with
      | some d => ∃ u v, PySem.W.nsIn K a z = some (some u) ∧ RelV v u ∧ CV d v
      | none => PySem.W.nsIn K a z = some none
/-- .. a tuple of whole numbers -/
def GT (K : PySem.W.Frag) (mg : Str → Option Value) (x : Str) (ns : List Int) : Prop :=
  ∃ a o its n, mg x = some (.ref a) ∧ K.lookup a = some o ∧ o.cls = .type "tuple" ∧ o.data = .seq its n ∧ its.size ≤ sizeLine ∧ Vals (ns.map V.int) its.toList
inductive Ents : List DictEntry → List (Str × D) → Prop
  | nil : Ents [] []
  | cons {h : Int} {k : Str} {t : Tok} {u : Value} {v : V} {d : D} {es : List DictEntry} {kvs : List (Str × D)} (r : RelV v u) (c : CV d v) (rest : Ents es kvs) : Ents (⟨h, .str k t, u⟩ :: es) ((k, d) :: kvs)
theorem Ents.find {es : List DictEntry} {kvs : List (Str × D)} (e : Ents es kvs) (z : Str) : match kvs.lookup z with
      | some d => ∃ en v, es.find? (·.key.isStr z) = some en ∧ RelV v en.val ∧ CV d v
      | none => es.find? (·.key.isStr z) = none := by
  induction e with
  | nil => rfl
  | @cons h k t u v d es kvs r c rest ih =>
    by_cases hz : z = k
    · subst hz
      have e1 : List.lookup z ((z, d) :: kvs) = some d := by simp [List.lookup]
      rw [e1]
      refine ⟨⟨h, .str z t, u⟩, v, ?_, r, c⟩
      rw [List.find?_cons_of_pos]
      simp [PySem.W.isStr_of, Value.isStrOf]
    · have e1 : List.lookup z ((k, d) :: kvs) = List.lookup z kvs := by
        have : (z == k) = false := by simpa using hz
        simp [List.lookup, this]
      rw [e1]
      have e2 : List.find? (·.key.isStr z) ((⟨h, .str k t, u⟩ : DictEntry) :: es) = List.find? (·.key.isStr z) es := by
        rw [List.find?_cons_of_neg]
        simp [PySem.W.isStr_of, Value.isStrOf]
        exact fun q => hz q.symm
      rw [e2]; exact ih
theorem Ents.noRef {es : List DictEntry} {kvs : List (Str × D)} (e : Ents es kvs) : es.any (·.refKey) = false := by
  induction e with
  | nil => rfl
  | cons r c rest ih => rw [List.any_cons, ih]; rfl
theorem GD.of {K : PySem.W.Frag} {P : Params} {mg : Str → Option Value} {x : Str} {kvs : List (Str × D)} {a : Addr} {es : Array DictEntry} {n : Nat} (m : mg x = some (.ref a)) (l : K.lookup a = some ⟨.type "dict", none, .dict es n, #[]⟩) (k : PySem.W.KeysLit P es.toList) (s : (a == sysModules) = false) (e : Ents es.toList kvs) : GD K P mg x kvs := by
  refine ⟨a, es, n, m, l, k, s, fun z => ?_⟩
  have f := e.find z
  have u : PySem.W.nsIn K a z = match es.toList.find? (·.key.isStr z) with
      | some e => some (some e.val)
      | none => if es.toList.any (·.refKey) then none else some none := by unfold PySem.W.nsIn; rw [l]; rfl
  split at f
  · obtain ⟨en, v, f1, f2, f3⟩ := f
    exact ⟨en.val, v, by rw [u, f1], f2, f3⟩
  · rw [u, f, e.noRef]; rfl
theorem RpL.ints {K : PySem.W.Frag} {mg : Str → Option Value} {w : Wd} {H : Hp} : ∀ ns : List Int, RpL K mg w H (ns.map D.int) (ns.map V.int)
  | [] => RpL.nil
  | i :: r => RpL.cons (by unfold Rp; rfl) (RpL.ints r)
def gInG (neg : Bool) (n : Str) (kvs : List (Str × D)) (x y : D) (S : Store) : RE D := match x, y with
  | .str z, .glo m => if m = n then .ok (.bl (xor neg (kvs.lookup z).isSome)) S else .no
  | _, _ => .no
def gIxG (n : Str) (kvs : List (Str × D)) (x y : D) (S : Store) : RE D := match x, y with
  | .glo m, .str z => if m = n then (match kvs.lookup z with
    | some d => .ok d S
    | none => .no) else .no
  | _, _ => .no
def gNeg (x : D) (S : Store) : RE D := match x with
  | .int i => .ok (.int (-i)) S
  | _ => .no
section
variable {X : Cx} {W : WX} {a b e : Expr} {es : List Expr} {fa fb : FE} {fs : FA} {pos : Pos} {x : Str} {kvs : List (Str × D)} {d : D}
theorem q_gc (h : GC X.mg x d) (hg : Gl X x) (hd : (x == ("__debug__" : Str)) = false := by decide) : PE X (.Name x pos) (tF X W (fC d)) := by
  obtain ⟨v, u, m, r, c⟩ := h
  exact q_const (fun w H => c.rp) (pe_glob hg m r hd)
theorem q_gd (h : GD X.K X.w.params X.mg x kvs) (hg : Gl X x) (hd : (x == ("__debug__" : Str)) = false := by decide) : PE X (.Name x pos) (tF X W (fC (.glo x))) := by
  obtain ⟨a, es, n, m, _⟩ := h
  exact q_const (v := .ref a) (fun w H => by unfold Rp; exact ⟨a, rfl, m⟩) (pe_glob hg m rfl hd)
theorem q_gt {ns : List Int} (h : GT X.K X.mg x ns) (hg : Gl X x) (hd : (x == ("__debug__" : Str)) = false := by decide) : PE X (.Name x pos) (tF X W (fC (.tup (ns.map .int)))) := by
  obtain ⟨a, o, its, n, m, h1, h2, h3, h4, h5⟩ := h
  refine q_const (v := .ref a) (fun w H => ?_) (pe_glob hg m rfl hd)
  unfold Rp
  refine ⟨a, ns.map V.int, rfl, .inr ⟨o, its, n, h1, h2, h3, h4, h5⟩, ?_⟩
  exact RpL.ints ns
theorem op_inG {neg : Bool} {op : CmpOp} (ho : op = if neg then .NotIn else .In) (h : GD X.K X.w.params X.mg x kvs) : ∃ r, OpR X (compareOp op) r ∧ OpV X.K X.mg r (gInG neg x kvs) := by
  obtain ⟨a, es, n, m, l, k, s, f⟩ := h
  have D : KDict X.K X.w a es n := ⟨l, k, s⟩
  have key : ∀ z, PySem.W.nsIn X.K a z = some (match kvs.lookup z with
      | some d => PySem.W.nsIn X.K a z |>.getD none
      | none => none) ∧ ((match kvs.lookup z with
      | some d => PySem.W.nsIn X.K a z |>.getD none
      | none => none).isSome = (kvs.lookup z).isSome) := fun z => by
    have fz := f z
    split at fz
    · rename_i d hd
      obtain ⟨u, v, f1, _, _⟩ := fz
      rw [hd, f1]; exact ⟨rfl, rfl⟩
    · rename_i hd
      rw [hd]; exact ⟨fz, rfl⟩
  have body : ∀ (w : Wd) (S : Store) (H : Hp) (x' y : V) (d e : Kw.D) (Q : VK) (E : Value → Option Addr → Hp → Prop), Sto X.K X.mg w S H → Rp X.K X.mg w H d x' → Rp X.K X.mg w H e y → End X.K X.mg (fun w H => Rp X.K X.mg w H) w H (gInG neg x kvs d e S) Q E → ∃ (z : Str) (r : Option Value), x' = .str z ∧ y = .ref a ∧ PySem.W.nsIn X.K a z = some r ∧ Q (.bl (xor neg r.isSome)) H := by
    intro w S H x' y d e Q E st r1 r2 h
    cases d <;> cases e <;> simp only [gInG] at h <;> try exact h.elim
    rename_i z m'
    split at h
    · rename_i em
      subst em
      unfold Rp at r2
      obtain ⟨b, e1, e2⟩ := r2
      rw [m] at e2; cases e2
      obtain ⟨k1, k2⟩ := key z
      exact ⟨z, _, rp_str r1, e1, k1, by rw [k2]; exact h.ret st rp_b⟩
    · exact h.elim
  cases neg with
  | false =>
    subst ho
    refine ⟨_, op_in_kd D, fun w S H x' y d e Q E st r1 r2 h => ?_⟩
    obtain ⟨z, r, h1, h2, h3, h4⟩ := body w S H x' y d e Q E st r1 r2 h
    exact ⟨z, r, h1, h2, h3, by simpa using h4⟩
  | true =>
    subst ho
    refine ⟨_, op_notIn_kd D, fun w S H x' y d e Q E st r1 r2 h => ?_⟩
    obtain ⟨z, r, h1, h2, h3, h4⟩ := body w S H x' y d e Q E st r1 r2 h
    exact ⟨z, r, h1, h2, h3, by simpa using h4⟩
theorem q_inG (h : GD X.K X.w.params X.mg x kvs) (ha : PE X a (tF X W fa)) (hb : PE X b (tF X W fb)) (hm : behindInMarks .In b = false := by rfl) : PE X (.Compare a [.In] [b] pos) (tF X W (f2 (gInG false x kvs) fa fb)) := by
  obtain ⟨r, h1, h2⟩ := op_inG (neg := false) (op := .In) rfl h
  exact q_cmp h1 h2 ha hb hm
theorem qt_inG (h : GD X.K X.w.params X.mg x kvs) (ha : PE X a (tF X W fa)) (hb : PE X b (tF X W fb)) (hm : behindInMarks .In b = false := by rfl) : PT X (.Compare a [.In] [b] pos) (tT X W (fB (f2 (gInG false x kvs) fa fb))) := by
  obtain ⟨r, h1, h2⟩ := op_inG (neg := false) (op := .In) rfl h
  exact qt_cmp h1 h2 ha hb hm
theorem q_ninG (h : GD X.K X.w.params X.mg x kvs) (ha : PE X a (tF X W fa)) (hb : PE X b (tF X W fb)) (hm : behindInMarks .NotIn b = false := by rfl) : PE X (.Compare a [.NotIn] [b] pos) (tF X W (f2 (gInG true x kvs) fa fb)) := by
  obtain ⟨r, h1, h2⟩ := op_inG (neg := true) (op := .NotIn) rfl h
  exact q_cmp h1 h2 ha hb hm
theorem qt_ninG (h : GD X.K X.w.params X.mg x kvs) (ha : PE X a (tF X W fa)) (hb : PE X b (tF X W fb)) (hm : behindInMarks .NotIn b = false := by rfl) : PT X (.Compare a [.NotIn] [b] pos) (tT X W (fB (f2 (gInG true x kvs) fa fb))) := by
  obtain ⟨r, h1, h2⟩ := op_inG (neg := true) (op := .NotIn) rfl h
  exact qt_cmp h1 h2 ha hb hm
theorem q_ixG (h : GD X.K X.w.params X.mg x kvs) (ha : PE X a (tF X W fa)) (hb : PE X b (tF X W fb)) (hs : PlainIx b := by intro _ _; rfl) : PE X (.Subscript a b pos) (tF X W (f2 (gIxG x kvs) fa fb)) := by
  obtain ⟨p, es, n, m, l, k, s, f⟩ := h
  refine PE.wk (pe_ix ix_kdict ha hb hs) fun σ H Q h0 => two (fun w S H x' y d e Q E st r1 r2 h => ?_) h0
  cases d <;> cases e <;> simp only [gIxG] at h <;> try exact h.elim
  rename_i m' z
  split at h
  · rename_i em
    clear h0
    subst em
    split at h
    · rename_i d hd
      have fz := f z
      rw [hd] at fz
      obtain ⟨u, v, f1, f2, f3⟩ := fz
      unfold Rp at r1
      obtain ⟨b, e1, e2⟩ := r1
      rw [m] at e2; cases e2
      exact ⟨p, z, v, e1, rp_str r2, ⟨es, n, u, l, k, f1, f2⟩, h.ret st f3.rp⟩
    · exact h.elim
  · exact h.elim
theorem q_neg (ha : PE X a (tF X W fa)) : PE X (.UnaryOp .USub a pos) (tF X W (f1 gNeg fa)) := PE.wk (pe_un un_neg ha) fun σ H Q ⟨w, ρ, S, s, en, h⟩ =>
  ⟨w, ρ, S, s, en, (End.bind (R := fun w H => Rp X.K X.mg w H) h).imp (fun v H1 ⟨w1, S1, d, e1, s1, r1, h1⟩ => by
    cases d <;> simp only [gNeg] at h1 <;> try exact h1.elim
    exact ⟨_, rp_int r1, h1.ret s1 rp_i⟩) (fun _ _ _ z => z)⟩
/-- s.index(t) -/
def fStrIx (a : FE) (b : FE) : FE := fun ρ S => (a ρ S).bnd fun x S1 => match x with
  | .str z => (b ρ S1).bnd fun y S2 => (match y with
    | .str t => (match Txt.index0 z t with
      | some k => .ok (.int (k : Nat)) S2
      | none => .no)
    | _ => .no)
  | _ => .no
theorem q_strIx {apos cpos : Pos} (hc : X.calm = true) (tk : Takes X W) (ho : PE X a (tF X W fa)) (hb : PE X b (tF X W fb))
    (hs1 : starEach [b] X.env = (false, eval b X.env) :: starEach [] X.env := by rfl)
    (hbase : attributeBase a "index" X.env (eval a X.env) = eval a X.env := by rfl)
    (hfew : ((backTo cpos (starEach [b] X.env)).all (fun x => !x.1) && (backToKw cpos (keywordEach [] X.env)).all (fun x => x.1.isSome)
      && decide (([b] : List Expr).length + ([] : List Keyword).length + (if ([] : List Keyword).isEmpty then 0 else 1) < 30)) = true := by rfl)
    (hline : (apos.endLine == cpos.line) = true := by rfl) (hplain : (backTo cpos (starEach [] X.env)).any (·.1) = false := by rfl) : PE X (.Call (.Attribute a "index" apos) [b] [] cpos) (tF X W (fStrIx fa fb)) :=
  PE.wk (pe_bmS PySem.F.plainAttrs_str PySem.F.slot_str_index PySem.F.type_str_index (mt_indexX hc tk) ho (pa_cons hb pa_nil hs1) hbase hfew hline hs1 hplain) fun σ H Q ⟨w, ρ, S, s, en, h⟩ => by
    refine ⟨w, ρ, S, s, en, (End.bind (R := fun w H => Rp X.K X.mg w H) h).imp ?_ (fun _ _ _ z => z)⟩
    rintro v H1 ⟨w1, S1, d, e1, s1, r1, h1⟩
    cases d <;> try exact h1.elim
    rename_i z
    refine ⟨by rw [rp_str r1]; rfl, w1, ρ, S1, s1, en.ext e1, (End.bind (R := fun w H => Rp X.K X.mg w H) h1).imp ?_ (fun _ _ _ z => z)⟩
    rintro u H2 ⟨w2, S2, d2, e2, s2, r2, h2⟩
    cases d2 <;> try exact h2.elim
    rename_i t
    simp only at h2
    split at h2
    · rename_i k hk
      refine ⟨z, t, rp_str r1, by rw [rp_str r2], fun k' hk' => ?_, fun hn => ?_⟩
      · rw [hk] at hk'; cases hk'
        exact h2.ret s2 rp_i
      · rw [hk] at hn; cases hn
    · exact h2.elim
end

/-! ### raise, try -/
def ExcF (K : PySem.W.Frag) (mg : Str → Option Value) (x : Str) : Prop := ∃ C, mg x = some (.ref C) ∧ PySem.W.excIn K C [.type "ValueError", .type "Exception", .type "BaseException", .type "object"] "ValueError.__new__" = true ∧
  PySem.W.keepIn K (.ref C) = true ∧ PySem.W.subIn K (.ref C) (.type "BaseException") = some true ∧ PySem.W.typeIn K (.ref C) = some (.type "type")
def sRaise (x : Str) : FS := fun ρ S => .ex ⟨x, [], []⟩ ρ S
def RS.noX (r : RS) : RS := match r with
  | .ex _ _ _ => .no
  | r => r
/-- es: the classes that may come; sub: those that the clause names -/
def sTry (es : List Str) (sub : Str → Bool) (b c : FS) : FS := fun ρ S => match b ρ S with
  | .ex x ρ' S' => if x.cls ∈ es then (if sub x.cls then (c ρ' S').noX else .ex x ρ' S') else .no
  | r => r
section
variable {X : Cx} {W : WX} {x m : Str} {j : Nat} {p p2 pos pos' : Pos}
theorem q_raise (hc : X.calm = true) (tk : Takes X W) (h : ExcF X.K X.mg x) (hg : Gl X x) (hdb : (x == ("__debug__" : Str)) = false := by decide) : PS X (.Raise (some (.Call (.Name x p) [.Constant (.str m) j p2] [] pos)) none pos') (tS X W (sRaise x)) := by
  obtain ⟨C, gC, xC, kC, bC, tC⟩ := h
  refine PS.wk (ps_raise hc tk (pmk_own PySem.F.excBase_ValueError xC gC kC (raises_own bC tC) hg hdb)) fun D σ H ⟨w, ρ, S, s, en, h⟩ => ?_
  exact h w H σ (.ref C) none Ext.refl s en ⟨gC, .inl ⟨rfl, rfl, rfl⟩⟩
theorem q_try {body suite : List Stmt} {b₀ : Stmt} {np : Pos} {es : List Str} {sub : Str → Bool} {fb fc : FS} {c : Value} (hs : X.stack = X.env :: X.outer) (hf : X.env.frame = some X.env.locals) (hc : Names X x c) (tk : Takes X W)
    (hx : ∀ y ∈ es, ∀ cy, X.mg y = some cy → PySem.W.exmOne X.K cy c = some (sub y))
    (hb : ∀ (W' : WX) (pn : List (Addr × Obj)) (xe : Value → Shared → Prop), Takes (X.tr pn xe) W' → PassesOwn (model X.prog X.w) X.A X.env xe → PSs (X.tr pn xe) body (tS (X.tr pn xe) W' fb))
    (hsu : ∀ (a : Addr) (pn : List (Addr × Obj)), PSs (X.suite a pn) (b₀ :: suite) (tS (X.suite a pn) W0 fc)) :
    PS X (.Try body [.ExceptHandler (some (.Name x np)) none (b₀ :: suite) pos'] [] [] pos) (tS X W (sTry es sub fb fc)) := by
  refine PS.wk (ps_try_only (tb := fun W' => tS X W' fb) (ts := fun a cls d => tS X W0 fc) (Wout := W) hs hf hc tk (fun W' pn xe t o => hb W' pn xe t o) (fun a oe cls d pn _ _ => hsu a _)) fun D σ H ⟨w, ρ, S, s, en, h⟩ => ?_
  refine ⟨w, ρ, S, s, en, ?_⟩
  unfold sTry at h
  cases hbb : fb ρ S with
  | ex y ρ' S' =>
    rw [hbb] at h
    simp only at h
    split at h
    · rename_i hm
      intro w' H' σ' cy od e s' en' ex
      obtain ⟨gy, hr⟩ := ex
      refine ⟨sub y.cls, hx _ hm _ gy, fun hs a na => ?_, fun hs => ?_⟩
      · rw [if_pos hs] at h
        refine ⟨w', ρ', S', s', en', ?_⟩
        have h2 := h.on e
        revert h2
        cases fc ρ' S' with
        | ex x2 ρ2 S2 => exact fun h2 => h2.elim
        | _ => exact fun h2 => h2
      · rw [if_neg (by rw [hs]; decide)] at h
        exact h w' H' σ' cy od e s' en' ⟨gy, hr⟩
    · exact h.elim
  | _ => rw [hbb] at h; exact h
end
end Kw

/-! Kw8: the ends. -/
namespace Kw
open PySem PySem.Spec PyProof.Rows L2

/-- the def x stands at the module's top -/
def TF (K : PySem.W.Frag) (mg : Str → Option Value) (x : Str) (st : Stmt) (ps : List Str) : Prop := ∃ f fd, Fun K x x st f fd ∧ mg x = some (.ref f) ∧ Binds K fd ps []
section
variable {K : PySem.W.Frag} {mg : Str → Option Value} {h : Heap}
theorem tf_mk {x : Str} {st : Stmt} {ps : List Str} {f : Addr} {oc : Value} {od an : Option Addr} {osl : Array (Option Value)} {kV doc pm cdv ct : Value} (X : K.In h) (G : h.Ns mainGlobals mg) (a : PySem.W.nsIn K mainGlobals x = some (some (.ref f)))
    (l : K.lookup f = some ⟨oc, od, .func (PySem.W.fnOf x x (defArgs st) (defBody st) (defScope st) .none kV doc pm an cdv ct), osl⟩) (c : PySem.W.codeIn K cdv x = true) (k : PySem.W.keepIn K (.ref f) = true)
    (hb : ∀ (kV doc pm : Value) (an : Option Addr) (cdv ct : Value) (us : List Value), us.length = ps.length → bindArgs (PySem.W.fnOf x x (defArgs st) (defBody st) (defScope st) .none kV doc pm an cdv ct) ⟨us, []⟩ = pure (ps.zip us)) : TF K mg x st ps :=
  ⟨f, _, fun_mk l c k, PySem.W.mg_of X G a, (fun_mk l c k).binds hb⟩
theorem bl_mk {x : Str} (X : K.In h) (G : h.Ns mainGlobals mg) (z : PySem.W.nsIn K mainGlobals x = some none) : mg x = none := PySem.W.mg_none_of X G z
theorem gc_int {x : Str} {i : Int} {t : Tok} (X : K.In h) (G : h.Ns mainGlobals mg) (z : PySem.W.nsIn K mainGlobals x = some (some (.int i t))) : GC mg x (.int i) := ⟨.int i, _, PySem.W.mg_of X G z, ⟨t, rfl⟩, rfl⟩
theorem gc_str {x : Str} {i : Str} {t : Tok} (X : K.In h) (G : h.Ns mainGlobals mg) (z : PySem.W.nsIn K mainGlobals x = some (some (.str i t))) : GC mg x (.str i) := ⟨.str i, _, PySem.W.mg_of X G z, ⟨t, rfl⟩, rfl⟩
theorem gd_mk {P : Params} {x : Str} {kvs : List (Str × D)} {a : Addr} {es : Array DictEntry} {n : Nat} (X : K.In h) (G : h.Ns mainGlobals mg) (z : PySem.W.nsIn K mainGlobals x = some (some (.ref a))) (l : K.lookup a = some ⟨.type "dict", none, .dict es n, #[]⟩) (k : PySem.W.KeysLit P es.toList) (s : (a == sysModules) = false) (e : Ents es.toList kvs) : GD K P mg x kvs :=
  GD.of (PySem.W.mg_of X G z) l k s e
theorem exc_mk {x : Str} {C : Addr} (X : K.In h) (G : h.Ns mainGlobals mg) (z : PySem.W.nsIn K mainGlobals x = some (some (.ref C))) (h1 : PySem.W.excIn K C [.type "ValueError", .type "Exception", .type "BaseException", .type "object"] "ValueError.__new__" = true)
    (h2 : PySem.W.keepIn K (.ref C) = true) (h3 : PySem.W.subIn K (.ref C) (.type "BaseException") = some true) (h4 : PySem.W.typeIn K (.ref C) = some (.type "type")) : ExcF K mg x := ⟨C, PySem.W.mg_of X G z, h1, h2, h3, h4⟩
end
section
variable {P : Program} {w : World} {K : PySem.W.Frag} {mg : Str → Option Value} {base : Heap}
theorem cal_zero {x : Str} {st : Stmt} {ps : List Str} (T : TF K mg x st ps) (hps : ps = (defArgs st).args.map (·.arg) := by rfl) : Cal P w K mg base 0 x (fun _ _ => .no) := by
  obtain ⟨f, fd, F, m, b⟩ := T
  exact ⟨f, fd, ps, ⟨fun vs H Q E ⟨w, S, ds, s, r, l, h⟩ => by rw [← r.length]; exact l, fun A outer s H args us vs Q E _ _ _ _ ⟨w, S, ds, st, r, l, h⟩ => h.elim⟩, m, F.kp, b, fun _ _ _ => rfl, hps.trans (fun_names F).symm, fun_look F⟩
theorem calB {x : Str} {st : Stmt} {N ps : List Str} {k : Nat} {b : FS} (T : TF K mg x st ps) (S : FnScope N ps (defScope st))
    (hb : ∀ (f : Addr) (cdv : Value) (A : Around) (outer : List Env) (s : Shared) (H : Hp) (E : XK), RoomG k (A.deeper (envOfC x (defScope st) s.heap.objs.size f cdv)) →
      PSs (cxOf (L2.CX P w) P w K mg base N x (defScope st) f cdv A outer s H E) (defBody st) (tS (cxOf (L2.CX P w) P w K mg base N x (defScope st) f cdv A outer s H E) (fun c d _ H => E c d H) b)) (hps : ps = (defArgs st).args.map (·.arg) := by rfl) :
    Cal P w K mg base (k + 1) x (fnB ps.length N.length b) := by
  obtain ⟨f, fd, F, m, bd⟩ := T
  exact cal_B F S m bd hps (hb f)
theorem calC {x : Str} {st : Stmt} {N ps : List Str} {k : Nat} {b : FS} (T : TF K mg x st ps) (S : FnScope N ps (defScope st))
    (hb : ∀ (f : Addr) (cdv : Value) (A : Around) (outer : List Env) (s : Shared) (H : Hp) (E : XK), RoomG k (A.deeper (envOfC x (defScope st) s.heap.objs.size f cdv)) →
      PSs (cxOf (L2.CX P w) P w K mg base N x (defScope st) f cdv A outer s H E) (defBody st) (tS (cxOf (L2.CX P w) P w K mg base N x (defScope st) f cdv A outer s H E) (fun c d _ H => E c d H) b)) (hps : ps = (defArgs st).args.map (·.arg) := by rfl) :
    Cal P w K mg base (k + 1) x (fnC ps.length N.length b) := by
  obtain ⟨f, fd, F, m, bd⟩ := T
  exact cal_C F S m bd hps (hb f)
end
theorem hu2 {A : Around} {k : Nat} (hr : RoomG k A) : A.units + 200 < cLine := by have := hr.rm.un; omega
/-- the law's own promise -/
def spLaw (K : PySem.W.Frag) : Sp := fun vs H Q _ => ∃ (a : Addr) (ns : List Int), vs = [.ref a] ∧ SqL K H a (ns.map V.int) ∧ ns.length ≤ 63 ∧ (∀ z ∈ ns, Builtin.Int.intBits z ≤ 1048576) ∧ Only H ∧ ∀ H', Q (.bl true) H'
section
variable {K : PySem.W.Frag} {mg : Str → Option Value}
theorem script_at {H : Hp} {a : Addr} {ns : List Int} (hO : Only H) (hS : SqL K H a (ns.map V.int)) : Rp K mg ⟨[], []⟩ H (.fls (ns.map .int)) (.ref a) := by
  unfold Rp
  refine ⟨a, _, rfl, ?_, RpL.ints ns⟩
  rcases hS with (h | ⟨o, h⟩) | h
  · rcases hO a with z | ⟨o, xs, z⟩
    · rw [z] at h; cases h
    · rw [z] at h; cases h
  · refine .inl ⟨o, h, ?_⟩
    show (¬ some a ∈ ([] : List (Option Addr))) ∧ ¬ a ∈ ([] : List Addr)
    constructor <;> simp
  · exact .inr h
theorem sto0 {H : Hp} : Sto K mg ⟨[], []⟩ [] H := ⟨rfl, fun m n a h => by simp at h, fun a h => (nomatch h), fun n c h => by simp at h⟩
theorem law_imp {F : FF} (hF : ∀ ns : List Int, ns.length ≤ 63 → (∀ z ∈ ns, Builtin.Int.intBits z ≤ 1048576) → ∃ S', F [.fls (ns.map .int)] [] = .ok (.bl true) S') : ∀ vs H Q E, spLaw K vs H Q E → spF K mg 1 F vs H Q E := by
  rintro vs H Q E ⟨a, ns, rfl, hS, hl, hb, hO, q⟩
  obtain ⟨S', e⟩ := hF ns hl hb
  refine ⟨⟨[], []⟩, [], [.fls (ns.map .int)], sto0, RpL.one (script_at hO hS), rfl, ?_⟩
  rw [e]
  intro w' H' v ex s r
  rw [rp_bl r]; exact q H'
/-- the heap in which nothing is told but the script -/
def scrO (vs : List Value) : Obj := { cls := .type "list", data := .seq vs.toArray }
def scrH (a : Addr) (vs : List Value) (ns : List Int) : Hp := fun b => if b = a then some (.frz (scrO vs) (.lst (ns.map V.int))) else none
theorem scr_look {P : Program} {w : World} {a : Addr} {s : Shared} {vs : List Value} {ns : List Int} (KX : K.In s.heap) (ha : s.heap.get? a = some (scrO vs)) (hi : IntsAre vs ns) (hl : ns.length ≤ 63) :
    ∃ H : Hp, Only H ∧ SqL K H a (ns.map V.int) ∧ HOk P w H s.heap ∧ (∀ b, H b ≠ none → b = a ∧ K.lookup b = none) := by
  have rv := vals_ints hi
  have hz : ns.length ≤ sizeLine := Nat.le_trans hl (by rw [sizeLine_eq]; decide)
  cases hk : K.lookup a with
  | some o =>
    have e := (KX a o hk).symm.trans ha
    cases e
    exact ⟨fun _ => none, fun _ => .inl rfl, .inr ⟨_, vs.toArray, _, hk, rfl, rfl, rfl, by rw [List.size_toArray, hi.length]; exact hz, by simpa using rv⟩, fun b u z => (nomatch z), fun b z => (z rfl).elim⟩
  | none =>
    refine ⟨scrH a vs ns, fun b => ?_, .inl (.inr ⟨scrO vs, if_pos rfl⟩), fun b u z => ?_, fun b z => ?_⟩
    · unfold scrH; split
      · exact .inr ⟨_, _, rfl⟩
      · exact .inl rfl
    · unfold scrH at z
      split at z
      · next e => cases z; subst e; exact ⟨ha, by rw [List.length_map]; exact hz, vs, _, rv, ha⟩
      · cases z
    · unfold scrH at z
      split at z
      · next e => exact ⟨e, e ▸ hk⟩
      · exact (z rfl).elim
theorem head_g {P : Program} {w : World} {mb : Str → Option Value} {k : Nat} {fa a : Addr} {fd : FuncData} {x : Str} {s : Shared} {vs : List Value} {ns : List Int} (KX : K.In s.heap) (gm : s.heap.Ns mainGlobals mg) (gb : s.heap.Ns builtinsNs mb)
    (boot : ∀ y : Str, y ≠ "__name__" → mb y = bootBuiltins y) (lim : s.heap.NoLimit) (ng : s.gens = #[]) (ha : s.heap.get? a = some (scrO vs)) (hi : IntsAre vs ns) (hl : ns.length ≤ 63) (hz : ∀ z ∈ ns, Builtin.Int.intBits z ≤ 1048576) (hr : RoomG k callerA)
    (F : ∀ base : Heap, K.In base → base.Ns mainGlobals mg → FnG P w K mg base k fa fd [x] (spLaw K)) (hbd : ∀ (s : Shared) (u : Value), BindsTo s fd ⟨[u], []⟩ [(x, u)]) (no : ∀ H e s', L2.CX P w [] H s (fun _ _ _ => False) e s' → False) :
    codeAny (model P w) callerA (.call (.ref fa) ⟨[.ref a], []⟩) (fun r s' => r = .ok (.ret (.bool true)) ∧ OldK s.heap s'.heap ∧ s'.os = s.os ∧ AllBare s'.gens) s := by
  obtain ⟨H, hO, hS, hok, hA⟩ := scr_look (P := P) (w := w) KX ha hi hl
  have un : ∀ {b : Addr} {o : Obj}, s.heap.get? b = some o → o ≠ scrO vs ∨ K.lookup b ≠ none → H b = none := fun {b o} g n => by
    apply Classical.byContradiction
    intro z
    obtain ⟨rfl, k0⟩ := hA b z
    rcases n with n | n
    · exact n (Option.some.inj (g.symm.trans ha))
    · exact n k0
  have nsT : ∀ {b : Addr} {m : Str → Option Value}, s.heap.Ns b m → (hidT s.heap H).Ns b m := fun {b m} ⟨o, es, ep, g, d, r⟩ => ⟨o, es, ep, hidT_get g (un g (.inl fun z => by rw [z] at d; exact nomatch d)), d, r⟩
  have kT : K.In (hidT s.heap H) := fun b o g => hidT_get (KX b o g) (un (KX b o g) (.inr fun z => by rw [g] at z; cases z))
  obtain ⟨mc, lim1, lim2⟩ := lim
  have e0 : Env0 P w K mg (hidT s.heap H) callerA [] s H := { frames := rfl, mod := ⟨kT, nsT gm, ⟨mb, nsT gb, boot⟩, ⟨mc, nsT lim1, lim2⟩⟩, bs := fun b o g => of_hidT g, bsz := Nat.le_of_eq (hidT_size _ _), funs := trivial, frf := fun b hb => (nomatch hb), hok := hok, bare := .of_eq ng }
  refine codeAny_mono ((F _ kT (nsT gm)).runs callerA [] s H ⟨[.ref a], []⟩ [.ref a] [.ref a] (fun v _ => v = .bl true) (fun _ _ _ => False) hr e0 (hbd s (.ref a)) (.cons rfl .nil) ⟨a, ns, rfl, hS, hl, hz, hO, fun _ => rfl⟩) fun r s' h => ?_
  match r, h with
  | .error e, h => exact (no H e s' h).elim
  | .ok .next, h => exact h.elim
  | .ok .brk, h => exact h.elim
  | .ok .cont, h => exact h.elim
  | .ok (.ret u), ⟨v, H', os, bare, ch, hok', rv, q⟩ =>
    have q' : v = .bl true := q
    subst q'
    obtain rfl : u = Value.bool true := rv
    refine ⟨rfl, OldK.of_keep fun b o g => ?_, os, bare⟩
    rcases hO b with z | ⟨ob, xs, z⟩
    · exact ch.keep b o g z (fun y => nomatch y) (fun y => nomatch y)
    · obtain ⟨g1, _⟩ := hok b _ z
      rw [g] at g1; cases g1
      exact (hok' b _ (ch.frzs b _ _ z)).1
theorem walk_g {l : PySem.W.OpenLaw} {k : Nat} {q : Program} {loose : List Str} {XP : (Str → Option Value) → Heap → Prop} {YP : World → Heap → Prop} {d : DefRec} {K : Params → PySem.W.Frag} {x : Str} (hn : l.most = some 63) (hdf : d.params.defaults = []) (hr : RoomG k callerA)
    (hY : ∀ (w : World) (h : Heap), YP w h → (K w.params).In h)
    (F : ∀ (w : World) (mg : Str → Option Value) (fa : Addr) (h : Heap), (K w.params).In h → h.Ns mainGlobals mg → mg d.name = some (.ref fa) →
      ∃ fd : FuncData, (∀ (s : Shared) (u : Value), BindsTo s fd ⟨[u], []⟩ [(x, u)]) ∧ ∀ base : Heap, (K w.params).In base → base.Ns mainGlobals mg → FnG l.prog w (K w.params) mg base k fa fd [x] (spLaw (K w.params)))
    (no : ∀ (w : World) (H : Hp) (s : Shared) (e : Value) (s' : Shared), L2.CX l.prog w [] H s (fun _ _ _ => False) e s' → False) : PySem.W.WalkO q loose XP YP l.row.toRowW d [] (fun f vs => PySem.call f vs) := by
  refine Att.attach_callB hn hdf fun w s0 s1 mg mb fa o pm cd doc a vs ns G Y ho hd hcd hmg hobj hints hlen hbits hg => ?_
  obtain ⟨fd, hbd, hF⟩ := F w mg fa _ (hY w _ Y) G.T.g hmg
  exact head_g (hY w _ Y) G.T.g G.T.b G.T.builtins G.T.nolimit hg hobj hints hlen hbits hr hF hbd (fun H e s' => no w H s1 e s')
/-- the law's def as the end wants it -/
theorem law_mk {P : Program} {w : World} {h : Heap} {k : Nat} {fa f : Addr} {x nm : Str} {st : Stmt} {N : List Str} {b : FS} {oc : Value} {od an : Option Addr} {osl : Array (Option Value)} {kV doc pm cdv ct : Value} (X : K.In h) (G : h.Ns mainGlobals mg) (hfa : mg nm = some (.ref fa))
    (a : PySem.W.nsIn K mainGlobals nm = some (some (.ref f))) (l : K.lookup f = some ⟨oc, od, .func (PySem.W.fnOf nm nm (defArgs st) (defBody st) (defScope st) .none kV doc pm an cdv ct), osl⟩) (c : PySem.W.codeIn K cdv nm = true) (kk : PySem.W.keepIn K (.ref f) = true)
    (hb : ∀ (kV doc pm : Value) (an : Option Addr) (cdv ct : Value) (us : List Value), us.length = 1 → bindArgs (PySem.W.fnOf nm nm (defArgs st) (defBody st) (defScope st) .none kV doc pm an cdv ct) ⟨us, []⟩ = pure ([x].zip us)) (S : FnScope N [x] (defScope st))
    (body : ∀ base : Heap, K.In base → base.Ns mainGlobals mg → ∀ (f : Addr) (cdv : Value) (A : Around) (outer : List Env) (s : Shared) (H : Hp) (E : XK), RoomG k (A.deeper (envOfC nm (defScope st) s.heap.objs.size f cdv)) →
      PSs (cxOf (L2.CX P w) P w K mg base N nm (defScope st) f cdv A outer s H E) (defBody st) (tS (cxOf (L2.CX P w) P w K mg base N nm (defScope st) f cdv A outer s H E) (fun c d _ H => E c d H) b))
    (hF : ∀ ns : List Int, ns.length ≤ 63 → (∀ z ∈ ns, Builtin.Int.intBits z ≤ 1048576) → ∃ S', fnB 1 N.length b [.fls (ns.map .int)] [] = .ok (.bl true) S') :
    ∃ fd : FuncData, (∀ (s : Shared) (u : Value), BindsTo s fd ⟨[u], []⟩ [(x, u)]) ∧ ∀ base : Heap, K.In base → base.Ns mainGlobals mg → FnG P w K mg base (k + 1) fa fd [x] (spLaw K) := by
  have e := hfa.symm.trans (PySem.W.mg_of X G a)
  cases e
  have F := fun_mk (st := st) l c kk
  refine ⟨_, fun s u => .of_eq (hb kV doc pm an cdv ct [u] rfl), fun base Kb Gb => ?_⟩
  exact (fn_ok F S (body base Kb Gb fa)).weak (law_imp hF)
theorem cx_no {P : Program} {w : World} {H : Hp} {s s' : Shared} {e : Value} (h : L2.CX P w [] H s (fun _ _ _ => False) e s') : False := by
  obtain ⟨_, _, _, _, _, _, _, _, _, _, _, _, z⟩ := h
  exact z
end
end Kw

/-! Kw9: dicts written with text keys and constants. -/
namespace Kw
open PySem PySem.Spec PyProof.Rows L2

def fDic (ks : List Key) (ds : List D) : FE := fun _ S => .ok (.dic ks ds) S
def lookK (k : Key) : List Key → List D → Option D
  | a :: ks, d :: ds => if a = k then some d else lookK k ks ds
  | _, _ => none
/-- a dict that is asked -/
def gIxD (x y : D) (S : Store) : RE D := match x with
  | .dic ks ds => (match y with
    | .str z => (match lookK (.inr z) ks ds with
      | some d => .ok d S
      | none => .no)
    | .int i => (match lookK (.inl i) ks ds with
      | some d => .ok d S
      | none => .no)
    | _ => .no)
  | _ => .no
section
variable {K : PySem.W.Frag} {mg : Str → Option Value} {w : Wd} {H : Hp} {S : Store}
theorem lookK_at {k : Key} : ∀ {ks : List Key} {ds : List D} {vs : List V} {d : D}, RpL K mg w H ds vs → lookK k ks ds = some d → ∃ v, valV (ks.zip vs) k = some v ∧ Rp K mg w H d v
  | [], _, _, _, _, h => by simp [lookK] at h
  | _ :: _, [], _, _, _, h => by simp [lookK] at h
  | a :: ks, d :: ds, vs, d', r, h => by
    unfold RpL at r
    obtain ⟨v, vs', e, r1, r2⟩ := r
    subst e
    unfold lookK at h
    by_cases hk : a = k
    · rw [if_pos hk] at h
      cases h
      exact ⟨v, by simp [valV, hk], r1⟩
    · rw [if_neg hk] at h
      obtain ⟨u, h1, h2⟩ := lookK_at r2 h
      refine ⟨u, ?_, h2⟩
      unfold valV at h1 ⊢
      rw [List.zip_cons_cons, List.find?_cons_of_neg (by simpa using hk)]
      exact h1
end
section
variable {X : Cx} {W : WX} {a b : Expr} {fa fb : FE} {pos : Pos}
theorem q_ixD (hu : X.A.units + 200 < cLine) (ha : PE X a (tF X W fa)) (hb : PE X b (tF X W fb)) (hs : NoSl b := by intro _ _; rfl) : PE X (.Subscript a b pos) (tF X W (f2 gIxD fa fb)) :=
  PE.wk (pe_dget (by omega) ha hb hs) fun σ H Q ⟨w, ρ, S, s, en, h⟩ => by
    refine ⟨w, ρ, S, s, en, (End.bind h).imp ?_ (fun _ _ _ z => z)⟩
    rintro x H1 ⟨w1, S1, d, e1, s1, r1, h1⟩
    refine ⟨w1, ρ, S1, s1, en.ext e1, (End.bind h1).imp ?_ (fun _ _ _ z => z)⟩
    rintro y H2 ⟨w2, S2, d2, e2, s2, r2, h2⟩
    have r1' := Rp.ext e2 _ _ r1
    cases d <;> try exact h2.elim
    rename_i ks ds
    unfold Rp at r1'
    obtain ⟨p, vs, e, t, o, l, q⟩ := r1'
    cases d2 <;> try exact h2.elim
    · rename_i i
      simp only [gIxD] at h2
      split at h2
      · rename_i d hd
        obtain ⟨v, h3, h4⟩ := lookK_at q hd
        refine ⟨p, v, e, ?_, h2.ret s2 h4⟩
        rw [rp_int r2, ← h3]
        exact DGet.k (k := Sum.inl i) t
      · exact h2.elim
    · rename_i z
      simp only [gIxD] at h2
      split at h2
      · rename_i d hd
        obtain ⟨v, h3, h4⟩ := lookK_at q hd
        refine ⟨p, v, e, ?_, h2.ret s2 h4⟩
        rw [rp_str r2, ← h3]
        exact DGet.k (k := Sum.inr z) t
      · exact h2.elim
theorem new_dic {w : Wd} {S : Store} {H : Hp} {Q : VK} {E : Value → Option Addr → Hp → Prop} {ks : List Key} {ds : List D} {vs : List V} {p : Addr} (s : Sto X.K X.mg w S H) (np : H p = none) (hl : ks.length = vs.length) (r : RpL X.K X.mg w H ds vs)
    (h : End X.K X.mg (fun w H => Rp X.K X.mg w H) w H (.ok (.dic ks ds) S) Q E) : Q (.ref p) (upd H p (.dK (ks.zip vs))) := by
  refine h w _ _ (Ext.new np) (s.beside np) ?_
  show Rp _ _ _ _ _ _
  unfold Rp
  exact ⟨p, vs, rfl, upd_same, s.new np, hl, RpL.ext (Ext.new np) _ _ r⟩
theorem q_dic0 : PE X (.Dict [] [] pos) (tF X W (fDic [] [])) := PE.wk pe_dnewK fun σ H Q ⟨w, ρ, S, s, en, h⟩ => fun p np => new_dic (ks := []) (vs := []) s np rfl RpL.nil h
/-- {'a': 'x', 'b': 'y'} -/
theorem q_dic2 {k1 k2 : Str} {v1 v2 : D} {u1 u2 : V} {j1 j2 : Nat} {p1 p2 : Pos} {e1 e2 : Expr} (h1 : PE X e1 (tC u1)) (c1 : CV v1 u1) (h2 : PE X e2 (tC u2)) (c2 : CV v2 u2) (hne : ¬ (Sum.inr k1 : Key) = Sum.inr k2) :
    PE X (.Dict [some (.Constant (.str k1) j1 p1), some (.Constant (.str k2) j2 p2)] [e1, e2] pos) (tF X W (fDic [.inr k1, .inr k2] [v1, v2])) :=
  PE.wk (pe_disp (pps_cons pe_str h1 (pps_cons pe_str h2 pps_nil)) rfl rfl (by simp) (by simp)) fun σ H Q ⟨w, ρ, S, s, en, h⟩ => by
    intro p np
    refine ⟨upd_same, [(Sum.inr k1, u1), (Sum.inr k2, u2)], rfl, by simp, ?_⟩
    rw [upd_upd]
    have e : mergeK [] [((Sum.inr k1 : Key), u1), (Sum.inr k2, u2)] = [(Sum.inr k1 : Key), Sum.inr k2].zip [u1, u2] := by
      simp [mergeK, putK, hne]
    rw [e]
    exact new_dic (ks := [Sum.inr k1, Sum.inr k2]) (vs := [u1, u2]) s np rfl (RpL.cons c1.rp (RpL.one c2.rp)) h
end
end Kw

/-! Kw10: reckoning the functions over trees. -/
namespace Kw
open PySem PySem.Spec PyProof.Rows L2

/-! ### texts -/
theorem ofString_inj {a b : String} (h : Str.ofString a = Str.ofString b) : a = b := by
  have h1 : (Str.ofString a).cps.toList = (Str.ofString b).cps.toList := by rw [h]
  have key : ∀ s : String, (Str.ofString s).cps.toList = s.toList.map Char.toNat := fun s => by
    show ((cpsOfBytes 0 0 s.toByteArray.data.toList).toArray).toList = _
    rw [cpsOfBytes_string]
  rw [key, key] at h1
  have inj : ∀ {l m : List Char}, l.map Char.toNat = m.map Char.toNat → l = m := fun {l m} h => List.map_inj_right (fun x y e => Char.toNat_inj.mp e) |>.mp h
  have h2 := inj h1
  rw [← String.ofList_toList (s := a), ← String.ofList_toList (s := b), h2]
@[simp] theorem ofString_eq {a b : String} : (Str.ofString a = Str.ofString b) ↔ a = b := ⟨ofString_inj, fun h => by rw [h]⟩
@[simp] theorem ofString_beq {a b : String} : (Str.ofString a == Str.ofString b) = decide (a = b) := by
  by_cases h : a = b
  · subst h; simp
  · have : Str.ofString a ≠ Str.ofString b := fun q => h (ofString_inj q)
    simp [h, this]
@[simp] theorem strOk_of (a : String) : PyData.strOk (Str.ofString a) = true := by
  have key : (Str.ofString a).cps.toList = a.toList.map Char.toNat := by
    show ((cpsOfBytes 0 0 a.toByteArray.data.toList).toArray).toList = _
    rw [cpsOfBytes_string]
  unfold PyData.strOk
  rw [← Array.all_toList, key, List.all_map, List.all_eq_true]
  intro c _
  have h := c.valid
  simp only [UInt32.isValidChar, Nat.isValidChar] at h
  show decide (c.toNat < 1114112) = true
  rw [decide_eq_true_eq]
  show c.val.toNat < 1114112
  omega

/-! ### how the parts are reckoned -/
section
variable {α β : Type} {a : α} {S : Store} {x : Ex} {f : α → Store → RE β} {ρ : FEnv} {k : α → Store → RS}
@[simp] theorem bnd_ok : (RE.ok a S).bnd f = f a S := rfl
@[simp] theorem bnd_ex : (RE.ex x S : RE α).bnd f = .ex x S := rfl
@[simp] theorem bnd_no : (RE.no : RE α).bnd f = .no := rfl
@[simp] theorem toS_ok : (RE.ok a S).toS ρ k = k a S := rfl
@[simp] theorem toS_ex : (RE.ex x S : RE α).toS ρ k = .ex x ρ S := rfl
@[simp] theorem toS_no : (RE.no : RE α).toS ρ k = .no := rfl
variable {g : FS} {d : D} {ρ' : FEnv}
@[simp] theorem sb_nx : (RS.nx ρ S).bnd g = g ρ S := rfl
@[simp] theorem sb_rt : (RS.rt d S).bnd g = .rt d S := rfl
@[simp] theorem sb_bk : (RS.bk ρ S).bnd g = .bk ρ S := rfl
@[simp] theorem sb_ct : (RS.ct ρ S).bnd g = .ct ρ S := rfl
@[simp] theorem sb_ex : (RS.ex x ρ S).bnd g = .ex x ρ S := rfl
@[simp] theorem sb_no : (RS.no).bnd g = .no := rfl
@[simp] theorem fin_nx : (RS.nx ρ S).fin = .ok .non S := rfl
@[simp] theorem fin_rt : (RS.rt d S).fin = .ok d S := rfl
@[simp] theorem fin_ex : (RS.ex x ρ S).fin = .ex x S := rfl
end
section
variable {ρ : FEnv} {S : Store} {d e : D} {x : Option D} {i : Nat} {a b c : FE} {fs : FA} {ta tb : FT}
@[simp] theorem fVar_z : fVar 0 (some d :: ρ) S = .ok d S := rfl
@[simp] theorem fVar_s : fVar (i + 1) (x :: ρ) S = fVar i ρ S := rfl
@[simp] theorem fC_ap : fC d ρ S = .ok d S := rfl
@[simp] theorem f1_ap {g : D → Store → RE D} : f1 g a ρ S = (a ρ S).bnd g := rfl
@[simp] theorem f2_ap {g : D → D → Store → RE D} : f2 g a b ρ S = (a ρ S).bnd fun x S1 => (b ρ S1).bnd fun y S2 => g x y S2 := rfl
@[simp] theorem fNil_ap : fNil ρ S = .ok [] S := rfl
@[simp] theorem fCons_ap : fCons a fs ρ S = (a ρ S).bnd fun x S1 => (fs ρ S1).bnd fun xs S2 => .ok (x :: xs) S2 := rfl
@[simp] theorem fArg_ap {g : FF} : fArg g fs ρ S = (fs ρ S).bnd g := rfl
def toB (d : D) (S : Store) : RE Bool := match d with
  | .bl k => .ok k S
  | _ => .no
@[simp] theorem toB_bl {k : Bool} : toB (.bl k) S = .ok k S := rfl
@[simp] theorem fB_ap : fB a ρ S = (a ρ S).bnd toB := rfl
def brB (d : D) (S : Store) (t f : RE D) : RE D := match d with
  | .bl k => if k then t else f
  | _ => .no
@[simp] theorem brB_bl {k : Bool} {t f : RE D} : brB (.bl k) S t f = if k then t else f := rfl
@[simp] theorem fChain_ap {g g' : D → D → Store → RE D} : fChain g g' a b c ρ S = (a ρ S).bnd fun x S1 => (b ρ S1).bnd fun y S2 => (g x y S2).bnd fun k S3 => brB k S3 ((c ρ S3).bnd fun z S4 => g' y z S4) (.ok (.bl false) S3) := by
  unfold fChain
  congr; funext x S1; congr; funext y S2; congr; funext k S3
  cases k <;> try rfl
  rename_i k; cases k <;> rfl
@[simp] theorem fAnd_ap : fAnd ta tb ρ S = (ta ρ S).bnd fun k S1 => if k then tb ρ S1 else .ok false S1 := by
  unfold fAnd; congr; funext k S1; cases k <;> rfl
@[simp] theorem fOr_ap : fOr ta tb ρ S = (ta ρ S).bnd fun k S1 => if k then .ok true S1 else tb ρ S1 := by
  unfold fOr; congr; funext k S1; cases k <;> rfl
@[simp] theorem fNot_ap : fNot ta ρ S = (ta ρ S).bnd fun k S1 => .ok (!k) S1 := rfl
@[simp] theorem fIf_ap : fIf ta a b ρ S = (ta ρ S).bnd fun k S1 => if k then a ρ S1 else b ρ S1 := by
  unfold fIf; congr; funext k S1; cases k <;> rfl
@[simp] theorem fAndV_ap : fAndV a b ρ S = (a ρ S).bnd fun k S1 => brB k S1 (b ρ S1) (.ok (.bl false) S1) := by
  unfold fAndV; congr; funext k S1; cases k <;> try rfl
  rename_i k; cases k <;> rfl
@[simp] theorem fOrV_ap : fOrV a b ρ S = (a ρ S).bnd fun k S1 => brB k S1 (.ok (.bl true) S1) (b ρ S1) := by
  unfold fOrV; congr; funext k S1; cases k <;> try rfl
  rename_i k; cases k <;> rfl
def truR (d : D) (S : Store) : RE Bool := match truD S d with
  | some k => .ok k S
  | none => .no
@[simp] theorem truR_bl {k : Bool} : truR (.bl k) S = .ok k S := rfl
@[simp] theorem truR_int {k : Int} : truR (.int k) S = .ok (k != 0) S := rfl
@[simp] theorem truR_non : truR .non S = .ok false S := rfl
@[simp] theorem truR_lst {ds : List D} : truR (.lst ds) S = .ok (!ds.isEmpty) S := rfl
@[simp] theorem truR_tup {ds : List D} : truR (.tup ds) S = .ok (!ds.isEmpty) S := rfl
@[simp] theorem fTru_ap : fTru a ρ S = (a ρ S).bnd truR := rfl
@[simp] theorem fNotV_ap : fNotV a ρ S = (a ρ S).bnd fun x S1 => (truR x S1).bnd fun k S2 => .ok (.bl (!k)) S2 := by
  unfold fNotV; congr; funext x S1; unfold truR; cases truD S1 x <;> rfl
def isiR (T : String) (d : D) (S : Store) : RE D := match tyD S d with
  | some t => .ok (.bl (isiB t T)) S
  | none => .no
@[simp] theorem fIsi_ap {T : String} : fIsi T a ρ S = (a ρ S).bnd (isiR T) := rfl
@[simp] theorem isi_int {T : String} {i : Int} : isiR T (.int i) S = .ok (.bl (decide (T = "int"))) S := by
  have : (isiB "int" T) = decide (T = "int") := by
    unfold isiB
    by_cases h : T = "int"
    · subst h; rfl
    · have h' : ¬ "int" = T := fun z => h z.symm
      simp [h, h']
  show RE.ok (D.bl (isiB "int" T)) S = _
  rw [this]
@[simp] theorem isi_bl {T : String} {i : Bool} : isiR T (.bl i) S = .ok (.bl (decide (T = "bool") || decide (T = "int"))) S := by
  have : (isiB "bool" T) = (decide (T = "bool") || decide (T = "int")) := by
    unfold isiB
    by_cases h : T = "bool"
    · subst h; rfl
    · have h' : ¬ "bool" = T := fun z => h z.symm
      by_cases h2 : T = "int"
      · subst h2; rfl
      · simp [h, h', h2]
  show RE.ok (D.bl (isiB "bool" T)) S = _
  rw [this]
theorem isiB_other {t T : String} (h : t ≠ "bool") : isiB t T = decide (T = t) := by
  unfold isiB
  by_cases e : T = t
  · subst e; simp
  · have e' : ¬ t = T := fun z => e z.symm
    simp [h, e, e']
@[simp] theorem isi_str {T : String} {i : Str} : isiR T (.str i) S = .ok (.bl (decide (T = "str"))) S := by
  show RE.ok (D.bl (isiB "str" T)) S = _
  rw [isiB_other (by decide)]
@[simp] theorem isi_non {T : String} : isiR T .non S = .ok (.bl (decide (T = "NoneType"))) S := by
  show RE.ok (D.bl (isiB "NoneType" T)) S = _
  rw [isiB_other (by decide)]
@[simp] theorem isi_tup {T : String} {ds : List D} : isiR T (.tup ds) S = .ok (.bl (decide (T = "tuple"))) S := by
  show RE.ok (D.bl (isiB "tuple" T)) S = _
  rw [isiB_other (by decide)]
@[simp] theorem isi_lst {T : String} {ds : List D} : isiR T (.lst ds) S = .ok (.bl (decide (T = "list"))) S := by
  show RE.ok (D.bl (isiB "list" T)) S = _
  rw [isiB_other (by decide)]
@[simp] theorem isi_dic {T : String} {ks : List Key} {ds : List D} : isiR T (.dic ks ds) S = .ok (.bl (decide (T = "dict"))) S := by
  show RE.ok (D.bl (isiB "dict" T)) S = _
  rw [isiB_other (by decide)]
theorem isi_loc {T : String} {n : Nat} {ds : List D} (h : cellOf S n = some ds) : isiR T (.loc n) S = .ok (.bl (decide (T = "list"))) S := by
  show (match (cellOf S n).map (fun _ => "list") with | some t => RE.ok (D.bl (isiB t T)) S | none => .no) = _
  rw [h]
  show RE.ok (D.bl (isiB "list" T)) S = _
  rw [isiB_other (by decide)]
end
section
variable {ρ : FEnv} {S : Store} {f g : FS} {fe : FE} {tc : FT} {i : Nat} {fa : FA}
@[simp] theorem sNil_ap : sNil ρ S = .nx ρ S := rfl
@[simp] theorem sSeq_ap : sSeq f g ρ S = (f ρ S).bnd g := rfl
@[simp] theorem sBrk_ap : sBrk ρ S = .bk ρ S := rfl
@[simp] theorem sCnt_ap : sCnt ρ S = .ct ρ S := rfl
@[simp] theorem sExp_ap : sExp fe ρ S = (fe ρ S).toS ρ fun _ S1 => .nx ρ S1 := rfl
@[simp] theorem sRet_ap : sRet fe ρ S = (fe ρ S).toS ρ fun d S1 => .rt d S1 := rfl
@[simp] theorem sRetN_ap : sRetN ρ S = .rt .non S := rfl
@[simp] theorem sSet_ap : sSet i fe ρ S = (fe ρ S).toS ρ fun d S1 => .nx (ρ.set i (some d)) S1 := rfl
@[simp] theorem sIf_ap : sIf tc f g ρ S = (tc ρ S).toS ρ fun k S1 => if k then f ρ S1 else g ρ S1 := by
  unfold sIf; congr; funext k S1; cases k <;> rfl
@[simp] theorem sRaise_ap {x : Str} : sRaise x ρ S = .ex ⟨x, [], []⟩ ρ S := rfl
def gRes (r : Option (FEnv × Store)) : RS := match r with
  | some (ρ', S') => .nx ρ' S'
  | none => .no
@[simp] theorem gRes_some {ρ' : FEnv} {S' : Store} : gRes (some (ρ', S')) = .nx ρ' S' := rfl
@[simp] theorem sAsg_ap {g : FG} : sAsg fe g ρ S = (fe ρ S).toS ρ fun d S1 => gRes (g d ρ S1) := rfl
@[simp] theorem gN_ap {d : D} : gN i d ρ S = some (ρ.set i (some d), S) := rfl
@[simp] theorem gsNil_ap : gsNil [] ρ S = some (ρ, S) := rfl
def gBnd (r : Option (FEnv × Store)) (k : FEnv → Store → Option (FEnv × Store)) : Option (FEnv × Store) := match r with
  | some (ρ', S') => k ρ' S'
  | none => none
@[simp] theorem gBnd_some {ρ' : FEnv} {S' : Store} {k : FEnv → Store → Option (FEnv × Store)} : gBnd (some (ρ', S')) k = k ρ' S' := rfl
@[simp] theorem gsCons_ap {g : FG} {gs : FGs} {d : D} {r : List D} : gsCons g gs (d :: r) ρ S = gBnd (g d ρ S) (gs r) := rfl
@[simp] theorem gTu_ap {n : Nat} {gs : FGs} {ds : List D} : gTu n gs (.tup ds) ρ S = if ds.length = n then gs ds ρ S else none := rfl
theorem sPar_ap {j : Nat} : sPar i j fa ρ S = (fa ρ S).toS ρ fun ds S1 => match ds with
  | [x, y] => .nx ((ρ.set i (some x)).set j (some y)) S1
  | _ => .no := rfl
def par2 (i j : Nat) (ρ : FEnv) (ds : List D) (S : Store) : RS := match ds with
  | [x, y] => .nx ((ρ.set i (some x)).set j (some y)) S
  | _ => .no
@[simp] theorem par2_ap {j : Nat} {x y : D} : par2 i j ρ [x, y] S = .nx ((ρ.set i (some x)).set j (some y)) S := rfl
@[simp] theorem sPar_ap' {j : Nat} : sPar i j fa ρ S = (fa ρ S).toS ρ (par2 i j ρ) := rfl
def augR (i : Nat) (g : D → D → Store → RE D) (x : Option (Option D)) (f : FE) (ρ : FEnv) (S : Store) : RS := match x with
  | some (some x) => (f ρ S).toS ρ fun y S1 => (g x y S1).toS ρ fun z S2 => .nx (ρ.set i (some z)) S2
  | _ => .no
@[simp] theorem augR_ap {g : D → D → Store → RE D} {x : D} : augR i g (some (some x)) fe ρ S = (fe ρ S).toS ρ fun y S1 => (g x y S1).toS ρ fun z S2 => .nx (ρ.set i (some z)) S2 := rfl
@[simp] theorem sAug_ap {g : D → D → Store → RE D} : sAug i g fe ρ S = augR i g ρ[i]? fe ρ S := rfl
end
section
variable {S : Store} {i j : Int} {a b : Str} {c : Bool} {xs ys ds : List D} {k : Bool} {d e : D}
@[simp] theorem gAdd_ii : gAdd c (.int i) (.int j) S = .ok (.int (i + j)) S := rfl
@[simp] theorem gAdd_ss : gAdd c (.str a) (.str b) S = if a.length + b.length ≤ sizeLine then .ok (.str (a ++ b)) S else .no := rfl
@[simp] theorem gAdd_tt : gAdd c (.tup xs) (.tup ys) S = mkTup (xs ++ ys) S := rfl
@[simp] theorem gAdd_ll : gAdd false (.lst xs) (.lst ys) S = mkLst (xs ++ ys) S := rfl
@[simp] theorem gSub_ii : Kw.gSub (.int i) (.int j) S = .ok (.int (i - j)) S := rfl
@[simp] theorem gMul_ii : gMul c (.int i) (.int j) S = if CMul i j ∨ CMulW i j then .ok (.int (i * j)) S else .no := rfl
@[simp] theorem gMod_ii : gMod (.int i) (.int j) S = if 0 < j then .ok (.int (i % j)) S else .no := rfl
@[simp] theorem gDiv_ii : gDiv (.int i) (.int j) S = if 0 < j ∧ j.natAbs.log2 < 9000 then .ok (.int (i / j)) S else .no := rfl
@[simp] theorem gPow_ii : gPow (.int i) (.int j) S = if 0 ≤ j ∧ j ≤ 1000000 ∧ i.natAbs < 2 ^ 64 then .ok (.int (i ^ j.toNat)) S else .no := rfl
@[simp] theorem gIAdd_ii : gIAdd (.int i) (.int j) S = .ok (.int (i + j)) S := rfl
@[simp] theorem gNeg_i : gNeg (.int i) S = .ok (.int (-i)) S := rfl
@[simp] theorem gCmp_ii {p : Int → Int → Bool} : gCmp p (.int i) (.int j) S = .ok (.bl (p i j)) S := rfl
@[simp] theorem gEq_ss : gEq (.str a) (.str b) S = .ok (.bl (a == b)) S := rfl
@[simp] theorem gNe_ss : gNe (.str a) (.str b) S = .ok (.bl (!(a == b))) S := rfl
@[simp] theorem gEq_ii : gEq (.int i) (.int j) S = .ok (.bl (i == j)) S := by
  simp [gEq, eqE, pyS, okPy, PyData.canLay0, PyData.depth, PyData.eqv]
@[simp] theorem gNe_ii : gNe (.int i) (.int j) S = .ok (.bl (!(i == j))) S := by
  simp [gNe, eqE, pyS, okPy, PyData.canLay0, PyData.depth, PyData.eqv]
@[simp] theorem gEq_bb {i j : Bool} : gEq (.bl i) (.bl j) S = .ok (.bl (i == j)) S := by
  simp [gEq, eqE, pyS, okPy, PyData.canLay0, PyData.depth, PyData.eqv]
@[simp] theorem gNe_bb {i j : Bool} : gNe (.bl i) (.bl j) S = .ok (.bl (!(i == j))) S := by
  simp [gNe, eqE, pyS, okPy, PyData.canLay0, PyData.depth, PyData.eqv]
@[simp] theorem gLen_tup : gLen [.tup ds] S = .ok (.int ds.length) S := rfl
@[simp] theorem gLen_lst : gLen [.lst ds] S = .ok (.int ds.length) S := rfl
@[simp] theorem gLen_fls : gLen [.fls ds] S = .ok (.int ds.length) S := rfl
@[simp] theorem gLen_str : gLen [.str a] S = if a.length ≤ sizeLine then .ok (.int a.length) S else .no := rfl
@[simp] theorem gInt_i : gInt [.int i] S = .ok (.int i) S := rfl
@[simp] theorem gInt_b : gInt [.bl k] S = .ok (.int (if k then 1 else 0)) S := rfl
@[simp] theorem gTuple_lst : gTuple [.lst ds] S = .ok (.tup ds) S := rfl
@[simp] theorem gTuple_tup : gTuple [.tup ds] S = .ok (.tup ds) S := rfl
@[simp] theorem gList_lst : gList false [.lst ds] S = .ok (.lst ds) S := rfl
@[simp] theorem gList_tup : gList false [.tup ds] S = .ok (.lst ds) S := rfl
@[simp] theorem gIs_nn : gIs c .non .non S = .ok (.bl (xor c true)) S := rfl
@[simp] theorem gIs_tn : gIs c (.tup ds) .non S = .ok (.bl (xor c false)) S := rfl
@[simp] theorem gIs_ln : gIs c (.lst ds) .non S = .ok (.bl (xor c false)) S := rfl
@[simp] theorem gIs_in : gIs c (.int i) .non S = .ok (.bl (xor c false)) S := rfl
@[simp] theorem gIs_sn : gIs c (.str a) .non S = .ok (.bl (xor c false)) S := rfl
@[simp] theorem gIs_bn : gIs c (.bl k) .non S = .ok (.bl (xor c false)) S := rfl
@[simp] theorem gIs_bb {l : Bool} : gIs c (.bl k) (.bl l) S = .ok (.bl (xor c (decide (k = l)))) S := rfl
def ixR (ds : List D) (i : Int) (S : Store) : RE D := match L2.atI ds i with
  | some d => .ok d S
  | none => .no
@[simp] theorem ixR_nat {n : Nat} : ixR ds (n : Int) S = match ds[n]? with
  | some d => .ok d S
  | none => .no := by
  unfold ixR
  cases h : ds[n]? with
  | some d => rw [atI_nat h]
  | none =>
    have hl : ds.length ≤ n := List.getElem?_eq_none_iff.mp h
    have : L2.atI ds (n : Int) = none := by
      unfold L2.atI ixN
      rw [if_pos (by omega), if_neg (by omega)]; rfl
    rw [this]
@[simp] theorem ixR_0 : ixR (d :: ds) 0 S = .ok d S := by
  have := ixR_nat (ds := d :: ds) (n := 0) (S := S)
  simpa using this
@[simp] theorem ixR_1 : ixR (d :: e :: ds) 1 S = .ok e S := by
  have := ixR_nat (ds := d :: e :: ds) (n := 1) (S := S)
  simpa using this
@[simp] theorem ixR_2 {e' : D} : ixR (d :: e :: e' :: ds) 2 S = .ok e' S := by
  have := ixR_nat (ds := d :: e :: e' :: ds) (n := 2) (S := S)
  simpa using this
@[simp] theorem gIx_tup : gIx (.tup ds) (.int i) S = ixR ds i S := rfl
@[simp] theorem gIx_lst : gIx (.lst ds) (.int i) S = ixR ds i S := rfl
@[simp] theorem gIx_fls : gIx (.fls ds) (.int i) S = ixR ds i S := rfl
theorem gIx_loc {n : Nat} (h : cellOf S n = some ds) : gIx (.loc n) (.int i) S = ixR ds i S := by
  show (match cellOf S n with | some ds => ixR ds i S | none => .no) = _
  rw [h]
end
@[simp] theorem short2 {n : Nat} (h : n ≤ 1000) : (n ≤ sizeLine) = True := eq_true (Nat.le_trans h (by decide))
theorem sz : sizeLine = 16777216 := rfl
section
variable {S : Store} {ds : List D}
@[simp] theorem mkTup_ap : mkTup ds S = if ds.length ≤ sizeLine then .ok (.tup ds) S else .no := rfl
@[simp] theorem mkLst_ap : mkLst ds S = if ds.length ≤ sizeLine then .ok (.lst ds) S else .no := rfl
@[simp] theorem mkCel_ap : mkCel ds S = if ds.length ≤ sizeLine then .ok (.loc S.length) (S ++ [.lst ds]) else .no := rfl
section
variable {n : Nat} {b : FS} {a1 a2 a3 a4 a5 : D}
@[simp] theorem fnB_0 : fnB 0 n b [] S = (b (List.replicate n none) S).fin := rfl
@[simp] theorem fnB_1 : fnB 1 n b [a1] S = (b (some a1 :: List.replicate (n - 1) none) S).fin := rfl
@[simp] theorem fnB_2 : fnB 2 n b [a1, a2] S = (b (some a1 :: some a2 :: List.replicate (n - 2) none) S).fin := rfl
@[simp] theorem fnB_3 : fnB 3 n b [a1, a2, a3] S = (b (some a1 :: some a2 :: some a3 :: List.replicate (n - 3) none) S).fin := rfl
@[simp] theorem fnB_4 : fnB 4 n b [a1, a2, a3, a4] S = (b (some a1 :: some a2 :: some a3 :: some a4 :: List.replicate (n - 4) none) S).fin := rfl
@[simp] theorem fnB_5 : fnB 5 n b [a1, a2, a3, a4, a5] S = (b (some a1 :: some a2 :: some a3 :: some a4 :: some a5 :: List.replicate (n - 5) none) S).fin := rfl
end
theorem fnB_ap {m n : Nat} {b : FS} (h : ds.length = m) : fnB m n b ds S = (b (ds.map some ++ List.replicate (n - m) none) S).fin := by unfold fnB; rw [if_pos h]
end
end Kw

/-! Kw11: cells, texts and kinds, reckoned. -/
namespace Kw
open PySem PySem.Spec PyProof.Rows L2
section
variable {S T : Store} {n : Nat} {ds xs ys : List D} {c c' : Cell} {d x : D} {i : Int} {ρ : FEnv}
@[simp] theorem cellOf_app : cellOf (S ++ [.lst ds]) S.length = some ds := by simp [cellOf]
@[simp] theorem cellM_app : cellM (S ++ [.lst ds]) S.length = some ds := by simp [cellM]
@[simp] theorem set_app : (S ++ [c]).set S.length c' = S ++ [c'] := by simp [List.set_append]
theorem cellOf_of (h : S[n]? = some (.lst ds)) : cellOf S n = some ds := by simp [cellOf, h]
theorem cellM_of (h : S[n]? = some (.lst ds)) : cellM S n = some ds := by simp [cellM, h]
def ixO (o : Option (List D)) (i : Int) (S : Store) : RE D := match o with
  | some ds => ixR ds i S
  | none => .no
@[simp] theorem ixO_some : ixO (some ds) i S = ixR ds i S := rfl
@[simp] theorem gIx_locO : gIx (.loc n) (.int i) S = ixO (cellOf S n) i S := rfl
theorem cut_ok {S : Store} {d : D} (T : Store) (h : d.under S.length = true) : cutR S (.ok d (S ++ T)) = .ok d S := by
  have hc : CutOk S (S ++ T) := ⟨by simp, fun i c hi e => .inl (by rw [List.getElem?_append_left hi] at e; exact e)⟩
  have hd : (D.under S.length d = true ∧ CutOk S (S ++ T)) := ⟨h, hc⟩
  simp [cutR, hd]
theorem cut_ex {S : Store} {e : Ex} (T : Store) (h : underL S.length e.ds = true) : cutR S (.ex e (S ++ T)) = .ex e S := by
  have hc : CutOk S (S ++ T) := ⟨by simp, fun i c hi e => .inl (by rw [List.getElem?_append_left hi] at e; exact e)⟩
  have hd : (underL S.length e.ds = true ∧ CutOk S (S ++ T)) := ⟨h, hc⟩
  simp [cutR, hd]
theorem fnC_ap {m n : Nat} {b : FS} : fnC m n b ds S = cutR S (fnB m n b ds S) := rfl
/-- a list beside the empty one -/
theorem gNe_nil (h : cellOf S n = some ds) : gNe (.loc n) (.lst []) S = .ok (.bl (!ds.isEmpty)) S := by
  unfold gNe eqE seqL
  simp only
  rw [h]; rfl
@[simp] theorem gEq_te : gEq (.tup ds) (.tup []) S = .ok (.bl ds.isEmpty) S := rfl
@[simp] theorem gNe_te : gNe (.tup ds) (.tup []) S = .ok (.bl (!ds.isEmpty)) S := rfl
@[simp] theorem gEq_ts {a b : Str} : gEq (.tup (.str a :: ds)) (.tup [.str b]) S = .ok (.bl (a == b && ds.isEmpty)) S := rfl
@[simp] theorem gNe_ts {a b : Str} : gNe (.tup (.str a :: ds)) (.tup [.str b]) S = .ok (.bl (!(a == b && ds.isEmpty))) S := rfl
@[simp] theorem gEq_le : gEq (.lst ds) (.lst []) S = .ok (.bl ds.isEmpty) S := rfl
@[simp] theorem gNe_le : gNe (.lst ds) (.lst []) S = .ok (.bl (!ds.isEmpty)) S := rfl
@[simp] theorem gInG_str {neg : Bool} {nm z : Str} {kvs : List (Str × D)} : gInG neg nm kvs (.str z) (.glo nm) S = .ok (.bl (xor neg (kvs.lookup z).isSome)) S := by
  show (if nm = nm then RE.ok (D.bl (xor neg (kvs.lookup z).isSome)) S else .no) = _
  rw [if_pos rfl]
theorem gInG_tup {neg : Bool} {nm : Str} {kvs : List (Str × D)} : gInG neg nm kvs (.tup ds) (.glo nm) S = .no := rfl
def luR (o : Option D) (S : Store) : RE D := match o with
  | some d => .ok d S
  | none => .no
@[simp] theorem luR_some : luR (some d) S = .ok d S := rfl
@[simp] theorem gIxG_str {nm z : Str} {kvs : List (Str × D)} : gIxG nm kvs (.glo nm) (.str z) S = luR (kvs.lookup z) S := by
  show (if nm = nm then luR (kvs.lookup z) S else .no) = _
  rw [if_pos rfl]
@[simp] theorem gIxD_str {ks : List Key} {z : Str} : gIxD (.dic ks ds) (.str z) S = luR (lookK (.inr z) ks ds) S := rfl
@[simp] theorem gIxD_int {ks : List Key} {z : Int} : gIxD (.dic ks ds) (.int z) S = luR (lookK (.inl z) ks ds) S := rfl
theorem lookK_s {k : Key} {ks : List Key} {a : Key} : lookK k (a :: ks) (d :: ds) = if a = k then some d else lookK k ks ds := rfl
@[simp] theorem fDic_ap {ks : List Key} : fDic ks ds ρ S = .ok (.dic ks ds) S := rfl
@[simp] theorem fNone_ap : fNone ρ S = .ok none S := rfl
def toI (d : D) (S : Store) : RE (Option Int) := match d with
  | .int i => .ok (some i) S
  | _ => .no
@[simp] theorem toI_int : toI (.int i) S = .ok (some i) S := rfl
@[simp] theorem fSome_ap {f : FE} : fSome f ρ S = (f ρ S).bnd toI := rfl
@[simp] theorem fSl_ap {g : D → Option Int → Option Int → Store → RE D} {a : FE} {l u : FO} : fSl g a l u ρ S = (a ρ S).bnd fun x S1 => (l ρ S1).bnd fun lo S2 => (u ρ S2).bnd fun hi S3 => g x lo hi S3 := rfl
@[simp] theorem gSl_tup {c : Bool} {lo hi : Option Int} : gSl c (.tup ds) lo hi S = .ok (.tup (cutL ds lo hi)) S := rfl
@[simp] theorem gSl_lst {lo hi : Option Int} : gSl false (.lst ds) lo hi S = .ok (.lst (cutL ds lo hi)) S := rfl
@[simp] theorem gSl_fls {lo hi : Option Int} : gSl false (.fls ds) lo hi S = .ok (.lst (cutL ds lo hi)) S := rfl
def slO (o : Option (List D)) (lo hi : Option Int) (S : Store) : RE D := match o with
  | some ds => .ok (.lst (cutL ds lo hi)) S
  | none => .no
@[simp] theorem slO_some {lo hi : Option Int} : slO (some ds) lo hi S = .ok (.lst (cutL ds lo hi)) S := rfl
@[simp] theorem gSl_loc {lo hi : Option Int} : gSl false (.loc n) lo hi S = slO (cellOf S n) lo hi S := rfl
def mthR (g : D → List D → Store → RE D) (a : FA) (ρ : FEnv) (x : D) (S : Store) : RE D := match seqL S x with
  | some _ => (a ρ S).bnd fun ds S2 => g x ds S2
  | none => .no
@[simp] theorem fMth_ap {g : D → List D → Store → RE D} {o : FE} {a : FA} : fMth g o a ρ S = (o ρ S).bnd (mthR g a ρ) := rfl
theorem mthR_loc {g : D → List D → Store → RE D} {a : FA} (h : cellOf S n = some xs) : mthR g a ρ (.loc n) S = (a ρ S).bnd fun ds S2 => g (.loc n) ds S2 := by
  show (match cellOf S n with | some _ => (a ρ S).bnd fun ds S2 => g (.loc n) ds S2 | none => .no) = _
  rw [h]
theorem gAppend_loc (h : cellM S n = some xs) (hl : xs.length < sizeLine) : gAppend (.loc n) [d] S = .ok .non (S.set n (.lst (xs ++ [d]))) := by
  simp [gAppend, h, hl]
theorem gExtend_loc (h : cellM S n = some xs) (hl : xs.length + ys.length ≤ sizeLine) : gExtend (.loc n) [.lst ys] S = .ok .non (S.set n (.lst (xs ++ ys))) := by
  simp [gExtend, h, seqM, hl]
theorem gPop0_loc (h : cellM S n = some (xs ++ [d])) : gPop0 (.loc n) [] S = .ok d (S.set n (.lst xs)) := by
  simp [gPop0, h]
end
/-! ### loops -/
def loopR (w : FS) (r : RS) : RS := match r with
  | .nx ρ2 S2 => w ρ2 S2
  | .ct ρ2 S2 => w ρ2 S2
  | .bk ρ2 S2 => .nx ρ2 S2
  | z => z
section
variable {w : FS} {ρ : FEnv} {S : Store} {d : D} {x : Ex}
@[simp] theorem loopR_nx : loopR w (.nx ρ S) = w ρ S := rfl
@[simp] theorem loopR_ct : loopR w (.ct ρ S) = w ρ S := rfl
@[simp] theorem loopR_bk : loopR w (.bk ρ S) = .nx ρ S := rfl
@[simp] theorem loopR_rt : loopR w (.rt d S) = .rt d S := rfl
@[simp] theorem loopR_ex : loopR w (.ex x ρ S) = .ex x ρ S := rfl
@[simp] theorem loopR_no : loopR w .no = .no := rfl
theorem sWhile_go {c : FT} {b : FS} : sWhile c b ρ S = (c ρ S).toS ρ fun k S1 => if k then loopR (sWhile c b) (b ρ S1) else .nx ρ S1 := by
  rw [sWhile_step]
  congr; funext k S1; cases k
  · rfl
  · show _ = loopR (sWhile c b) (b ρ S1)
    cases b ρ S1 <;> rfl
variable {tg : FG} {b : FS} {r : List D} {fi : FI}
def tgR (w b : FS) (o : Option (FEnv × Store)) : RS := match o with
  | some (ρ1, S1) => loopR w (b ρ1 S1)
  | none => .no
@[simp] theorem tgR_some : tgR w b (some (ρ, S)) = loopR w (b ρ S) := rfl
@[simp] theorem forL_nil : forL tg b none [] ρ S = .nx ρ S := by
  unfold forL gchk; rw [if_pos (by unfold gd; trivial)]
theorem forL_cons : forL tg b none (d :: r) ρ S = tgR (forL tg b none r) b (tg d ρ S) := by
  show gchk none S _ _ = _
  unfold gchk
  rw [if_pos (by unfold gd; trivial)]
  cases tg d ρ S with
  | none => rfl
  | some p =>
    obtain ⟨ρ1, S1⟩ := p
    show (match b ρ1 S1 with
      | .nx ρ2 S2 => forL tg b none r ρ2 S2
      | .ct ρ2 S2 => forL tg b none r ρ2 S2
      | .bk ρ2 S2 => .nx ρ2 S2
      | z => z) = loopR _ (b ρ1 S1)
    cases b ρ1 S1 <;> rfl
@[simp] theorem sFor_ap : sFor fi tg b ρ S = (fi ρ S).toS ρ fun p S1 => forL tg b p.2 p.1 ρ S1 := rfl
def itL (d : D) (S : Store) : RE Its' := match iSeq S d with
  | some p => .ok p S
  | none => .no
def itT (d : D) (S : Store) : RE Its' := match d with
  | .tup ds => .ok (ds, none) S
  | _ => .no
def itS (d : D) (S : Store) : RE Its' := match d with
  | .str z => .ok (chrs z, none) S
  | _ => .no
def itR (ds : List D) (S : Store) : RE Its' := match ds with
  | [.int j] => if -(2 ^ 62) ≤ j ∧ j < 2 ^ 62 then .ok (rngD 0 j.toNat, none) S else .no
  | _ => .no
@[simp] theorem fiL_ap {f : FE} : fiL f ρ S = (f ρ S).bnd itL := rfl
@[simp] theorem fiT_ap {f : FE} : fiT f ρ S = (f ρ S).bnd itT := rfl
@[simp] theorem fiS_ap {f : FE} : fiS f ρ S = (f ρ S).bnd itS := rfl
@[simp] theorem fiR1_ap {f : FA} : fiR1 f ρ S = (f ρ S).bnd itR := rfl
@[simp] theorem itL_lst {ds : List D} : itL (.lst ds) S = .ok (ds, none) S := rfl
@[simp] theorem itL_fls {ds : List D} : itL (.fls ds) S = .ok (ds, none) S := rfl
@[simp] theorem itT_tup {ds : List D} : itT (.tup ds) S = .ok (ds, none) S := rfl
@[simp] theorem itS_str {z : Str} : itS (.str z) S = .ok (chrs z, none) S := rfl
@[simp] theorem itR_int {j : Int} : itR [.int j] S = if -(2 ^ 62) ≤ j ∧ j < 2 ^ 62 then .ok (rngD 0 j.toNat, none) S else .no := rfl
end
/-! ### texts -/
@[simp] theorem len_of (s : String) : (Str.ofString s).length = s.toList.length := by
  have key : (Str.ofString s).cps.toList = s.toList.map Char.toNat := by
    show ((cpsOfBytes 0 0 s.toByteArray.data.toList).toArray).toList = _
    rw [cpsOfBytes_string]
  show (Str.ofString s).cps.size = _
  rw [← Array.length_toList, key, List.length_map]
theorem cps_of (s : String) : (Str.ofString s).cps = (s.toList.map Char.toNat).toArray := by
  show (cpsOfBytes 0 0 s.toByteArray.data.toList).toArray = _
  rw [cpsOfBytes_string]
/-! ### kinds -/
inductive Kd where
  | base (i : Fin 8)
  | unit
  | both (a b : Kd)
  | frm (a b : Kd)
deriving DecidableEq
namespace Kd
def d : Kd → D
  | .base i => .tup [.str "base", .int (i.val : Int)]
  | .unit => .tup [.str "unit"]
  | .both a b => .tup [.str "both", d a, d b]
  | .frm a b => .tup [.str "from", d a, d b]
def p : Kd → PyData
  | .base i => .tuple [.str "base", .int (i.val : Int)]
  | .unit => .tuple [.str "unit"]
  | .both a b => .tuple [.str "both", p a, p b]
  | .frm a b => .tuple [.str "from", p a, p b]
/-- how deep -/
def dep : Kd → Nat
  | .both a b => max (dep a) (dep b) + 1
  | .frm a b => max (dep a) (dep b) + 1
  | _ => 0
def sz : Kd → Nat
  | .both a b => sz a + sz b + 1
  | .frm a b => sz a + sz b + 1
  | _ => 1
theorem sz_pos : ∀ k : Kd, 0 < k.sz
  | .base _ => by simp [sz]
  | .unit => by simp [sz]
  | .both a b => by simp [sz]
  | .frm a b => by simp [sz]
def inn : Kd → List Kd
  | .both a b => [a, b]
  | .frm a b => [a, b]
  | _ => []
@[simp] theorem py0_d : ∀ k : Kd, py0 k.d = some k.p
  | .base i => by simp [d, p, py0, py0L]
  | .unit => by simp [d, p, py0, py0L]
  | .both a b => by simp [d, p, py0, py0L, py0_d a, py0_d b]
  | .frm a b => by simp [d, p, py0, py0L, py0_d a, py0_d b]
@[simp] theorem pyS_d (S : Store) : ∀ k : Kd, pyS S k.d = some k.p
  | .base i => by simp [d, p, pyS, pySL]
  | .unit => by simp [d, p, pyS, pySL]
  | .both a b => by simp [d, p, pyS, pySL, pyS_d S a, pyS_d S b]
  | .frm a b => by simp [d, p, pyS, pySL, pyS_d S a, pyS_d S b]
theorem py0L_map : ∀ ks : List Kd, py0L (ks.map d) = some (ks.map p)
  | [] => rfl
  | k :: ks => by simp [py0L, py0L_map ks]
@[simp] theorem lay_p : ∀ k : Kd, k.p.canLay0 = true
  | .base i => by simp [p, PyData.canLay0, PyData.canLayAll0]
  | .unit => by simp [p, PyData.canLay0, PyData.canLayAll0]
  | .both a b => by simp [p, PyData.canLay0, PyData.canLayAll0, lay_p a, lay_p b]
  | .frm a b => by simp [p, PyData.canLay0, PyData.canLayAll0, lay_p a, lay_p b]
theorem lay_map : ∀ ks : List Kd, PyData.canLayAll0 (ks.map p) = true
  | [] => rfl
  | k :: ks => by simp [PyData.canLayAll0, lay_map ks]
theorem depth_p : ∀ k : Kd, k.p.depth = k.dep + 1
  | .base i => by simp [p, PyData.depth, PyData.depthAll, dep]
  | .unit => by simp [p, PyData.depth, PyData.depthAll, dep]
  | .both a b => by simp [p, PyData.depth, PyData.depthAll, dep, depth_p a, depth_p b]
  | .frm a b => by simp [p, PyData.depth, PyData.depthAll, dep, depth_p a, depth_p b]
theorem eqvAll_c {x y : PyData} {xs ys : List PyData} : PyData.eqvAll (x :: xs) (y :: ys) = (PyData.eqv x y && PyData.eqvAll xs ys) := by simp only [PyData.eqvAll]
theorem eqvAll_n : PyData.eqvAll [] [] = true := by simp only [PyData.eqvAll]
theorem eqvAll_l {x : PyData} {xs : List PyData} : PyData.eqvAll (x :: xs) [] = false := by simp only [PyData.eqvAll]
theorem eqvAll_r {x : PyData} {xs : List PyData} : PyData.eqvAll [] (x :: xs) = false := by simp only [PyData.eqvAll]
theorem eqv_t {xs ys : List PyData} : PyData.eqv (.tuple xs) (.tuple ys) = PyData.eqvAll xs ys := by simp only [PyData.eqv]
theorem eqv_s {x y : Str} : PyData.eqv (.str x) (.str y) = (x == y) := by simp only [PyData.eqv]
theorem eqv_i {x y : Int} : PyData.eqv (.int x) (.int y) = (x == y) := by simp only [PyData.eqv]
theorem eqv_p (a b : Kd) : PyData.eqv a.p b.p = decide (a = b) := by
  induction a generalizing b with
  | base i =>
    cases b with
    | base j =>
      have h1 : (i.val : Int) = (j.val : Int) ↔ i = j := by
        constructor
        · intro h; exact Fin.ext (by omega)
        · intro h; rw [h]
      by_cases h : i = j
      · subst h; simp [p, eqvAll_c, eqvAll_n, eqvAll_l, eqvAll_r, eqv_t, eqv_s, eqv_i]
      · have : ¬ (i.val : Int) = (j.val : Int) := fun z => h (h1.mp z)
        simp [p, eqvAll_c, eqvAll_n, eqvAll_l, eqvAll_r, eqv_t, eqv_s, eqv_i, h]
        omega
    | _ => simp [p, eqvAll_c, eqvAll_n, eqvAll_l, eqvAll_r, eqv_t, eqv_s, eqv_i]
  | unit => cases b <;> simp [p, eqvAll_c, eqvAll_n, eqvAll_l, eqvAll_r, eqv_t, eqv_s, eqv_i]
  | both a a' ha hb => cases b <;> simp [p, eqvAll_c, eqvAll_n, eqvAll_l, eqvAll_r, eqv_t, eqv_s, eqv_i, ha, hb]
  | frm a a' ha hb => cases b <;> simp [p, eqvAll_c, eqvAll_n, eqvAll_l, eqvAll_r, eqv_t, eqv_s, eqv_i, ha, hb]
@[simp] theorem und_d (n : Nat) : ∀ k : Kd, k.d.under n = true
  | .base i => by simp [d, D.under, underL]
  | .unit => by simp [d, D.under, underL]
  | .both a b => by simp [d, D.under, underL, und_d n a, und_d n b]
  | .frm a b => by simp [d, D.under, underL, und_d n a, und_d n b]
theorem eqE_d {a b : Kd} {S : Store} : eqE S a.d b.d = none ∨ eqE S a.d b.d = some (decide (a = b)) := by
  cases b with
  | unit => right; cases a <;> simp [d, eqE]
  | _ => exact .inl rfl
theorem gEq_d {a b : Kd} {S : Store} (h : min a.dep b.dep < 200) : gEq a.d b.d S = .ok (.bl (decide (a = b))) S := by
  have ok : okPy a.p b.p = true := by
    simp [okPy, depth_p]; omega
  unfold gEq
  rcases eqE_d (a := a) (b := b) (S := S) with e | e
  · rw [e]; simp [ok, eqv_p]
  · rw [e]
theorem gNe_d {a b : Kd} {S : Store} (h : min a.dep b.dep < 200) : gNe a.d b.d S = .ok (.bl (!decide (a = b))) S := by
  have ok : okPy a.p b.p = true := by
    simp [okPy, depth_p]; omega
  unfold gNe
  rcases eqE_d (a := a) (b := b) (S := S) with e | e
  · rw [e]; simp [ok, eqv_p]
  · rw [e]
theorem d_tup : ∀ k : Kd, ∃ ds, k.d = .tup ds
  | .base i => ⟨_, rfl⟩
  | .unit => ⟨_, rfl⟩
  | .both a b => ⟨_, rfl⟩
  | .frm a b => ⟨_, rfl⟩
@[simp] theorem isi_d {T : String} {S : Store} (k : Kd) : isiR T k.d S = .ok (.bl (decide (T = "tuple"))) S := by
  obtain ⟨ds, h⟩ := d_tup k
  rw [h]; simp
theorem d_inj : ∀ {a b : Kd}, a.d = b.d → a = b := by
  intro a b h
  have h1 : py0 a.d = py0 b.d := by rw [h]
  rw [py0_d, py0_d] at h1
  have h2 : PyData.eqv a.p b.p = true := by
    rw [Option.some.inj h1, eqv_p]; simp
  rw [eqv_p] at h2
  simpa using h2
end Kd
end Kw

/-! Kw12: an exception in hand. -/
namespace Kw
open PySem PySem.Spec PyProof.Rows L2

/-- isinstance of the exception in hand (at a), whose answer is b -/
def fIsE (a : Addr) (b : Bool) (f : FE) : FE := fun ρ S => (f ρ S).bnd fun x S1 => match x with
  | .exn a' => if a' = a then .ok (.bl b) S1 else .no
  | _ => .no
/-- y's class is one that isinstance can be asked of -/
def ExcK (K : PySem.W.Frag) (mg : Str → Option Value) (y : Str) : Prop := ∃ C, mg y = some (.ref C) ∧ ExcC K C
/-- what isinstance answers for an exception of class y, asked for the program's class x -/
def IsxO (K : PySem.W.Frag) (mg : Str → Option Value) (y x : Str) (b : Bool) : Prop := ∃ C B, mg y = some (.ref C) ∧ mg x = some (.ref B) ∧ PySem.W.kitOne K (.ref C) (.ref B) = some b
/-- the same for a built-in class -/
def IsxB (K : PySem.W.Frag) (mg : Str → Option Value) (y : Str) (T : String) (b : Bool) : Prop := ∃ C, mg y = some (.ref C) ∧ PySem.W.kitOne K (.ref C) (.type T) = some b
section
variable {X : Cx} {W : WX} {o : Expr} {fe : FE} {a : Addr} {oe : Obj} {pn : List (Addr × Obj)} {y x : Str} {C : Addr} {b : Bool} {p q pos : Pos}
theorem isE_core {T : V} {cv : Value} (hX : ExcC X.K C) (hz : Zc (.ref C) none oe) (hf : ∃ vs, oe.data = .fields vs) (hcv : ∀ u, RelV T u → u = cv) (hk : PySem.W.kitOne X.K (.ref C) cv = some b)
    (hg : Gl X "isinstance") (hm : X.mg "isinstance" = none) (ho : PE (X.suite a ((a, oe) :: pn)) o (tF X W fe)) (hx : PE (X.suite a ((a, oe) :: pn)) (.Name x q) (tC T))
    (h1 : starEach [o, .Name x q] X.env = (false, eval o X.env) :: starEach [.Name x q] X.env) (h2 : starEach [.Name x q] X.env = (false, eval (.Name x q) X.env) :: starEach [] X.env) (hpl : (backTo pos (starEach [.Name x q] X.env)).any (·.1) = false) :
    PE (X.suite a ((a, oe) :: pn)) (.Call (.Name "isinstance" p) [o, .Name x q] [] pos) (tF X W (fIsE a b fe)) := by
  refine PE.wk (pe_callB (call_isE hX hz hf) hg hm (by decide +kernel) (pa_cons ho (pa_cons hx pa_nil h2) h1) (by decide) (by decide) h1 hpl) fun σ H Q ⟨w, ρ, S, s, en, h⟩ => ?_
  refine ⟨w, ρ, S, s, en, (End.bind (R := fun w H => Rp X.K X.mg w H) h).imp ?_ (fun _ _ _ z => z)⟩
  rintro v H1 ⟨w1, S1, d, e1, s1, r1, h3⟩
  cases d with
  | exn a' =>
    simp only at h3
    split at h3
    · rename_i ea
      subst ea
      have ev : v = .ref a' := by unfold Rp at r1; exact r1
      exact ⟨T, cv, b, by rw [ev], hcv, hk, h3.ret s1 rp_b⟩
    · exact h3.elim
  | _ => exact h3.elim
theorem q_isE (hy : ExcK X.K X.mg y) (hyC : X.mg y = some (.ref C)) (hi : IsxO X.K X.mg y x b) (hz : Zc (.ref C) none oe) (hf : ∃ vs, oe.data = .fields vs)
    (hg : Gl X "isinstance") (hm : X.mg "isinstance" = none) (hgx : Gl X x) (ho : PE (X.suite a ((a, oe) :: pn)) o (tF (X.suite a ((a, oe) :: pn)) W fe)) (hd : (x == ("__debug__" : Str)) = false := by decide)
    (h1 : starEach [o, .Name x q] X.env = (false, eval o X.env) :: starEach [.Name x q] X.env := by rfl) (h2 : starEach [.Name x q] X.env = (false, eval (.Name x q) X.env) :: starEach [] X.env := by rfl) (hpl : (backTo pos (starEach [.Name x q] X.env)).any (·.1) = false := by rfl) :
    PE (X.suite a ((a, oe) :: pn)) (.Call (.Name "isinstance" p) [o, .Name x q] [] pos) (tF (X.suite a ((a, oe) :: pn)) W (fIsE a b fe)) := by
  obtain ⟨C1, m1, k1⟩ := hy
  obtain ⟨C2, B, m2, m3, k2⟩ := hi
  cases hyC.symm.trans m1
  cases hyC.symm.trans m2
  exact isE_core (T := .ref B) (cv := .ref B) k1 hz hf (fun u r => r) k2 hg hm ho (pe_glob hgx m3 rfl hd) h1 h2 hpl
theorem q_isEB {T : String} (hy : ExcK X.K X.mg y) (hyC : X.mg y = some (.ref C)) (hi : IsxB X.K X.mg y T b) (hz : Zc (.ref C) none oe) (hf : ∃ vs, oe.data = .fields vs)
    (hg : Gl X "isinstance") (hm : X.mg "isinstance" = none) (hgx : Gl X x) (hmx : X.mg x = none) (hvT : bootBuiltins x = some (.type T)) (ho : PE (X.suite a ((a, oe) :: pn)) o (tF (X.suite a ((a, oe) :: pn)) W fe)) (hn : x ≠ "__name__" := by decide) (hd : (x == ("__debug__" : Str)) = false := by decide)
    (h1 : starEach [o, .Name x q] X.env = (false, eval o X.env) :: starEach [.Name x q] X.env := by rfl) (h2 : starEach [.Name x q] X.env = (false, eval (.Name x q) X.env) :: starEach [] X.env := by rfl) (hpl : (backTo pos (starEach [.Name x q] X.env)).any (·.1) = false := by rfl) :
    PE (X.suite a ((a, oe) :: pn)) (.Call (.Name "isinstance" p) [o, .Name x q] [] pos) (tF (X.suite a ((a, oe) :: pn)) W (fIsE a b fe)) := by
  obtain ⟨C1, m1, k1⟩ := hy
  obtain ⟨C2, m2, k2⟩ := hi
  cases hyC.symm.trans m1
  cases hyC.symm.trans m2
  exact isE_core (T := .ty T) (cv := .type T) k1 hz hf (fun u r => r) k2 hg hm ho (pe_bltn hgx hmx hvT rfl hn hd) h1 h2 hpl
end
/-! ### except X as e -/
def RS.clr (i : Nat) (r : RS) : RS := match r with
  | .nx ρ S => .nx (ρ.set i none) S
  | .bk ρ S => .bk (ρ.set i none) S
  | .ct ρ S => .ct (ρ.set i none) S
  | r => r
/-- a result that no address matters to -/
noncomputable def aInd (R : Addr → RS) : RS := open Classical in if ∀ a, R a = R 0 then R 0 else .no
theorem aInd_at {R : Addr → RS} {r : RS} (a : Addr) (h : aInd R = r) (hn : r ≠ .no) : R a = r := by
  unfold aInd at h
  split at h
  · rename_i hh; rw [hh a, h]
  · exact absurd h.symm hn
theorem aInd_eq {R : Addr → RS} {r : RS} (h : ∀ a, R a = r) : aInd R = r := by
  unfold aInd
  rw [if_pos (fun a => by rw [h a, h 0]), h 0]
/-- es: the classes that may come; sub: those that the clause names; i: the name's slot -/
noncomputable def sTryAs (es : List Str) (sub : Str → Bool) (i : Nat) (b : FS) (c : Str → Addr → FS) : FS := fun ρ S => match b ρ S with
  | .ex x ρ' S' => if x.cls ∈ es ∧ x.ns = [] then (if sub x.cls then aInd (fun a => ((c x.cls a (ρ'.set i (some (.exn a))) S').clr i).noX) else .ex x ρ' S') else .no
  | r => r
section
variable {X : Cx} {W : WX} {x n : Str} {pos pos' np : Pos} {i : Nat}
theorem EndS.clr {K : PySem.W.Frag} {mg : Str → Option Value} {w : Wd} {H : Hp} {D : Ends} {r : RS} (h : EndS K mg w H ((r.clr i).noX) D W) :
    EndS K mg w H r { nx := fun σ' H' => D.nx (σ'.set i none) H', rt := D.rt, bk := fun σ' H' => D.bk (σ'.set i none) H', ct := fun σ' H' => D.ct (σ'.set i none) H' } W0 := by
  cases r with
  | nx ρ S => exact fun w' H' σ' e s en => h w' H' _ e s en.wipe1
  | bk ρ S => exact fun w' H' σ' e s en => h w' H' _ e s en.wipe1
  | ct ρ S => exact fun w' H' σ' e s en => h w' H' _ e s en.wipe1
  | rt d S => exact h
  | ex x ρ S => exact h.elim
  | no => exact h.elim
theorem q_tryAs {body suite : List Stmt} {b₀ : Stmt} {es : List Str} {sub : Str → Bool} {fb : FS} {fc : Str → Addr → FS} {c : Value} (hs : X.stack = X.env :: X.outer) (hf : X.env.frame = some X.env.locals) (hN : X.N.Nodup) (hi : X.N[i]? = some n) (hln : X.env.kindOf n = some .local) (hc : Names X x c) (tk : Takes X W)
    (hx : ∀ y ∈ es, ∀ cy, X.mg y = some cy → PySem.W.exmOne X.K cy c = some (sub y)) (hk : ∀ y ∈ es, ExcK X.K X.mg y)
    (hb : ∀ (W' : WX) (pn : List (Addr × Obj)) (xe : Value → Shared → Prop), Takes (X.tr pn xe) W' → PassesOwn (model X.prog X.w) X.A X.env xe → PSs (X.tr pn xe) body (tS (X.tr pn xe) W' fb))
    (hsu : ∀ (y : Str), y ∈ es → ∀ (a : Addr) (oe : Obj) (pn : List (Addr × Obj)) (C : Addr), X.mg y = some (.ref C) → Zc (.ref C) none oe → (∃ vs, oe.data = .fields vs) → PSs (X.suite a ((a, oe) :: pn)) (b₀ :: suite) (tS (X.suite a ((a, oe) :: pn)) W0 (fc y a))) :
    PS X (.Try body [.ExceptHandler (some (.Name x np)) (some n) (b₀ :: suite) pos'] [] [] pos) (tS X W (sTryAs es sub i fb fc)) := by
  refine PS.wk (ps_try_as (i := i) (tb := fun W' => tS X W' fb) (ts := fun a cls d => fun D σ H => ∃ y C, y ∈ es ∧ X.mg y = some (.ref C) ∧ cls = .ref C ∧ d = none ∧ tS X W0 (fc y a) D σ H) (Wout := W) hs hf hN hi hln hc tk (fun W' pn xe t o => hb W' pn xe t o) (fun a oe cls d pn hz hd => ?_)) fun D σ H ⟨w, ρ, S, s, en, h⟩ => ?_
  · refine ⟨fun pins s σ H D I h => ?_⟩
    obtain ⟨y, C, hy, hyC, rfl, rfl, t⟩ := h
    exact (hsu y hy a oe pn C hyC hz hd).run pins s σ H D I t
  refine ⟨w, ρ, S, s, en, ?_⟩
  unfold sTryAs at h
  cases hbb : fb ρ S with
  | ex y ρ' S' =>
    rw [hbb] at h
    simp only at h
    split at h
    · rename_i hm
      intro w' H' σ' cy od e s' en' ex
      obtain ⟨gy, hr⟩ := ex
      obtain ⟨C, gC, kC⟩ := hk _ hm.1
      cases gC.symm.trans gy
      have hod : od = none := by
        rcases hr with ⟨_, _, z⟩ | ⟨d, vs, z, _⟩
        · exact z
        · exact absurd hm.2 z
      refine ⟨sub y.cls, hx _ hm.1 _ gy, fun hs a na => ?_, fun hs => ?_⟩
      · rw [if_pos hs] at h
        refine ⟨y.cls, C, hm.1, gC, rfl, hod, w', ρ'.set i (some (.exn a)), S', s', en'.set (by unfold Rp; rfl), ?_⟩
        have h2 := h.on e
        by_cases hno : aInd (fun a => ((fc y.cls a (ρ'.set i (some (.exn a))) S').clr i).noX) = .no
        · rw [hno] at h2; exact h2.elim
        · rw [← aInd_at a rfl hno] at h2
          exact h2.clr
      · rw [if_neg (by rw [hs]; decide)] at h
        exact h w' H' σ' (.ref C) od e s' en' ⟨gy, hr⟩
    · exact h.elim
  | _ => rw [hbb] at h; exact h
end
end Kw

/-! Kw13: index and count of lists of data; several classes in clauses. -/
namespace Kw
open PySem PySem.Spec PyProof.Rows L2
def gIdx (x : D) (ds : List D) (S : Store) : RE D := match ds with
  | [y] => (match pyS S x, pyS S y with
    | some (.list ps), some d => if SeqAt.shaped (.list ps) && SeqAt.shaped d then (match ps.findIdx? (fun z => PyData.eqv z d) with
      | some j => .ok (.int (j : Nat)) S
      | none => .no) else .no
    | _, _ => .no)
  | _ => .no
def gCnt (x : D) (ds : List D) (S : Store) : RE D := match ds with
  | [y] => (match pyS S x, pyS S y with
    | some (.list ps), some d => if PyData.canLayAll0 ps && d.canLay0 && decide (min (PyData.depthAll ps) d.depth ≤ 190) then .ok (.int (ps.countP (fun z => PyData.eqv z d) : Nat)) S else .no
    | _, _ => .no)
  | _ => .no
def rCntD (K : PySem.W.Frag) : V → List V → Hp → VK → Prop := fun x xs H Q => ∃ (a : Addr) (y : V) (d : PyData) (ps : List PyData), x = .ref a ∧ xs = [y] ∧ Dp K H x (.list ps) ∧ Dp K H y d ∧ PyData.canLayAll0 ps = true ∧ d.canLay0 = true ∧ min (PyData.depthAll ps) d.depth ≤ 190 ∧
  Q (.int (ps.countP (fun z => PyData.eqv z d) : Nat)) H
section
variable {X : Cx}
theorem mt_cntD (hu : X.A.units + 200 < cLine) : MtR X "list.count" (rCntD X.K) := by
  intro pins s σ H x xs v us Q I rx rxs h
  obtain ⟨a, y, d, ps, rfl, rfl, hl, hy, c1, c2, c3, q⟩ := h
  cases rx
  obtain ⟨uy, rfl, ry⟩ := rxs.one
  obtain ⟨bs, r1⟩ := Dp.reads I d y uy hy ry
  cases hl with
  | lst hs ha =>
    obtain ⟨its, rv, ⟨⟨cls, dd, data, sls⟩, n, ho, hc, hdn, hdt⟩, hlen⟩ := I.list hs
    dsimp only at hc hdt
    subst hc hdt
    obtain ⟨as, h4⟩ := Dp.readsAll I ps _ its ha rv
    have hmap : its.map (SeqAt.readOf s.heap) = ps := SeqAt.readsAll_map ps its as c1 h4
    have go := SeqAt.list_countAt a its.toArray n dd sls uy (fun u => PyData.eqv (SeqAt.readOf s.heap u) d)
    have eqs := SeqAt.items_eqAt (A := X.A) (vs := its.toArray) (show ReadsAll s.heap its.toArray.toList ps as from h4) r1 c1 c2 (by omega)
    refine call_meets PySem.F.slot_list_count ⟨_, ho, rfl⟩ PySem.F.entry_list_count (PySem.F.args_list_count_2 _ _) go ⟨ho, eqs, ?_⟩
    have e1 : its.toArray.toList.countP (fun u => PyData.eqv (SeqAt.readOf s.heap u) d) = ps.countP fun z => PyData.eqv z d := by
      rw [← hmap, List.countP_map]; rfl
    exact ⟨.int (ps.countP (fun z => PyData.eqv z d) : Nat), H, I.tok _, ⟨s.toks, congrArg (fun k : Nat => Value.int (k : Int) s.toks) e1⟩, q⟩
variable {K : PySem.W.Frag} {mg : Str → Option Value}
theorem cnt_v : MtV K mg (rCntD K) gCnt := by
  intro w S H x xs d ds Q E s r1 r2 h
  unfold gCnt at h
  split at h
  · rename_i y
    split at h
    · rename_i ps p h1 h2
      split at h
      · rename_i hk
        simp only [Bool.and_eq_true, decide_eq_true_eq] at hk
        obtain ⟨v, rfl, r3⟩ := r2.one_inv
        have k1 := pyS_at s d x _ r1 h1
        have k2 := pyS_at s y v _ r3 h2
        have k1' := k1
        cases k1 with
        | lst hs ha => exact ⟨_, v, p, ps, rfl, rfl, k1', k2, hk.1.1, hk.1.2, hk.2, h.ret s rp_i⟩
      · exact h.elim
    · exact h.elim
  · exact h.elim
theorem idx_v : MtV K mg (rIndexD K) gIdx := by
  intro w S H x xs d ds Q E s r1 r2 h
  unfold gIdx at h
  split at h
  · rename_i y
    split at h
    · rename_i ps p h1 h2
      split at h
      · rename_i hk
        rw [Bool.and_eq_true] at hk
        split at h
        · rename_i j hj
          obtain ⟨v, rfl, r3⟩ := r2.one_inv
          have k1 := pyS_at s d x _ r1 h1
          have k2 := pyS_at s y v _ r3 h2
          obtain ⟨hl, hp, hno⟩ := List.findIdx?_eq_some_iff_getElem.mp hj
          have k1' := k1
          cases k1 with
          | lst hs ha =>
            refine ⟨_, v, p, ps, j, ps[j], rfl, rfl, k1', k2, hk.1, hk.2, List.getElem?_eq_getElem hl, hp, fun m z' hm hz => ?_, h.ret s rp_i⟩
            obtain ⟨hml, e⟩ := List.getElem?_eq_some_iff.mp hz
            have := hno m hm
            rw [e] at this
            simpa using this
        · exact h.elim
      · exact h.elim
    · exact h.elim
  · exact h.elim
end
theorem hu65 {A : Around} {k : Nat} (hr : RoomG k A) : A.units + 65 < cLine := by have := hr.rm.un; omega
/-! ### classes in clauses -/
def CatY (K : PySem.W.Frag) (mg : Str → Option Value) (c : Value) (y : Str) (b : Bool) : Prop := ∃ C, mg y = some (.ref C) ∧ PySem.W.exmOne K (.ref C) c = some b
/-- what a clause over x catches of the classes es -/
def CatF (K : PySem.W.Frag) (mg : Str → Option Value) (es : List Str) (x : Str) (sub : Str → Bool) : Prop := ∃ c, mg x = some c ∧ ∀ y ∈ es, CatY K mg c y (sub y)
section
variable {X : Cx} {W : WX} {x n : Str} {pos pos' np : Pos} {i : Nat} {body suite : List Stmt} {b₀ : Stmt} {es : List Str} {sub : Str → Bool} {fb : FS}
theorem CatF.names (h : CatF X.K X.mg es x sub) (hg : Gl X x) (hd : (x == ("__debug__" : Str)) = false) : ∃ c, Names X x c ∧ ∀ y ∈ es, ∀ cy, X.mg y = some cy → PySem.W.exmOne X.K cy c = some (sub y) := by
  obtain ⟨c, m, h⟩ := h
  refine ⟨c, ⟨hg, hd, .inl m⟩, fun y hy cy e => ?_⟩
  obtain ⟨C, m2, k⟩ := h y hy
  cases e.symm.trans m2
  exact k
theorem q_tryA {fc : Str → Addr → FS} (h : CatF X.K X.mg es x sub) (hg : Gl X x) (hs : X.stack = X.env :: X.outer) (hf : X.env.frame = some X.env.locals) (hN : X.N.Nodup) (hi : X.N[i]? = some n) (hln : X.env.kindOf n = some .local) (tk : Takes X W) (hk : ∀ y ∈ es, ExcK X.K X.mg y)
    (hb : ∀ (W' : WX) (pn : List (Addr × Obj)) (xe : Value → Shared → Prop), Takes (X.tr pn xe) W' → PassesOwn (model X.prog X.w) X.A X.env xe → PSs (X.tr pn xe) body (tS (X.tr pn xe) W' fb))
    (hsu : ∀ (y : Str), y ∈ es → ∀ (a : Addr) (oe : Obj) (pn : List (Addr × Obj)) (C : Addr), X.mg y = some (.ref C) → Zc (.ref C) none oe → (∃ vs, oe.data = .fields vs) → PSs (X.suite a ((a, oe) :: pn)) (b₀ :: suite) (tS (X.suite a ((a, oe) :: pn)) W0 (fc y a))) (hd : (x == ("__debug__" : Str)) = false := by decide) :
    PS X (.Try body [.ExceptHandler (some (.Name x np)) (some n) (b₀ :: suite) pos'] [] [] pos) (tS X W (sTryAs es sub i fb fc)) := by
  obtain ⟨c, nm, hx⟩ := h.names hg hd
  exact q_tryAs hs hf hN hi hln nm tk hx hk hb hsu
theorem q_tryO {fc : FS} (h : CatF X.K X.mg es x sub) (hg : Gl X x) (hs : X.stack = X.env :: X.outer) (hf : X.env.frame = some X.env.locals) (tk : Takes X W)
    (hb : ∀ (W' : WX) (pn : List (Addr × Obj)) (xe : Value → Shared → Prop), Takes (X.tr pn xe) W' → PassesOwn (model X.prog X.w) X.A X.env xe → PSs (X.tr pn xe) body (tS (X.tr pn xe) W' fb))
    (hsu : ∀ (a : Addr) (pn : List (Addr × Obj)), PSs (X.suite a pn) (b₀ :: suite) (tS (X.suite a pn) W0 fc)) (hd : (x == ("__debug__" : Str)) = false := by decide) :
    PS X (.Try body [.ExceptHandler (some (.Name x np)) none (b₀ :: suite) pos'] [] [] pos) (tS X W (sTry es sub fb fc)) := by
  obtain ⟨c, nm, hx⟩ := h.names hg hd
  exact q_try hs hf nm tk hx hb hsu
end
section
variable {K : PySem.W.Frag} {mg : Str → Option Value} {h : Heap}
theorem kit_own {C B : Addr} {b : Bool} (hd : PySem.W.hasDictIn K B = true) (ht : PySem.W.typeIn K (.ref B) = some (.type "type")) (h4 : PySem.W.subIn K (.ref C) (.ref B) = some b) (ne : b = true ∨ (C == B) = false) : PySem.W.kitOne K (.ref C) (.ref B) = some b := by
  obtain ⟨cd, hc, _⟩ := PySem.W.any_some hd
  have k : PySem.W.kitCls K (.ref C) (.ref B) = some b := by
    have e2 : ((PySem.W.clsIn K B).isSome && PySem.W.typeIn K (.ref B) == some (.type "type")) = true := by rw [hc, ht] <;> rfl
    show (if ((PySem.W.clsIn K B).isSome && PySem.W.typeIn K (.ref B) == some (.type "type")) = true then PySem.W.subIn K (.ref C) (.ref B) else none) = some b
    rw [if_pos e2]; exact h4
  unfold PySem.W.kitOne
  split
  · rename_i q
    rcases ne with rfl | ne
    · rfl
    · have q2 : C = B := Value.ref.inj (beq_iff_eq.mp q)
      rw [q2] at ne; simp at ne
  · exact k
theorem kit_bltn {C : Addr} {T : String} {b : Bool} (hm : PySem.W.kitMeta T = true) (h4 : PySem.W.subIn K (.ref C) (.type T) = some b) : PySem.W.kitOne K (.ref C) (.type T) = some b := by
  unfold PySem.W.kitOne
  split
  · rename_i q
    cases (beq_iff_eq.mp q)
  · show (if PySem.W.kitMeta T = true then PySem.W.subIn K (.ref C) (.type T) else none) = some b
    rw [if_pos hm]; exact h4
theorem isxo_mk {y x : Str} {C B : Addr} {b b' : Bool} (X : K.In h) (G : h.Ns mainGlobals mg) (z1 : PySem.W.nsIn K mainGlobals y = some (some (.ref C))) (z2 : PySem.W.nsIn K mainGlobals x = some (some (.ref B))) (e : b = b') (hd : PySem.W.hasDictIn K B = true) (ht : PySem.W.typeIn K (.ref B) = some (.type "type")) (h4 : PySem.W.subIn K (.ref C) (.ref B) = some b') (ne : b' = true ∨ (C == B) = false) : IsxO K mg y x b :=
  ⟨C, B, PySem.W.mg_of X G z1, PySem.W.mg_of X G z2, by rw [e]; exact kit_own hd ht h4 ne⟩
theorem isxb_mk {y : Str} {T : String} {C : Addr} {b b' : Bool} (X : K.In h) (G : h.Ns mainGlobals mg) (z1 : PySem.W.nsIn K mainGlobals y = some (some (.ref C))) (e : b = b') (hm : PySem.W.kitMeta T = true) (h4 : PySem.W.subIn K (.ref C) (.type T) = some b') : IsxB K mg y T b :=
  ⟨C, PySem.W.mg_of X G z1, by rw [e]; exact kit_bltn hm h4⟩
theorem exck_mk {y : Str} {C : Addr} (X : K.In h) (G : h.Ns mainGlobals mg) (z1 : PySem.W.nsIn K mainGlobals y = some (some (.ref C))) (k : ExcC K C) : ExcK K mg y := ⟨C, PySem.W.mg_of X G z1, k⟩
theorem caty_mk {y : Str} {C B : Addr} {b b' : Bool} (X : K.In h) (G : h.Ns mainGlobals mg) (z1 : PySem.W.nsIn K mainGlobals y = some (some (.ref C))) (e : b = b') (h1 : PySem.W.subIn K (.ref B) (.type "BaseException") = some true) (hd : PySem.W.hasDictIn K B = true) (ht : PySem.W.typeIn K (.ref B) = some (.type "type")) (h4 : PySem.W.subIn K (.ref C) (.ref B) = some b') : CatY K mg (.ref B) y b :=
  ⟨C, PySem.W.mg_of X G z1, by rw [e]; exact PySem.W.exm_ref h1 hd ht h4⟩
theorem cat_mk {es : List Str} {x : Str} {sub : Str → Bool} {B : Addr} (X : K.In h) (G : h.Ns mainGlobals mg) (z : PySem.W.nsIn K mainGlobals x = some (some (.ref B))) (l : ∀ y ∈ es, CatY K mg (.ref B) y (sub y)) : CatF K mg es x sub := ⟨.ref B, PySem.W.mg_of X G z, l⟩
end
end Kw

/-! Kw14: comprehensions and loops, reckoned. -/
namespace Kw
open PySem PySem.Spec PyProof.Rows L2
section
variable {tg : FG} {tt : FT} {te : FE} {ρ : FEnv} {gg : Option (Nat × List D)} {S : Store} {acc ds : List D} {b : FS}
theorem compL_nil (hg : gd gg S) : compL tg tt te gg ρ [] acc S = .ok acc S := by
  unfold compL gchk; rw [if_pos hg]
theorem compL_step {d y : D} {ρ1 : FEnv} {S1 S2 S3 : Store} (hg : gd gg S) (h1 : tg d ρ S = some (ρ1, S1)) (h2 : tt ρ1 S1 = .ok true S2) (h3 : te ρ1 S2 = .ok y S3) (hl : acc.length < sizeLine) :
    compL tg tt te gg ρ (d :: ds) acc S = compL tg tt te gg ρ ds (acc ++ [y]) S3 := by
  conv => lhs; unfold compL
  unfold gchk
  rw [if_pos hg, h1]
  simp [h2, h3, hl]
theorem compL_skip {d : D} {ρ1 : FEnv} {S1 S2 : Store} (hg : gd gg S) (h1 : tg d ρ S = some (ρ1, S1)) (h2 : tt ρ1 S1 = .ok false S2) :
    compL tg tt te gg ρ (d :: ds) acc S = compL tg tt te gg ρ ds acc S2 := by
  conv => lhs; unfold compL
  unfold gchk
  rw [if_pos hg, h1]
  simp [h2]
theorem compL_map (f : D → D) (hg : gd gg S) : ∀ (ds acc : List D), (∀ d ∈ ds, ∃ ρ1, tg d ρ S = some (ρ1, S) ∧ tt ρ1 S = .ok true S ∧ te ρ1 S = .ok (f d) S) → acc.length + ds.length ≤ sizeLine →
    compL tg tt te gg ρ ds acc S = .ok (acc ++ ds.map f) S
  | [], acc, _, _ => by rw [compL_nil hg]; simp
  | d :: ds, acc, h, hl => by
    obtain ⟨ρ1, h1, h2, h3⟩ := h d List.mem_cons_self
    rw [compL_step hg h1 h2 h3 (by simp at hl; omega), compL_map f hg ds (acc ++ [f d]) (fun e he => h e (List.mem_cons_of_mem _ he)) (by simp at hl ⊢; omega)]
    simp
/-- a comprehension whose parts change the store -/
theorem compL_inv (I : Store → List D → Prop) : ∀ (ds acc : List D) (S : Store), (∀ d ∈ ds, ∀ S acc, I S acc → ∃ ρ1 y S', tg d ρ S = some (ρ1, S) ∧ tt ρ1 S = .ok true S ∧ te ρ1 S = .ok y S' ∧ I S' (acc ++ [y])) → I S acc → acc.length + ds.length ≤ sizeLine →
    ∃ acc' S', compL tg tt te none ρ ds acc S = .ok acc' S' ∧ I S' acc' ∧ acc'.length = acc.length + ds.length
  | [], acc, S, _, i, _ => ⟨acc, S, compL_nil (by unfold gd; trivial), i, by simp⟩
  | d :: ds, acc, S, h, i, hl => by
    obtain ⟨ρ1, y, S1, h1, h2, h3, i1⟩ := h d List.mem_cons_self S acc i
    obtain ⟨acc', S', e, i', l⟩ := compL_inv I ds (acc ++ [y]) S1 (fun e he => h e (List.mem_cons_of_mem _ he)) i1 (by simp at hl ⊢; omega)
    refine ⟨acc', S', ?_, i', by simp at l ⊢; omega⟩
    rw [compL_step (by unfold gd; trivial) h1 h2 h3 (by simp at hl; omega), e]
def lcR (c : Bool) (r : RE (List D)) : RE D := match r with
  | .ok acc S2 => if c then .ok (.loc S2.length) (S2 ++ [.lst acc]) else .ok (.lst acc) S2
  | _ => .no
@[simp] theorem lcR_f : lcR false (.ok acc S) = .ok (.lst acc) S := rfl
@[simp] theorem lcR_t : lcR true (.ok acc S) = .ok (.loc S.length) (S ++ [.lst acc]) := rfl
@[simp] theorem fLc_ap {c : Bool} {fi : FI} {vs : List Nat} : fLc c fi tg tt te vs ρ S = (fi ρ S).bnd fun p S1 => lcR c (compL tg tt te p.2 (wipeR ρ vs) p.1 [] S1) := rfl
@[simp] theorem fYes_ap : fYes ρ S = .ok true S := rfl
@[simp] theorem gAll_lst {bs : List Bool} : gAll [.lst (bs.map .bl)] S = .ok (.bl (bs.all id)) S := by
  have : ∀ bs : List Bool, blsOf (bs.map .bl) = some bs := by
    intro bs
    induction bs with
    | nil => rfl
    | cons b bs ih => simp [blsOf, ih]
  show (match (some (bs.map D.bl)).bind blsOf with
    | some bs => RE.ok (D.bl (bs.all id)) S
    | none => .no) = _
  simp [this]
/-- a loop's invariant -/
theorem forL_inv (I : FEnv → Store → Prop) : ∀ (ds : List D) (ρ : FEnv) (S : Store), (∀ d ∈ ds, ∀ ρ S, I ρ S → ∃ ρ1 S1 ρ2 S2, tg d ρ S = some (ρ1, S1) ∧ (b ρ1 S1 = .nx ρ2 S2 ∨ b ρ1 S1 = .ct ρ2 S2) ∧ I ρ2 S2) → I ρ S →
    ∃ ρ' S', forL tg b none ds ρ S = .nx ρ' S' ∧ I ρ' S'
  | [], ρ, S, _, i => ⟨ρ, S, by simp, i⟩
  | d :: ds, ρ, S, h, i => by
    obtain ⟨ρ1, S1, ρ2, S2, h1, h2, i2⟩ := h d List.mem_cons_self ρ S i
    obtain ⟨ρ', S', e, i'⟩ := forL_inv I ds ρ2 S2 (fun e he => h e (List.mem_cons_of_mem _ he)) i2
    refine ⟨ρ', S', ?_, i'⟩
    rw [forL_cons, h1]
    rcases h2 with h2 | h2 <;> simp [h2, e]
end
/-- an exception in hand, asked -/
@[simp] theorem fIsE_ap {a : Addr} {b : Bool} {i : Nat} {ρ : FEnv} {S : Store} (h : ρ[i]? = some (some (.exn a))) : fIsE a b (fVar i) ρ S = .ok (.bl b) S := by
  have e : fVar i ρ S = .ok (.exn a) S := by
    unfold fVar; rw [h]
  unfold fIsE
  rw [e]
  simp
noncomputable def tryR (es : List Str) (sub : Str → Bool) (i : Nat) (c : Str → Addr → FS) (r : RS) : RS := match r with
  | .ex x ρ' S' => if x.cls ∈ es ∧ x.ns = [] then (if sub x.cls then aInd (fun a => ((c x.cls a (ρ'.set i (some (.exn a))) S').clr i).noX) else .ex x ρ' S') else .no
  | r => r
theorem sTryAs_ap {es : List Str} {sub : Str → Bool} {i : Nat} {b : FS} {c : Str → Addr → FS} {ρ : FEnv} {S : Store} : sTryAs es sub i b c ρ S = tryR es sub i c (b ρ S) := rfl
section
variable {es : List Str} {sub : Str → Bool} {i : Nat} {c : Str → Addr → FS} {ρ : FEnv} {S : Store} {d : D}
@[simp] theorem tryR_rt : tryR es sub i c (.rt d S) = .rt d S := rfl
@[simp] theorem tryR_nx : tryR es sub i c (.nx ρ S) = .nx ρ S := rfl
theorem tryR_ex {y : Str} {r : RS} (hy : y ∈ es) (hs : sub y = true) (h : ∀ a, ((c y a (ρ.set i (some (.exn a))) S).clr i).noX = r) : tryR es sub i c (.ex ⟨y, [], []⟩ ρ S) = r := by
  show (if y ∈ es ∧ ([] : List Str) = [] then (if sub y then aInd _ else _) else _) = _
  rw [if_pos ⟨hy, rfl⟩, if_pos hs]
  exact aInd_eq h
@[simp] theorem clr_rt : (RS.rt d S).clr i = .rt d S := rfl
@[simp] theorem clr_nx : (RS.nx ρ S).clr i = .nx (ρ.set i none) S := rfl
@[simp] theorem noX_rt : (RS.rt d S).noX = .rt d S := rfl
@[simp] theorem noX_nx : (RS.nx ρ S).noX = .nx ρ S := rfl
end
end Kw

/-! Kw15: several except clauses, with names and without. -/
namespace Kw
open PySem PySem.Spec PyProof.Rows L2
abbrev Cl := Value × Option Nat × (Addr → Value → Option Addr → TS)
/-- the ends after a clause whose name stands in slot i -/
def gone (i : Nat) (D : Ends) : Ends := { nx := fun z G => D.nx (z.set i none) G, rt := D.rt, bk := fun z G => D.bk (z.set i none) G, ct := fun z G => D.ct (z.set i none) G }
def hit (o : Option Nat) (ts : TS) (D : Ends) (a : Addr) (σ : L2.St) (H : Hp) : Prop := match o with
  | none => ts D σ H
  | some i => ts (gone i D) (σ.set i (some (.ref a))) H
/-- what the clauses wish of an exception -/
def wCls (K : PySem.W.Frag) (Wout : WX) (D : Ends) : List Cl → WX
  | [] => Wout
  | (c, o, ts) :: r => fun cls d σ H => ∃ b, PySem.W.exmOne K cls c = some b ∧ (b = true → ∀ a, H a = none → hit o (ts a cls d) D a σ H) ∧ (b = false → wCls K Wout D r cls d σ H)
def SuOk (X : Cx) (suite : List Stmt) (ts : Addr → Value → Option Addr → TS) : Prop :=
  ∀ (a : Addr) (oe : Obj) (cls : Value) (d : Option Addr) (pn : List (Addr × Obj)), Zc cls d oe → (∃ vs, oe.data = .fields vs) → PSs (X.suite a ((a, oe) :: pn)) suite (ts a cls d)
inductive ClsOk (X : Cx) : List ExceptHandler → List Cl → Prop
  | nil : ClsOk X [] []
  | plain {x : Str} {c : Value} {ts : Addr → Value → Option Addr → TS} {b₀ : Stmt} {su : List Stmt} {np q : Pos} {hds : List ExceptHandler} {l : List Cl} (nm : Names X x c) (k : SuOk X (b₀ :: su) ts) (r : ClsOk X hds l) :
      ClsOk X (.ExceptHandler (some (.Name x np)) none (b₀ :: su) q :: hds) ((c, none, ts) :: l)
  | named {x n : Str} {i : Nat} {c : Value} {ts : Addr → Value → Option Addr → TS} {b₀ : Stmt} {su : List Stmt} {np q : Pos} {hds : List ExceptHandler} {l : List Cl} (hi : X.N[i]? = some n) (hln : X.env.kindOf n = some .local) (nm : Names X x c) (k : SuOk X (b₀ :: su) ts) (r : ClsOk X hds l) :
      ClsOk X (.ExceptHandler (some (.Name x np)) (some n) (b₀ :: su) q :: hds) ((c, some i, ts) :: l)
section
variable {X : Cx} {body : List Stmt} {h₀ : ExceptHandler} {hds : List ExceptHandler} {l : List Cl} {pos : Pos} {tb : WX → TS} {Wout : WX}
theorem try_cls (stk : X.stack = X.env :: X.outer) (frm : X.env.frame = some X.env.locals) (hN : X.N.Nodup) (tk : Takes X Wout)
    (hb : ∀ (W' : WX) (pn : List (Addr × Obj)) (xe : Value → Shared → Prop), Takes (X.tr pn xe) W' → PassesOwn (model X.prog X.w) X.A X.env xe → PSs (X.tr pn xe) body (tb W'))
    (hh : ClsOk X (h₀ :: hds) l) : PS X (.Try body (h₀ :: hds) [] [] pos) (fun D σ H => tb (wCls X.K Wout D l) D σ H) := by
  refine ⟨fun pins s σ H D I pre => ?_⟩
  have ok := I.ok
  have frs0 : X.A.frames = some (X.env :: X.outer) := ok.frames.trans (congrArg some stk)
  let XE0 : Value → Shared → Prop := fun e s₁ => wpAny (model X.prog X.w) X.A (noteFrame e X.env) (fun _ s₂ => wpAny (model X.prog X.w) X.A (setFlight e none) (fun _ s₃ => wpAny (model X.prog X.w) X.A (handleBy e X.env (h₀ :: hds)) (SP X pins D) X.xe s₃) X.xe s₂) X.xe s₁
  have caught : Takes (X.tr (X.pn ++ pins) XE0) (wCls X.K Wout D l) := by
    rintro u s' ⟨a, B, sI, pins', σ', H', cls, d, rfl, J', nb, up, sky, na, os, ag, w⟩
    have J : Inv X pins σ' H' sI := J'.ofTry ok
    have sky' : Sky B (X.env :: X.outer) a (Zc cls d) X.env.locals s'.heap := stk ▸ sky
    show wpAny (model X.prog X.w) X.A (noteFrame (.ref a) X.env) _ _ _
    refine Sky.land Zc.steady frs0 frm sky' fun g3 fl3 u3 => ?_
    have J3 : Inv X pins σ' H' { s' with heap := g3 } := J.landed nb fl3.1 (up.trans u3) os ag
    obtain ⟨o3, v3, at3, z3, d3⟩ := fl3.there
    have off : ∀ {g : Heap} {o : Obj} {vs : Array Value}, g.FunFrames B (X.env :: X.outer) → g.get? a = some o → o.data = .fields vs → a ∉ frs (X.env :: X.outer) := by
      intro g o vs ff at_ dd hm
      obtain ⟨_, o', at', nd⟩ := ff.mem hm
      cases at_.symm.trans at'
      exact nd _ dd
    have n0 := off fl3.2.2.1 at3 d3
    have n1 : a ≠ X.env.locals := by
      rintro rfl
      exact n0 (List.mem_filterMap.mpr ⟨X.env, List.mem_cons_self, frm⟩)
    have n2 : a ∉ X.fs := by
      intro hm
      obtain ⟨e, he, q⟩ := List.mem_filterMap.mp hm
      exact n0 (List.mem_filterMap.mpr ⟨e, .tail _ he, q⟩)
    have S3 := J3.suite at3 d3 na n1 n2
    have LT : PySem.W.Looks (model X.prog X.w) g3 (typeOf (.ref a)) cls := fun A Q E s k q => wpAny_typeOf_ref (k _ _ at3) (z3.1.symm ▸ q)
    have go : ∀ {hs' : List ExceptHandler} {l' : List Cl}, ClsOk X hs' l' → wCls X.K Wout D l' cls d σ' H' → wpAny (model X.prog X.w) X.A (handleBy (.ref a) X.env hs') (SP X pins D) X.xe { s' with heap := g3 } := by
      intro hs' l' hk
      have ask : ∀ {x : Str} {c : Value} {np : Pos}, Names X x c → ∀ {Q E : Value → Shared → Prop}, Q c { s' with heap := g3 } → wpAny (model X.prog X.w) (X.A.mark (some (.ref a))) (eval (.Name x np) X.env) (fun v s => Q v s) E { s' with heap := g3 } := by
        rintro x c np ⟨hg, hdb, hm | ⟨hm, hv, hnn⟩⟩ Q E q
        · exact ld_glob (X := X.suite a ((a, o3) :: (X.pn ++ pins))) S3 hg hm q hdb
        · exact ld_blt (X := X.suite a ((a, o3) :: (X.pn ++ pins))) S3 hg hm hv q hnn hdb
      induction hk with
      | nil =>
        intro w
        refine wpAny_handleBy_nil ?_
        obtain ⟨_, _, _, oe, vs, T, oT, ts', he, hz, hd, h1, hr⟩ := id fl3
        unfold PySem.passOn
        refine wpAny_bind (wpAny_field he hd h1 ?_)
        rw [if_neg (by simp)]
        have up4 : wpAny (model X.prog X.w) X.A (setFlight (.ref a) X.env.frame) (fun _ s4 => wpAny (model X.prog X.w) X.A (throw (.ref a) : Sem Flow) (SP X pins D) X.xe s4) X.xe { s' with heap := g3 } := by
          rw [frm]
          exact HandSPX.setFlight_upZ fl3 fun g4 hg4 u4 => wpAny_throw (tk _ _ ⟨a, B, sI, pins, σ', H', cls, d, rfl, J, nb, (up.trans u3).trans u4, .inr (.inr (stk.symm ▸ hg4)), na, os, ag, w⟩)
        first
          | exact wpAny_bind (wpAny_pure (wpAny_bind up4))
          | exact wpAny_bind up4
      | @plain x c ts b₀ su np q hds2 l2 nm k r ih =>
        rintro ⟨b, hb1, yes, no⟩
        refine wpAny_handleBy_cons (codeAny_handlers_test ?_) (by intro z; cases z)
        refine ask nm ((PySem.W.exm_one (M := model X.prog X.w) J3.kIn LT hb1).here ?_)
        cases b with
        | false => exact ih (no rfl)
        | true =>
          refine codeAny_handlers_suite (HandSPX.lands_againZ fl3 fun g4 fl4 u4 => ?_)
          have J4 : Inv X pins σ' H' { s' with heap := g4 } := J.landed nb fl4.1 ((up.trans u3).trans u4) os ag
          obtain ⟨o4, v4, at4, z4, d4⟩ := fl4.there
          have S4 := J4.suite at4 d4 na n1 n2
          refine wpAny_mono ((k a o4 cls d (X.pn ++ pins) z4 ⟨_, d4⟩).run [] _ _ H' _ S4 (yes rfl a na)) (fun f s6 hsp => ?_) (fun _ _ z => False.elim z)
          cases f with
          | ret u => obtain ⟨v6, σ6, H6, S6, r6, q6⟩ := hsp; exact ⟨_, _, _, S6.unsuite ok, r6, q6⟩
          | _ => obtain ⟨σ6, H6, S6, q6⟩ := hsp; exact ⟨_, _, S6.unsuite ok, q6⟩
      | @named x n i c ts b₀ su np q hds2 l2 hi hln nm k r ih =>
        rintro ⟨b, hb1, yes, no⟩
        refine wpAny_handleBy_cons (codeAny_handlers_test ?_) (by intro z; cases z)
        refine ask nm ((PySem.W.exm_one (M := model X.prog X.w) J3.kIn LT hb1).here ?_)
        cases b with
        | false => exact ih (no rfl)
        | true =>
          refine codeAny_handlers_suite_as (HandSPX.lands_againZ fl3 fun g4 fl4 u4 => ?_)
          have J4 : Inv X pins σ' H' { s' with heap := g4 } := J.landed nb fl4.1 ((up.trans u3).trans u4) os ag
          obtain ⟨o4, v4, at4, z4, d4⟩ := fl4.there
          have S4 := J4.suite at4 d4 na n1 n2
          refine store_ok (X := X.suite a ((a, o4) :: (X.pn ++ pins))) (v := .ref a) S4 hN hi (.inl hln) rfl (fun s5 S5 => ?_) (.inr hln)
          refine wpAny_mono ((k a o4 cls d (X.pn ++ pins) z4 ⟨_, d4⟩).run [] s5 _ H' _ S5 (yes rfl a na)) (fun f s6 hsp => ?_) (fun _ _ z => False.elim z)
          have out : ∀ {σ6 : L2.St} {H6 : Hp} {Q : Shared → Prop}, Inv (X.suite a ((a, o4) :: (X.pn ++ pins))) [] σ6 H6 s6 → (∀ s7, Inv X pins (σ6.set i none) H6 s7 → Q s7) → wpAny (model X.prog X.w) X.A (do bindName X.env n .none; unbindBehindTheSuite X.env n q) (fun _ s7 => Q s7) X.xe s6 :=
            fun S6 hq => gone_ok (S6.unsuite ok) hN hi hln hq
          cases f with
          | ret u => obtain ⟨v6, σ6, H6, S6, r6, q6⟩ := hsp; exact out S6 fun s7 J7 => ⟨_, _, _, J7, r6, q6⟩
          | _ => obtain ⟨σ6, H6, S6, q6⟩ := hsp; exact out S6 fun s7 J7 => ⟨_, _, J7, q6⟩
    exact go hh w
  refine wpAny_Try_except (wpAny_mono ((hb _ (X.pn ++ pins) XE0 caught PassesOwn.looking).run [] s σ H D (I.toTry _) pre) (fun f s1 hsp => ?_) (fun e s1 he => he))
  cases f with
  | next => obtain ⟨σ', H', J', q⟩ := hsp; exact wpAny_execs_nil ⟨σ', H', J'.ofTry ok, q⟩
  | ret u => obtain ⟨v, σ', H', J', r, q⟩ := hsp; exact ⟨v, σ', H', J'.ofTry ok, r, q⟩
  | _ => obtain ⟨σ', H', J', q⟩ := hsp; exact ⟨σ', H', J'.ofTry ok, q⟩
end
/-! ### the clauses over trees -/
abbrev ClF := (Str → Bool) × Option Nat × (Str → Addr → FS)
def clRun (o : Option Nat) (c : Addr → FS) (ρ : FEnv) (S : Store) (a : Addr) : RS := match o with
  | none => (c a ρ S).noX
  | some i => ((c a (ρ.set i (some (.exn a))) S).clr i).noX
noncomputable def clsR (x : Ex) (ρ : FEnv) (S : Store) : List ClF → RS
  | [] => .ex x ρ S
  | (sub, o, c) :: r => if sub x.cls then aInd (clRun o (c x.cls) ρ S) else clsR x ρ S r
/-- es: the classes that may come -/
noncomputable def sTryC (es : List Str) (cs : List ClF) (b : FS) : FS := fun ρ S => match b ρ S with
  | .ex x ρ' S' => if x.cls ∈ es ∧ x.ns = [] then clsR x ρ' S' cs else .no
  | r => r
def SuF (X : Cx) (es : List Str) (suite : List Stmt) (c : Str → Addr → FS) : Prop :=
  ∀ (y : Str), y ∈ es → ∀ (a : Addr) (oe : Obj) (pn : List (Addr × Obj)) (C : Addr), X.mg y = some (.ref C) → Zc (.ref C) none oe → (∃ vs, oe.data = .fields vs) → PSs (X.suite a ((a, oe) :: pn)) suite (tS (X.suite a ((a, oe) :: pn)) W0 (c y a))
inductive ClsF (X : Cx) (es : List Str) : List ExceptHandler → List ClF → Prop
  | nil : ClsF X es [] []
  | plain {x : Str} {sub : Str → Bool} {c : Str → Addr → FS} {b₀ : Stmt} {su : List Stmt} {np q : Pos} {hds : List ExceptHandler} {l : List ClF} (h : CatF X.K X.mg es x sub) (hg : Gl X x) (k : SuF X es (b₀ :: su) c) (r : ClsF X es hds l) (hd : (x == ("__debug__" : Str)) = false := by decide) :
      ClsF X es (.ExceptHandler (some (.Name x np)) none (b₀ :: su) q :: hds) ((sub, none, c) :: l)
  | named {x n : Str} {i : Nat} {sub : Str → Bool} {c : Str → Addr → FS} {b₀ : Stmt} {su : List Stmt} {np q : Pos} {hds : List ExceptHandler} {l : List ClF} (h : CatF X.K X.mg es x sub) (hg : Gl X x) (hi : X.N[i]? = some n) (hln : X.env.kindOf n = some .local) (k : SuF X es (b₀ :: su) c) (r : ClsF X es hds l) (hd : (x == ("__debug__" : Str)) = false := by decide) :
      ClsF X es (.ExceptHandler (some (.Name x np)) (some n) (b₀ :: su) q :: hds) ((sub, some i, c) :: l)
section
variable {X : Cx} {W : WX} {es : List Str}
def tsOf (X : Cx) (es : List Str) (c : Str → Addr → FS) : Addr → Value → Option Addr → TS := fun a cls d D σ H => ∃ y C, y ∈ es ∧ X.mg y = some (.ref C) ∧ cls = .ref C ∧ d = none ∧ tS X W0 (c y a) D σ H
theorem SuF.su {suite : List Stmt} {c : Str → Addr → FS} (k : SuF X es suite c) : SuOk X suite (tsOf X es c) := by
  intro a oe cls d pn hz hd
  refine ⟨fun pins s σ H D I h => ?_⟩
  obtain ⟨y, C, hy, hyC, rfl, rfl, t⟩ := h
  exact (k y hy a oe pn C hyC hz hd).run pins s σ H D I t
theorem EndS.nox {K : PySem.W.Frag} {mg : Str → Option Value} {w : Wd} {H : Hp} {D : Ends} {r : RS} (h : EndS K mg w H r.noX D W) : EndS K mg w H r D W0 := by
  cases r with
  | ex x ρ S => exact h.elim
  | _ => exact h
theorem ClsF.go {hds : List ExceptHandler} {cs : List ClF} (h : ClsF X es hds cs) (hk : ∀ y ∈ es, ExcK X.K X.mg y) : ∃ l, ClsOk X hds l ∧ ∀ (D : Ends) (w : Wd) (x : Ex) (ρ : FEnv) (S : Store) (σ : L2.St) (H : Hp) (cy : Value) (od : Option Addr), x.cls ∈ es → x.ns = [] → Sto X.K X.mg w S H → EnvR X.K X.mg w H ρ σ → ExR X.K X.mg w H x cy od →
    EndS X.K X.mg w H (clsR x ρ S cs) D W → wCls X.K W D l cy od σ H := by
  have ex0 : ∀ {w : Wd} {H : Hp} {x : Ex} {cy : Value} {od : Option Addr}, x.cls ∈ es → x.ns = [] → ExR X.K X.mg w H x cy od → ∃ C, X.mg x.cls = some (.ref C) ∧ cy = .ref C ∧ od = none := by
    intro w H x cy od hx hn ex
    obtain ⟨gy, hr⟩ := ex
    obtain ⟨C, gC, _⟩ := hk _ hx
    cases gC.symm.trans gy
    refine ⟨C, gC, rfl, ?_⟩
    rcases hr with ⟨_, _, z⟩ | ⟨d, vs, z, _⟩
    · exact z
    · exact absurd hn z
  induction h with
  | nil =>
    refine ⟨[], .nil, fun D w x ρ S σ H cy od hx hn s en ex h => ?_⟩
    exact h w H σ cy od Ext.refl s en ex
  | @plain x sub c b₀ su np q hds l hc hg k r hd ih =>
    obtain ⟨cv, nm, hx1⟩ := hc.names hg hd
    obtain ⟨l', ok', go'⟩ := ih
    refine ⟨(cv, none, tsOf X es c) :: l', .plain nm k.su ok', fun D w x ρ S σ H cy od hx hn s en ex h => ?_⟩
    obtain ⟨C, gC, rfl, rfl⟩ := ex0 hx hn ex
    refine ⟨sub x.cls, hx1 _ hx _ gC, fun hs a na => ?_, fun hs => ?_⟩
    · have h2 : EndS X.K X.mg w H (aInd (clRun none (c x.cls) ρ S)) D W := by
        have h' := h
        unfold clsR at h'
        rw [if_pos hs] at h'
        exact h'
      by_cases hno : aInd (clRun none (c x.cls) ρ S) = .no
      · rw [hno] at h2; exact h2.elim
      · rw [← aInd_at a rfl hno] at h2
        exact ⟨x.cls, C, hx, gC, rfl, rfl, w, ρ, S, s, en, h2.nox⟩
    · have h2 : EndS X.K X.mg w H (clsR x ρ S l) D W := by
        have h' := h
        unfold clsR at h'
        rw [if_neg (by rw [hs]; decide)] at h'
        exact h'
      exact go' D w x ρ S σ H _ _ hx hn s en ex h2
  | @named x n i sub c b₀ su np q hds l hc hg hi hln k r hd ih =>
    obtain ⟨cv, nm, hx1⟩ := hc.names hg hd
    obtain ⟨l', ok', go'⟩ := ih
    refine ⟨(cv, some i, tsOf X es c) :: l', .named hi hln nm k.su ok', fun D w x ρ S σ H cy od hx hn s en ex h => ?_⟩
    obtain ⟨C, gC, rfl, rfl⟩ := ex0 hx hn ex
    refine ⟨sub x.cls, hx1 _ hx _ gC, fun hs a na => ?_, fun hs => ?_⟩
    · have h2 : EndS X.K X.mg w H (aInd (clRun (some i) (c x.cls) ρ S)) D W := by
        have h' := h
        unfold clsR at h'
        rw [if_pos hs] at h'
        exact h'
      by_cases hno : aInd (clRun (some i) (c x.cls) ρ S) = .no
      · rw [hno] at h2; exact h2.elim
      · rw [← aInd_at a rfl hno] at h2
        exact ⟨x.cls, C, hx, gC, rfl, rfl, w, ρ.set i (some (.exn a)), S, s, en.set (by unfold Rp; rfl), EndS.clr h2⟩
    · have h2 : EndS X.K X.mg w H (clsR x ρ S l) D W := by
        have h' := h
        unfold clsR at h'
        rw [if_neg (by rw [hs]; decide)] at h'
        exact h'
      exact go' D w x ρ S σ H _ _ hx hn s en ex h2
theorem q_tryC {body : List Stmt} {h₀ : ExceptHandler} {hds : List ExceptHandler} {cs : List ClF} {pos : Pos} {fb : FS} (stk : X.stack = X.env :: X.outer) (frm : X.env.frame = some X.env.locals) (hN : X.N.Nodup) (tk : Takes X W) (hk : ∀ y ∈ es, ExcK X.K X.mg y)
    (hb : ∀ (W' : WX) (pn : List (Addr × Obj)) (xe : Value → Shared → Prop), Takes (X.tr pn xe) W' → PassesOwn (model X.prog X.w) X.A X.env xe → PSs (X.tr pn xe) body (tS (X.tr pn xe) W' fb))
    (hc : ClsF X es (h₀ :: hds) cs) : PS X (.Try body (h₀ :: hds) [] [] pos) (tS X W (sTryC es cs fb)) := by
  obtain ⟨l, okl, go⟩ := hc.go (W := W) hk
  refine PS.wk (try_cls (tb := fun W' => tS X W' fb) stk frm hN tk (fun W' pn xe t o => hb W' pn xe t o) okl) fun D σ H ⟨w, ρ, S, s, en, h⟩ => ?_
  refine ⟨w, ρ, S, s, en, ?_⟩
  unfold sTryC at h
  cases hbb : fb ρ S with
  | ex y ρ' S' =>
    rw [hbb] at h
    simp only at h
    split at h
    · rename_i hm
      intro w' H' σ' cy od e s' en' ex
      exact go D w' y ρ' S' σ' H' cy od hm.1 hm.2 s' en' ex (h.on e)
    · exact h.elim
  | _ => rw [hbb] at h; exact h
end
end Kw

/-! Kw16: isinstance of the exception in hand, asked for one of two classes. -/
namespace Kw
open PySem PySem.Spec PyProof.Rows L2
def rIsET (K : PySem.W.Frag) (C a : Addr) : List V → Hp → VK → Prop := fun xs H Q => ∃ (tp : Addr) (cs : List V) (us : List Value) (b : Bool), xs = [.ref a, .ref tp] ∧ H tp = some (.tup cs) ∧ Paired ClsV cs us ∧ PySem.W.kitAny K (.ref C) us = some b ∧ Q (.bl b) H
theorem call_isET {X : Cx} {a C : Addr} {oe : Obj} {pn : List (Addr × Obj)} (F : ExcC X.K C) (hz : Zc (.ref C) none oe) (hf : ∃ vs, oe.data = .fields vs) : CallR (X.suite a ((a, oe) :: pn)) (.builtin "isinstance") (rIsET X.K C a) := by
  intro pins s σ H xs us Q I r h
  obtain ⟨tp, cs, ws, b, rfl, hT, k, e, q⟩ := h
  obtain ⟨u1, u2, rfl, r1, r2⟩ := vals2 r
  cases (show u2 = Value.ref tp from r2)
  cases (show u1 = Value.ref a from r1)
  obtain ⟨hget, _⟩ := I.pin (a, oe) (List.mem_append.mpr (.inl List.mem_cons_self))
  obtain ⟨vs, hv⟩ := hf
  have J : PySem.W.InstAt s.heap a oe C none := by
    obtain ⟨c1, c2, c3, c4⟩ := oe
    obtain ⟨h1, h2⟩ := hz
    dsimp only at h1 h2 hv
    subst h1 h2 hv
    exact ⟨hget, rfl, rfl, trivial⟩
  obtain ⟨_, its, rv, o, h1, h2, n, h3⟩ := (show ObjOk X.prog X.w H s.heap tp (.tup cs) from I.hok tp _ hT)
  have e3 := ClsV.all k rv
  subst e3
  obtain ⟨oc, od, dt, sl⟩ := o
  dsimp only at h2 h3
  subst h2 h3
  exact PySem.W.kia_tup (PySem.W.handS_kitx_exc F.hg F.hk F.hs F.hd F.ha F.hn F.ht F.hm) I.kIn J h1 e (fun z => nomatch z) fun tk => ⟨.bl b, H, I.kept (t' := tk) fun _ _ z => z, rfl, q⟩
section
variable {X : Cx} {W : WX} {o : Expr} {fe : FE} {a : Addr} {oe : Obj} {pn : List (Addr × Obj)} {y x1 x2 : Str} {C : Addr} {b1 b2 : Bool} {p p1 p2 pos tpos : Pos} {k : Nat}
theorem q_isET (hy : ExcK X.K X.mg y) (hyC : X.mg y = some (.ref C)) (h1 : IsxO X.K X.mg y x1 b1) (h2 : IsxO X.K X.mg y x2 b2) (hz : Zc (.ref C) none oe) (hf : ∃ vs, oe.data = .fields vs)
    (hg : Gl X "isinstance") (hm : X.mg "isinstance" = none) (hg1 : Gl X x1) (hg2 : Gl X x2) (ho : PE (X.suite a ((a, oe) :: pn)) o (tF (X.suite a ((a, oe) :: pn)) W fe)) (hd1 : (x1 == ("__debug__" : Str)) = false := by decide) (hd2 : (x2 == ("__debug__" : Str)) = false := by decide)
    (s1 : starEach [o, .Tuple [.Name x1 p1, .Name x2 p2] k tpos] X.env = (false, eval o X.env) :: starEach [.Tuple [.Name x1 p1, .Name x2 p2] k tpos] X.env := by rfl)
    (s2 : starEach [.Tuple [.Name x1 p1, .Name x2 p2] k tpos] X.env = (false, eval (.Tuple [.Name x1 p1, .Name x2 p2] k tpos) X.env) :: starEach [] X.env := by rfl)
    (s3 : starEach [.Name x1 p1, .Name x2 p2] X.env = (false, eval (.Name x1 p1) X.env) :: starEach [.Name x2 p2] X.env := by rfl) (s4 : starEach [.Name x2 p2] X.env = (false, eval (.Name x2 p2) X.env) :: starEach [] X.env := by rfl)
    (hpl : (backTo pos (starEach [.Tuple [.Name x1 p1, .Name x2 p2] k tpos] X.env)).any (·.1) = false := by rfl) :
    PE (X.suite a ((a, oe) :: pn)) (.Call (.Name "isinstance" p) [o, .Tuple [.Name x1 p1, .Name x2 p2] k tpos] [] pos) (tF (X.suite a ((a, oe) :: pn)) W (fIsE a (b1 || b2) fe)) := by
  obtain ⟨C1, m1, k1⟩ := hy
  obtain ⟨C2, B1, m2, m3, k2⟩ := h1
  obtain ⟨C3, B2, m4, m5, k3⟩ := h2
  cases hyC.symm.trans m1
  cases hyC.symm.trans m2
  cases hyC.symm.trans m4
  have n1 : PE (X.suite a ((a, oe) :: pn)) (.Name x1 p1) (tC (.ref B1)) := pe_glob hg1 m3 rfl hd1
  have n2 : PE (X.suite a ((a, oe) :: pn)) (.Name x2 p2) (tC (.ref B2)) := pe_glob hg2 m5 rfl hd2
  have tup := pe_tup (x1 := k) (pos := tpos) (pa_cons n1 (pa_cons n2 pa_nil s4) s3)
  refine PE.wk (pe_callB (call_isET k1 hz hf) hg hm (by decide +kernel) (pa_cons ho (pa_cons tup pa_nil s2) s1) (by decide) (by decide) s1 hpl) fun σ H Q ⟨w, ρ, S, s, en, h⟩ => ?_
  refine ⟨w, ρ, S, s, en, (End.bind (R := fun w H => Rp X.K X.mg w H) h).imp ?_ (fun _ _ _ z => z)⟩
  rintro v H1 ⟨w1, S1, d, e1, s1', r1, h3⟩
  cases d with
  | exn a' =>
    simp only at h3
    split at h3
    · rename_i ea
      subst ea
      have ev : v = .ref a' := by unfold Rp at r1; exact r1
      refine ⟨by rw [sizeLine_eq]; simp, fun q np => ?_⟩
      refine ⟨q, [.ref B1, .ref B2], [.ref B1, .ref B2], b1 || b2, by rw [ev], upd_same, .cons (.own B1) (.cons (.own B2) .nil), ?_, ?_⟩
      · cases b1 <;> cases b2 <;> simp [PySem.W.kitAny, k2, k3]
      · exact h3 w1 _ _ (Ext.new np) (s1'.beside np) rp_b
    · exact h3.elim
  | _ => exact h3.elim
end
/-! ### methods of texts -/
def fSM (g : D → List D → Store → RE D) (o : FE) (a : FA) : FE := fun ρ S => (o ρ S).bnd fun x S1 => match x with
  | .str z => (a ρ S1).bnd fun ds S2 => g (.str z) ds S2
  | _ => .no
def strsOf : List D → Option (List Str)
  | [] => some []
  | .str z :: r => (strsOf r).map (z :: ·)
  | _ => none
def gJoin (x : D) (ds : List D) (S : Store) : RE D := match x, ds with
  | .str a, [y] => (match (seqL S y).bind strsOf with
    | some ys => if (ys.map (·.length)).sum + ys.length * a.length ≤ 16777216 then .ok (.str (Txt.join a ys)) S else .no
    | none => .no)
  | _, _ => .no
section
variable {K : PySem.W.Frag} {mg : Str → Option Value} {w : Wd} {H : Hp}
theorem strs_at : ∀ {ds : List D} {vs : List V} {ys : List Str}, RpL K mg w H ds vs → strsOf ds = some ys → vs = ys.map V.str
  | [], vs, ys, r, h => by cases h; unfold RpL at r; exact r
  | d :: ds, vs, ys, r, h => by
    cases d with
    | str z =>
      unfold RpL at r
      obtain ⟨v, t, rfl, r1, r2⟩ := r
      cases h1 : strsOf ds with
      | none => simp [strsOf, h1] at h
      | some zs =>
        simp [strsOf, h1] at h
        subst h
        rw [rp_str r1, strs_at r2 h1]; rfl
    | _ => simp [strsOf] at h
theorem join_v : MtV K mg (fun x xs H Q => ∃ a p, ∃ ys : List Str, x = .str a ∧ xs = [.ref p] ∧ (SqL K H p (ys.map V.str) ∨ SqT K H p (ys.map V.str)) ∧ (ys.map (·.length)).sum + ys.length * a.length ≤ 16777216 ∧ Q (.str (Txt.join a ys)) H) gJoin := by
  intro w S H x xs d ds Q E s r1 r2 h
  unfold gJoin at h
  split at h
  · rename_i a y
    split at h
    · rename_i ys hy
      split at h
      · rename_i hl
        obtain ⟨v, rfl, r3⟩ := r2.one_inv
        obtain ⟨zs, h1, h2⟩ := Option.bind_eq_some_iff.mp hy
        obtain ⟨p, vs, e2, t2, q2⟩ := seqL_at s r3 h1
        have e3 := strs_at q2 h2
        subst e3
        exact ⟨a, p, ys, rp_str r1, by rw [e2], .inl t2, hl, h.ret s rp_s⟩
      · exact h.elim
    · exact h.elim
  · exact h.elim
end
section
variable {X : Cx} {W : WX} {o e : Expr} {es : List Expr} {fo : FE} {fs : FA} {name : Str} {apos cpos : Pos} {id : String} {r : V → List V → Hp → VK → Prop} {g : D → List D → Store → RE D}
theorem q_smth (slot : Slot "str" name id) (hty : typeOf (.builtin id) = pure (.type "method_descriptor")) (hm : MtR X id r) (hv : MtV X.K X.mg r g) (ho : PE X o (tF X W fo)) (ha : PA X (e :: es) (tA X W fs))
    (hbase : attributeBase o name X.env (eval o X.env) = eval o X.env := by rfl)
    (hfw : ((backTo cpos (starEach (e :: es) X.env)).all (fun x => !x.1) && (backToKw cpos (keywordEach [] X.env)).all (fun x => x.1.isSome) && decide ((e :: es).length + ([] : List Keyword).length + (if ([] : List Keyword).isEmpty then 0 else 1) < 30)) = true := by rfl)
    (hln : (apos.endLine == cpos.line) = true := by rfl) (hs : starEach (e :: es) X.env = (false, eval e X.env) :: starEach es X.env := by rfl) (hpl : (backTo cpos (starEach es X.env)).any (·.1) = false := by rfl) :
    PE X (.Call (.Attribute o name apos) (e :: es) [] cpos) (tF X W (fSM g fo fs)) :=
  PE.wk (pe_bm PySem.F.plainAttrs_str slot hty hm ho ha hbase hfw hln hs hpl) fun σ H Q ⟨w, ρ, S, s, en, h⟩ => by
    refine ⟨w, ρ, S, s, en, (End.bind (R := fun w H => Rp X.K X.mg w H) h).imp ?_ (fun _ _ _ z => z)⟩
    rintro x H1 ⟨w1, S1, d, e1, s1, r1, h1⟩
    cases d with
    | str z =>
      refine ⟨by rw [rp_str r1]; rfl, w1, ρ, S1, s1, en.ext e1, (End.bind (R := fun w H => RpL X.K X.mg w H) h1).imp ?_ (fun _ _ _ z => z)⟩
      rintro us H2 ⟨w2, S2, ds, e3, s2, r2, h2⟩
      exact hv w2 S2 H2 x us (.str z) ds Q _ s2 (Rp.ext e3 _ _ r1) r2 h2
    | _ => exact h1.elim
end
end Kw

/-! Kw17: a text turned round, repr of data. -/
namespace Kw
open PySem PySem.Spec PyProof.Rows L2

/-! ### text[::-1] -/
def revS (z : Str) : Str := ⟨((Builtin.Str.strSliceIndices none none (-1) z.length).filterMap (z.cps[·]?)).toArray⟩
theorem revIx_length (n : Nat) : (Builtin.Str.strSliceIndices none none (-1) n).length ≤ n := by
  unfold Builtin.Str.strSliceIndices sliceRange
  simp only [show ¬ ((-1 : Int) > 0) by decide, if_false, List.length_map, List.length_range]
  repeat' split
  all_goals simp
  all_goals omega
theorem revS_length (z : Str) : (revS z).length ≤ z.length := by
  show (List.filterMap _ _).toArray.size ≤ _
  rw [List.size_toArray]
  exact Nat.le_trans (List.length_filterMap_le _ _) (revIx_length _)
def gRevS (x : D) (S : Store) : RE D := match x with
  | .str z => if z.length ≤ 16777216 then .ok (.str (revS z)) S else .no
  | _ => .no
section
variable {X : Cx} {W : WX} {e : Expr} {fe : FE}
theorem q_revS {k : Nat} {p1 p2 p3 pos : Pos} (he : PE X e (tF X W fe)) : PE X (.Subscript e (.Slice none none (some (.UnaryOp .USub (.Constant (.int 1) k p1) p2)) p3) pos) (tF X W (f1 gRevS fe)) := by
  refine ⟨fun pins s σ H Q I ⟨w, ρ, S, st, en, h⟩ => Subscript_ (thn (he.run pins s σ H (fun x H1 => ∃ z, x = .str z ∧ z.length ≤ 16777216 ∧ Q (.str (revS z)) H1) I ⟨w, ρ, S, st, en, (End.bind (R := fun w H => Rp X.K X.mg w H) h).imp ?_ (fun _ _ _ z => z)⟩) ?_)⟩
  · rintro x H1 ⟨w1, S1, d, e1, s1, r1, h1⟩
    cases d with
    | str z =>
      simp only [gRevS] at h1
      split at h1
      · rename_i hz; exact ⟨z, rp_str r1, hz, h1.ret s1 rp_s⟩
      · exact h1.elim
    | _ => exact h1.elim
  · rintro v s1 ⟨x, H1, I1, r1, z, rfl, hz, q⟩
    obtain ⟨t, rfl⟩ := r1
    have hst : PO X (some (.UnaryOp .USub (.Constant (.int 1) k p1) p2)) (tPart (tUn (rU fun i => .int (-i)) (tC (.int 1)))) := po_some (pe_un un_neg pe_int)
    refine wpAny_Slice (thn (po_none.run pins s1 σ H1 (fun o H2 => o = none ∧ H2 = H1) I1 ⟨rfl, rfl⟩) fun vl s2 ⟨l, H2, I2, pl, el, e2⟩ => ?_)
    subst el e2
    refine thn (po_none.run pins s2 σ H2 (fun o H3 => o = none ∧ H3 = H2) I2 ⟨rfl, rfl⟩) fun vu s3 ⟨u, H3, I3, pu, eu, e3⟩ => ?_
    subst eu e3
    refine thn (hst.run pins s3 σ H3 (fun o H4 => o = some (-1) ∧ H4 = H3) I3 ⟨1, rfl, -1, rfl, rfl, rfl⟩) fun vs s4 ⟨o, H4, I4, ps, eo, e4⟩ => ?_
    subst eo e4
    have I5 : Inv X pins σ H4 { s4 with heap := s4.heap.push { cls := .type "slice", data := .fields #[vl, vu, vs] } } := I4.kept (t' := s4.toks) fun b ob q => Heap.get?_push_of_some _ q
    obtain ⟨l, rfl, hl⟩ := IsPart.raw pl
    obtain ⟨u, rfl, hu⟩ := IsPart.raw pu
    obtain ⟨t3, rfl, ht3⟩ := IsPart.raw ps
    obtain rfl : l = none := by cases l <;> simp_all
    obtain rfl : u = none := by cases u <;> simp_all
    obtain ⟨tk, rfl⟩ : ∃ tk, t3 = some (-1, tk) := by
      cases t3 with
      | none => simp at ht3
      | some p => exact ⟨p.2, by simp at ht3; rw [← ht3]⟩
    show wpAny (model X.prog X.w) X.A (subscriptTail e (.Slice none none (some (.UnaryOp .USub (.Constant (.int 1) k p1) p2)) p3) (.str z t) (.ref s4.heap.objs.size)) (EP X pins σ Q) X.xe { s4 with heap := s4.heap.push { cls := .type "slice", data := .fields #[_, _, _] } }
    refine tail_any (ops := [.str z t, .ref s4.heap.objs.size]) (typeIs_str _ _ _) (PySem.F.slot_str_getitem.lookup) ?_ (by with_unfolding_all rfl)
    refine wpAny_getItem_str_slice (l := none) (u := none) (st := some (-1, tk)) ⟨_, Heap.get?_push_size _ rfl, rfl, rfl⟩ rfl ?_
    have hl := revS_length z
    refine ⟨?_, .str _, H4, I5.tok _, ⟨_, rfl⟩, q⟩
    show (revS z).length ≤ sizeLine
    rw [sizeLine_eq]; omega
end
/-! ### repr of data -/
def keyP : Key → PyData
  | .inl i => .int i
  | .inr x => .str x
mutual
/-- a value as data that is shown -/
inductive Rs (K : PySem.W.Frag) (H : Hp) (b : Bool) : V → PyData → Prop
  | non : Rs K H b .non .none
  | bl (c : Bool) : Rs K H b (.bl c) (.bool c)
  | int (i : Int) : Rs K H b (.int i) (.int i)
  | str (x : Str) : Rs K H b (.str x) (.str x)
  | lst {a : Addr} {xs : List V} {ds : List PyData} : SqL K H a xs → (b = true → a ≠ sysModules) → RsL K H b xs ds → Rs K H b (.ref a) (.list ds)
  | tup {a : Addr} {xs : List V} {ds : List PyData} : SqT K H a xs → RsL K H b xs ds → Rs K H b (.ref a) (.tuple ds)
  | dic {a : Addr} {kvs : List (Key × V)} {ps : List (PyData × PyData)} : H a = some (.dK kvs) → RsV K H b kvs ps → Rs K H b (.ref a) (.dict ps)
inductive RsL (K : PySem.W.Frag) (H : Hp) (b : Bool) : List V → List PyData → Prop
  | nil : RsL K H b [] []
  | cons {v : V} {vs : List V} {d : PyData} {ds : List PyData} : Rs K H b v d → RsL K H b vs ds → RsL K H b (v :: vs) (d :: ds)
inductive RsV (K : PySem.W.Frag) (H : Hp) (b : Bool) : List (Key × V) → List (PyData × PyData) → Prop
  | nil : RsV K H b [] []
  | cons {k : Key} {v : V} {r : List (Key × V)} {d : PyData} {ps : List (PyData × PyData)} : Rs K H b v d → RsV K H b r ps → RsV K H b ((k, v) :: r) ((keyP k, d) :: ps)
end
mutual
/-- no list in it -/
def noLs : PyData → Bool
  | .list _ => false
  | .tuple ds => noLsL ds
  | .dict kvs => noLsV kvs
  | _ => true
def noLsL : List PyData → Bool
  | [] => true
  | d :: ds => noLs d && noLsL ds
def noLsV : List (PyData × PyData) → Bool
  | [] => true
  | (_, d) :: ps => noLs d && noLsV ps
end
section
variable {X : Cx} {pins : List (Addr × Obj)} {σ : L2.St} {H : Hp} {s : Shared} {b : Bool}
mutual
theorem Rs.reads (I : Inv X pins σ H s) : ∀ (d : PyData) (v : V) (u : Value), Rs X.K H b v d → RelV v u → ∃ as, Reads s.heap u d as ∧ (noLs d = true ∨ b = true → sysModules ∉ as)
  | .none, _, _, .non, r => by cases r; exact ⟨[], .none, fun _ z => nomatch z⟩
  | .bool b, _, _, .bl _, r => by cases r; exact ⟨[], .bool b, fun _ z => nomatch z⟩
  | .int i, _, _, .int _, r => by obtain ⟨t, rfl⟩ := r; exact ⟨[], .int i t, fun _ z => nomatch z⟩
  | .str x, _, _, .str _, r => by obtain ⟨t, rfl⟩ := r; exact ⟨[], .str x t, fun _ z => nomatch z⟩
  | .list ds, _, _, .lst (a := a) hs hne ha, r => by
    cases r
    obtain ⟨its, rv, ⟨o, n, ho, hc, _, hd⟩, _⟩ := I.list hs
    obtain ⟨as, hr, hn⟩ := RsL.reads I ds _ its ha rv
    refine ⟨_, .list ho hc hd hr, fun z => ?_⟩
    have hb : b = true := by
      rcases z with z | z
      · simp [noLs] at z
      · exact z
    intro y
    rcases List.mem_cons.mp y with y | y
    · exact hne hb y.symm
    · exact hn (.inr hb) y
  | .tuple ds, _, _, .tup hs ha, r => by
    cases r
    obtain ⟨its, rv, ⟨o, ho, hc, n, hd⟩, _⟩ := I.tuple hs
    obtain ⟨as, hr, hn⟩ := RsL.reads I ds _ its ha rv
    exact ⟨_, .tuple ho hc hd hr, fun z => hn (by simpa [noLs] using z)⟩
  | .dict ps, _, _, .dic (a := a) (kvs := kvs) hs hv, r => by
    cases r
    obtain ⟨_, sm, vs, kv, o, es, ep, ho, hc, hd, hk, hp, _⟩ := dk_of I.hok hs
    obtain ⟨h1, bs, h2, hn⟩ := RsV.reads I ps kvs vs es.toList hv kv hp
    refine ⟨_, .dict (as := []) (bs := bs) ho hc.1 hd h1 h2, fun z y => ?_⟩
    rcases List.mem_append.mp y with y | y
    · have : sysModules = a := by simpa using y
      rw [this] at sm
      simp at sm
    · exact hn (by simpa [noLs] using z) y
theorem RsL.reads (I : Inv X pins σ H s) : ∀ (ds : List PyData) (vs : List V) (us : List Value), RsL X.K H b vs ds → Vals vs us → ∃ as, ReadsAll s.heap us ds as ∧ (noLsL ds = true ∨ b = true → sysModules ∉ as)
  | [], _, _, .nil, r => by cases r; exact ⟨_, .nil, fun _ z => nomatch z⟩
  | d :: ds, _, _, .cons h1 h2, r => by
    cases r with
    | cons r1 r2 =>
      obtain ⟨as, q1, n1⟩ := Rs.reads I d _ _ h1 r1
      obtain ⟨bs, q2, n2⟩ := RsL.reads I ds _ _ h2 r2
      refine ⟨_, .cons q1 q2, fun z y => ?_⟩
      simp only [noLsL, Bool.and_eq_true] at z
      rcases List.mem_append.mp y with y | y
      · exact n1 (z.imp (·.1) id) y
      · exact n2 (z.imp (·.2) id) y
theorem RsV.reads (I : Inv X pins σ H s) : ∀ (ps : List (PyData × PyData)) (kvs : List (Key × V)) (vs : List (Key × Value)) (es : List DictEntry), RsV X.K H b kvs ps → KV kvs vs → Pairs (mixKind X.prog X.w) es vs → ReadsAll s.heap (es.map (·.key)) (ps.map (·.1)) [] ∧ ∃ bs, ReadsAll s.heap (es.map (·.val)) (ps.map (·.2)) bs ∧ (noLsV ps = true ∨ b = true → sysModules ∉ bs)
  | [], _, _, _, .nil, r, q => by cases r; cases q; exact ⟨.nil, [], .nil, fun _ z => nomatch z⟩
  | (_, d) :: ps, _, _, _, .cons (k := k) h1 h2, r, q => by
    cases r with
    | cons r1 r2 =>
      cases q with
      | cons q1 q2 q3 =>
        obtain ⟨e1, e2⟩ := r1
        obtain ⟨a1, bs, a2, a3⟩ := RsV.reads I ps _ _ _ h2 r2 q3
        obtain ⟨as, b1, b2⟩ := Rs.reads I d _ _ h1 e2
        refine ⟨?_, as ++ bs, ?_, fun z y => ?_⟩
        · rw [← e1] at q1
          have hk : ∀ v, keyIs k v = true → Reads s.heap v (keyP k) [] := fun v hv => by
            rcases keyIs_shape hv with ⟨i, t, rfl, rfl⟩ | ⟨x, t, rfl, rfl⟩
            · exact .int i t
            · exact .str x t
          exact ReadsAll.cons (hk _ q1) a1
        · rw [List.map_cons, List.map_cons, q2]
          exact .cons b1 a2
        · simp only [noLsV, Bool.and_eq_true] at z
          rcases List.mem_append.mp y with y | y
          · exact b2 (z.imp (·.1) id) y
          · exact a3 (z.imp (·.2) id) y
end
end
def okSh (b : Bool) (p : PyData) : Bool := p.showable && decide (p.depth ≤ 190) && decide (p.shown.length ≤ 16777216) && (!p.hasDict || noLs p || b)
def rRepr (K : PySem.W.Frag) : List V → Hp → VK → Prop := fun xs H Q => ∃ x p b, xs = [x] ∧ Rs K H b x p ∧ okSh b p = true ∧ Q (.str p.shown) H
theorem call_repr {X : Cx} (hg : X.A.guards = some []) (hu : X.A.units + 200 < cLine) : CallR X (.builtin "repr") (rRepr X.K) := by
  intro pins s σ H xs us Q I r h
  obtain ⟨x, p, b, rfl, hx, ok, q⟩ := h
  obtain ⟨u, rfl, ru⟩ := vals1 r
  simp only [okSh, Bool.and_eq_true, decide_eq_true_eq, Bool.or_eq_true, Bool.not_eq_true'] at ok
  obtain ⟨⟨⟨sh, dp⟩, sz⟩, nl⟩ := ok
  have sz' : p.shown.length ≤ sizeLine := by rw [sizeLine_eq]; exact sz
  obtain ⟨as, rd, ns⟩ := Rs.reads I p x u hx ru
  have goR : ∀ a, u = .ref a → wpAny (model X.prog X.w) X.A (call (.builtin "repr") [u]) (EP X pins σ Q) X.xe s := by
    rintro a rfl
    refine repr_of_reads' (h₀ := s.heap) rd sh (fun z => ns (by
      rcases nl with (h1 | h1) | h1
      · rw [z] at h1; cases h1
      · exact .inl h1
      · exact .inr h1)) hg (by omega) (fun _ _ e => e) (fun h' t tk hk => ⟨.str _, H, I.kept hk, ⟨_, rfl⟩, q⟩) sz'
  cases hx with
  | non => cases ru; exact PySem.P.repr_of_none ⟨.str _, H, I.tok _, ⟨_, rfl⟩, q⟩
  | bl c => cases ru; exact PySem.P.repr_of_bool ⟨.str _, H, I.tok _, ⟨_, rfl⟩, q⟩
  | int i => obtain ⟨t, rfl⟩ := ru; exact PySem.P.repr_of_int (by simpa [PyData.showable] using sh) ⟨.str _, H, I.tok _, ⟨_, rfl⟩, q⟩
  | str z => obtain ⟨t, rfl⟩ := ru; exact PySem.P.repr_of_str ⟨.str _, H, I.tok _, ⟨_, rfl⟩, q⟩ sz'
  | lst _ _ _ => exact goR _ ru
  | tup _ _ => exact goR _ ru
  | dic _ _ => exact goR _ ru
mutual
def sh0 : D → Option PyData
  | .non => some .none
  | .bl b => some (.bool b)
  | .int i => some (.int i)
  | .str x => some (.str x)
  | .tup ds => (sh0L ds).map .tuple
  | .lst ds => (sh0L ds).map .list
  | .fls ds => (sh0L ds).map .list
  | .dic ks ds => (sh0L ds).map fun ps => .dict ((ks.map keyP).zip ps)
  | _ => none
def sh0L : List D → Option (List PyData)
  | [] => some []
  | d :: ds => (sh0 d).bind fun a => (sh0L ds).map (a :: ·)
end
mutual
def shS (S : Store) : D → Option PyData
  | .non => some .none
  | .bl b => some (.bool b)
  | .int i => some (.int i)
  | .str x => some (.str x)
  | .tup ds => (shSL S ds).map .tuple
  | .lst ds => (shSL S ds).map .list
  | .fls ds => (shSL S ds).map .list
  | .dic ks ds => (shSL S ds).map fun ps => .dict ((ks.map keyP).zip ps)
  | .loc n => ((Kw.cellOf S n).bind sh0L).map .list
  | _ => none
def shSL (S : Store) : List D → Option (List PyData)
  | [] => some []
  | d :: ds => (shS S d).bind fun a => (shSL S ds).map (a :: ·)
end
section
variable {K : PySem.W.Frag} {mg : Str → Option Value} {w : Wd} {H : Hp} {S : Store} {b : Bool}
/-- the modules' table is told first -/
def sysB (S : Store) : Bool := match S with
  | .sys :: _ => true
  | _ => false
theorem sysB_at (s : Sto K mg w S H) (h : sysB S = true) : sysModules ∈ w.hd ∧ K.lookup sysModules = none ∧ ∃ φ, H sysModules = some (.ext φ) ∧ SysQ φ := by
  unfold sysB at h
  split at h
  · have c := s.cell 0 .sys rfl
    exact ⟨c.2.1, c.2.2.2.2, c.2.2.2.1⟩
  · cases h
theorem RsV.zip : ∀ {ks : List Key} {vs : List V} {ps : List PyData}, RsL K H b vs ps → RsV K H b (ks.zip vs) ((ks.map keyP).zip ps)
  | [], _, _, _ => .nil
  | _ :: _, _, _, .nil => .nil
  | _ :: _, _, _, .cons h1 h2 => .cons h1 (RsV.zip h2)
theorem Fp.ne {a : Addr} {xs : List V} (t : Fp K w H a xs) (h1 : sysModules ∈ w.hd) (h2 : K.lookup sysModules = none) : a ≠ sysModules := by
  intro e
  subst e
  rcases t with ⟨o, _, off⟩ | ⟨o, its, n, h, _⟩
  · exact off.2 h1
  · rw [h2] at h; cases h
mutual
theorem sh0_at (hb : b = true → sysModules ∈ w.hd ∧ K.lookup sysModules = none) : ∀ (d : D) (v : V) (p : PyData), Rp K mg w H d v → sh0 d = some p → Rs K H b v p
  | .non, v, p, r, h => by unfold Rp at r; simp only [sh0] at h; cases h; subst r; exact .non
  | .bl _, v, p, r, h => by unfold Rp at r; simp only [sh0] at h; cases h; subst r; exact .bl _
  | .int _, v, p, r, h => by unfold Rp at r; simp only [sh0] at h; cases h; subst r; exact .int _
  | .str _, v, p, r, h => by unfold Rp at r; simp only [sh0] at h; cases h; subst r; exact .str _
  | .tup ds, v, p, r, h => by
    obtain ⟨a, xs, e, t, q⟩ := tup_at r
    simp only [sh0, Option.map_eq_some_iff] at h
    obtain ⟨ps, h1, rfl⟩ := h
    subst e
    exact .tup t (sh0L_at hb ds xs ps q h1)
  | .lst ds, v, p, r, h => by
    unfold Rp at r
    obtain ⟨a, xs, e, t, off, q⟩ := r
    simp only [sh0, Option.map_eq_some_iff] at h
    obtain ⟨ps, h1, rfl⟩ := h
    subst e
    exact .lst (.of t) (fun z e => off.2 (e ▸ (hb z).1)) (sh0L_at hb ds xs ps q h1)
  | .dic ks ds, v, p, r, h => by
    unfold Rp at r
    obtain ⟨a, vs, e, t, _, _, q⟩ := r
    simp only [sh0, Option.map_eq_some_iff] at h
    obtain ⟨ps, h1, rfl⟩ := h
    subst e
    exact .dic t (RsV.zip (sh0L_at hb ds vs ps q h1))
  | .ins _ _ _, v, p, r, h => by simp [sh0] at h
  | .loc _, v, p, r, h => by simp [sh0] at h
  | .glo _, v, p, r, h => by simp [sh0] at h
  | .exn _, v, p, r, h => by simp [sh0] at h
  | .exo _ _ _, v, p, r, h => by simp [sh0] at h
  | .fls ds, v, p, r, h => by
    unfold Rp at r
    obtain ⟨a, xs, e, t, q⟩ := r
    simp only [sh0, Option.map_eq_some_iff] at h
    obtain ⟨ps, h1, rfl⟩ := h
    subst e
    exact .lst t.sq (fun z e => t.ne (hb z).1 (hb z).2 e) (sh0L_at hb ds xs ps q h1)
theorem sh0L_at (hb : b = true → sysModules ∈ w.hd ∧ K.lookup sysModules = none) : ∀ (ds : List D) (vs : List V) (ps : List PyData), RpL K mg w H ds vs → sh0L ds = some ps → RsL K H b vs ps
  | [], vs, ps, r, h => by unfold RpL at r; simp only [sh0L] at h; cases h; subst r; exact .nil
  | d :: ds, vs, ps, r, h => by
    unfold RpL at r
    obtain ⟨v, vs', e, r1, r2⟩ := r
    simp only [sh0L, Option.bind_eq_some_iff, Option.map_eq_some_iff] at h
    obtain ⟨a, h1, b', h2, rfl⟩ := h
    subst e
    exact .cons (sh0_at hb d v a r1 h1) (sh0L_at hb ds vs' b' r2 h2)
end
mutual
theorem shS_at (s : Sto K mg w S H) (hb : b = true → sysB S = true) : ∀ (d : D) (v : V) (p : PyData), Rp K mg w H d v → shS S d = some p → Rs K H b v p
  | .non, v, p, r, h => by unfold Rp at r; simp only [shS] at h; cases h; subst r; exact .non
  | .bl _, v, p, r, h => by unfold Rp at r; simp only [shS] at h; cases h; subst r; exact .bl _
  | .int _, v, p, r, h => by unfold Rp at r; simp only [shS] at h; cases h; subst r; exact .int _
  | .str _, v, p, r, h => by unfold Rp at r; simp only [shS] at h; cases h; subst r; exact .str _
  | .tup ds, v, p, r, h => by
    obtain ⟨a, xs, e, t, q⟩ := tup_at r
    simp only [shS, Option.map_eq_some_iff] at h
    obtain ⟨ps, h1, rfl⟩ := h
    subst e
    exact .tup t (shSL_at s hb ds xs ps q h1)
  | .lst ds, v, p, r, h => by
    unfold Rp at r
    obtain ⟨a, xs, e, t, off, q⟩ := r
    simp only [shS, Option.map_eq_some_iff] at h
    obtain ⟨ps, h1, rfl⟩ := h
    subst e
    exact .lst (.of t) (fun z e => off.2 (e ▸ (sysB_at s (hb z)).1)) (shSL_at s hb ds xs ps q h1)
  | .dic ks ds, v, p, r, h => by
    unfold Rp at r
    obtain ⟨a, vs, e, t, _, _, q⟩ := r
    simp only [shS, Option.map_eq_some_iff] at h
    obtain ⟨ps, h1, rfl⟩ := h
    subst e
    exact .dic t (RsV.zip (shSL_at s hb ds vs ps q h1))
  | .loc n, v, p, r, h => by
    simp only [shS, Option.map_eq_some_iff, Option.bind_eq_some_iff] at h
    obtain ⟨ps, ⟨ds, h0, h1⟩, rfl⟩ := h
    obtain ⟨a, xs, h3, h4, h5⟩ := cellOf_at s h0
    unfold Rp at r
    have e := r.2 a h3
    subst e
    refine .lst (.inl h4) (fun z e => ?_) (sh0L_at (fun z => ⟨(sysB_at s (hb z)).1, (sysB_at s (hb z)).2.1⟩) ds xs ps h5 h1)
    obtain ⟨_, _, φ, h6, _⟩ := sysB_at s (hb z)
    rcases h4 with h4 | ⟨o, h4⟩
    · rw [e, h6] at h4; cases h4
    · rw [e, h6] at h4; cases h4
  | .ins _ _ _, v, p, r, h => by simp [shS] at h
  | .glo _, v, p, r, h => by simp [shS] at h
  | .exn _, v, p, r, h => by simp [shS] at h
  | .exo _ _ _, v, p, r, h => by simp [shS] at h
  | .fls ds, v, p, r, h => by
    unfold Rp at r
    obtain ⟨a, xs, e, t, q⟩ := r
    simp only [shS, Option.map_eq_some_iff] at h
    obtain ⟨ps, h1, rfl⟩ := h
    subst e
    exact .lst t.sq (fun z e => t.ne (sysB_at s (hb z)).1 (sysB_at s (hb z)).2.1 e) (shSL_at s hb ds xs ps q h1)
theorem shSL_at (s : Sto K mg w S H) (hb : b = true → sysB S = true) : ∀ (ds : List D) (vs : List V) (ps : List PyData), RpL K mg w H ds vs → shSL S ds = some ps → RsL K H b vs ps
  | [], vs, ps, r, h => by unfold RpL at r; simp only [shSL] at h; cases h; subst r; exact .nil
  | d :: ds, vs, ps, r, h => by
    unfold RpL at r
    obtain ⟨v, vs', e, r1, r2⟩ := r
    simp only [shSL, Option.bind_eq_some_iff, Option.map_eq_some_iff] at h
    obtain ⟨a, h1, b', h2, rfl⟩ := h
    subst e
    exact .cons (shS_at s hb d v a r1 h1) (shSL_at s hb ds vs' b' r2 h2)
end
end
def gRepr (ds : List D) (S : Store) : RE D := match ds with
  | [x] => (match shS S x with
    | some p => if okSh (sysB S) p = true then .ok (.str p.shown) S else .no
    | none => .no)
  | _ => .no
theorem repr_v {K : PySem.W.Frag} {mg : Str → Option Value} : CallV K mg (rRepr K) gRepr := by
  intro w S H vs ds Q E s r h
  unfold gRepr at h
  split at h
  · rename_i x
    split at h
    · rename_i p hp
      split at h
      · rename_i ok
        obtain ⟨v, rfl, r1⟩ := r.one_inv
        exact ⟨v, p, sysB S, rfl, shS_at s (fun z => z) x v p r1 hp, ok, h.ret s rp_s⟩
      · exact h.elim
    · exact h.elim
  · exact h.elim
/-! ### str(number) -/
def rStrI : List V → Hp → VK → Prop := fun xs H Q => ∃ i : Int, xs = [.int i] ∧ i.natAbs.log2 < 1920 ∧ Q (.str (toString i)) H
theorem call_strI {X : Cx} : CallR X (.type "str") rStrI := by
  intro pins s σ H xs us Q I r h
  obtain ⟨i, rfl, hz, q⟩ := h
  obtain ⟨u, rfl, t, rfl⟩ := vals1 r
  exact PySem.P.str_of_int hz ⟨.str _, H, I.tok _, ⟨_, rfl⟩, q⟩
def gStr (ds : List D) (S : Store) : RE D := match ds with
  | [.int i] => if i.natAbs.log2 < 1920 then .ok (.str (toString i)) S else .no
  | _ => .no
theorem str_v {K : PySem.W.Frag} {mg : Str → Option Value} : CallV K mg rStrI gStr := by
  intro w S H vs ds Q E s r h
  unfold gStr at h
  split at h
  · split at h
    · rename_i hz
      obtain ⟨v, rfl, r1⟩ := r.one_inv
      exact ⟨_, by rw [rp_int r1], hz, h.ret s rp_s⟩
    · exact h.elim
  · exact h.elim
end Kw

/-! Kw18: rows turned round. -/
namespace Kw
open PySem PySem.Spec PyProof.Rows L2

theorem turned_pick (l : List Value) : ((List.range l.length).filterMap fun (m : Nat) => l.toArray[(((l.length : Int) - 1) + (m : Int) * (-1)).toNat]?) = l.reverse := by
  apply List.ext_getElem?
  intro i
  have key : ∀ (n : Nat), n ≤ l.length → ((List.range n).filterMap fun (m : Nat) => l.toArray[(((l.length : Int) - 1) + (m : Int) * (-1)).toNat]?) = l.reverse.take n := by
    intro n
    induction n with
    | zero => intro _; simp
    | succ n ih =>
      intro hn
      rw [List.range_succ, List.filterMap_append, ih (by omega), List.take_add_one]
      congr 1
      have e1 : (((l.length : Int) - 1) + (n : Int) * (-1)).toNat = l.length - 1 - n := by omega
      have e2 : l.reverse[n]? = some (l[l.length - 1 - n]'(by omega)) := by
        rw [List.getElem?_reverse (by omega), List.getElem?_eq_getElem (by omega)]
      rw [e2]
      simp only [List.filterMap_cons, List.filterMap_nil]
      rw [e1]
      have e3 : l.toArray[l.length - 1 - n]? = some (l[l.length - 1 - n]'(by omega)) := by
        rw [List.getElem?_toArray, List.getElem?_eq_getElem (by omega)]
      rw [e3]; rfl
  rw [key l.length (Nat.le_refl _), List.take_of_length_le (by simp)]
theorem tup_turned {prog : Program} {w : World} {A : Around} {E : Value → Shared → Prop} {s : Shared} {t sl : Addr} {its : List Value} {tk : Tok} {Q : Value → Shared → Prop} (ht : IsTup s.heap t its.toArray) (hs : s.heap.IsSliceOf sl .none .none (.int (-1) tk)) (hz : its.length ≤ sizeLine)
    (h : Q (.ref s.heap.objs.size) { s with heap := s.heap.push { cls := .type "tuple", data := .seq its.reverse.toArray } }) : wpAny (model prog w) A (getItem (.ref t) (.ref sl)) Q E s := by
  have fits : sizeOk (.seq its.reverse.toArray) := by
    show its.reverse.toArray.size ≤ sizeLine
    rw [List.size_toArray, List.length_reverse]; exact hz
  obtain ⟨so, so1, so2, so3⟩ := id hs
  have tyS : s.TypeIs (.ref sl) "slice" := ⟨so, so1, so2⟩
  have bnd : Builtin.Slice.sliceAdjust none none (-1) (its.toArray.size : Int) = ((its.length : Int) - 1, -1) := by
    rw [List.size_toArray]; rfl
  have plc : Builtin.Slice.slicePlaces ((its.length : Int) - 1) (-1) (-1) = its.length := by
    unfold Builtin.Slice.slicePlaces
    have h0 : ¬ ((-1 : Int) > 0) := by decide
    simp only [h0, if_false]
    split
    · have e : ((its.length : Int) - 1 - -1 - 1) / (- -1) + 1 = (its.length : Int) := by
        rw [show (- -1 : Int) = 1 by decide, Int.ediv_one]; omega
      rw [e]; simp
    · have : its.length = 0 := by omega
      rw [this]; rfl
  unfold getItem
  try with_reducible refine wpAny_holding ?_
  first | refine wpAny_bind (wpAny_pure ?_) | skip
  refine wpAny_bind (wpAny_sequenceKey ht.typeIs (by decide) (wpAny_bind (wpAny_callSpecial?_slot (name := Str.ofString "__getitem__") ht.typeIs PyProof.Rows.slot_tuple_getitem (wpAny_call_entry PyProof.Rows.slot_tuple_getitem ht.typeIs entry_tuple_getitem ?_ (args_tuple_getitem _ _)))))
  show wpAny _ _ (Builtin.Tuple.tupleItemsOf (.ref t) >>= _) _ _ s
  refine wpAny_bind (tupleItemsOf_ ht (wpAny_bind (wpAny_typeOf tyS ?_)))
  rw [if_pos (by decide)]
  refine wpAny_bind ?_
  unfold Builtin.Slice.sliceApplied Builtin.Slice.sliceFields
  refine wpAny_bind (wpAny_bind (wpAny_field so1 so3 (x := .none) rfl (wpAny_bind (wpAny_field so1 so3 (x := .none) rfl (wpAny_bind (wpAny_field so1 so3 (x := .int (-1) tk) rfl (wpAny_pure (wpAny_bind (slicePart_int ?_)))))))))
  show wpAny _ _ (if ((-1 : Int) == 0) = true then _ else _) _ _ s
  rw [if_neg (by decide)]
  refine wpAny_bind (slicePart_none (wpAny_bind (slicePart_none (wpAny_bind (wpAny_pure ?_)))))
  show wpAny _ _ (match Builtin.Slice.sliceAdjust none none (-1) (its.toArray.size : Int) with | (lo, hi) => pure (lo, (-1 : Int), Builtin.Slice.slicePlaces lo hi (-1))) _ _ s
  rw [bnd]
  show wpAny _ _ (pure ((its.length : Int) - 1, (-1 : Int), Builtin.Slice.slicePlaces ((its.length : Int) - 1) (-1) (-1))) _ _ s
  rw [plc]
  refine wpAny_pure ?_
  have no : ¬ (((((its.length : Int) - 1)) == 0 && (-1 : Int) == 1 && its.length == its.toArray.size) = true) := by simp
  show wpAny _ _ (if ((((its.length : Int) - 1)) == 0 && (-1 : Int) == 1 && its.length == its.toArray.size) = true then _ else _) _ _ s
  rw [if_neg no, turned_pick]
  first
    | exact wpAny_bind (m := Builtin.Tuple.tupleExact _) (wpAny_newObj_type (wpAny_pure ⟨_, rfl, wpAny_pure h⟩) fits)
    | exact wpAny_bind (m := Builtin.Tuple.tupleExact _) (wpAny_newObj_type (wpAny_bind (wpAny_pure (wpAny_pure ⟨_, rfl, wpAny_pure h⟩))) fits)
    | exact wpAny_bind (wpAny_bind (m := Builtin.Tuple.tupleExact _) (wpAny_newObj_type (wpAny_pure (wpAny_pure ⟨_, rfl, wpAny_pure h⟩)) fits))
    | exact wpAny_bind (wpAny_bind (m := Builtin.Tuple.tupleExact _) (wpAny_newObj_type (wpAny_pure ⟨_, rfl, wpAny_pure h⟩) fits))
/-- a text, a tuple, a list turned round -/
def gTurn (x : D) (S : Store) : RE D := match x with
  | .str z => if z.length ≤ 16777216 then .ok (.str (revS z)) S else .no
  | .tup ds => .ok (.tup ds.reverse) S
  | x => (match seqL S x with
    | some ds => .ok (.lst ds.reverse) S
    | none => .no)
section
variable {K : PySem.W.Frag} {mg : Str → Option Value} {w : Wd} {H : Hp}
theorem RpL.rev : ∀ {ds : List D} {vs : List V}, RpL K mg w H ds vs → RpL K mg w H ds.reverse vs.reverse
  | [], vs, r => by unfold RpL at r; subst r; simp; exact RpL.nil
  | d :: ds, vs, r => by
    unfold RpL at r
    obtain ⟨v, t, rfl, r1, r2⟩ := r
    rw [List.reverse_cons, List.reverse_cons]
    exact RpL.append (RpL.rev r2) (RpL.one r1)
end
def rTurn (K : PySem.W.Frag) : V → Hp → VK → Prop := fun x H Q => (∃ z, x = .str z ∧ z.length ≤ 16777216 ∧ Q (.str (revS z)) H) ∨ (∃ a xs, x = .ref a ∧ SqT K H a xs ∧ ∀ p, H p = none → Q (.ref p) (upd H p (.tup xs.reverse))) ∨ (∃ a xs, x = .ref a ∧ SqL K H a xs ∧ ∀ p, H p = none → Q (.ref p) (upd H p (.lst xs.reverse)))
section
variable {X : Cx} {W : WX} {e : Expr} {fe : FE}
theorem q_turn {k : Nat} {p1 p2 p3 pos : Pos} (he : PE X e (tF X W fe)) : PE X (.Subscript e (.Slice none none (some (.UnaryOp .USub (.Constant (.int 1) k p1) p2)) p3) pos) (tF X W (f1 gTurn fe)) := by
  refine ⟨fun pins s σ H Q I ⟨w, ρ, S, st, en, h⟩ => Subscript_ (thn (he.run pins s σ H (fun x H1 => rTurn X.K x H1 Q) I ⟨w, ρ, S, st, en, (End.bind (R := fun w H => Rp X.K X.mg w H) h).imp ?_ (fun _ _ _ z => z)⟩) ?_)⟩
  · rintro x H1 ⟨w1, S1, d, e1, s1, r1, h1⟩
    unfold gTurn at h1
    split at h1
    · rename_i z
      split at h1
      · rename_i hz; exact .inl ⟨z, rp_str r1, hz, h1.ret s1 rp_s⟩
      · exact h1.elim
    · obtain ⟨a, xs, rfl, t1, q1⟩ := tup_at r1
      refine .inr (.inl ⟨a, xs, rfl, t1, fun p np => ?_⟩)
      refine h1 w1 _ _ (Ext.new np) (s1.beside np) ?_
      show Rp _ _ _ _ _ _
      unfold Rp
      exact ⟨p, _, rfl, .inl ⟨upd_same, s1.new np⟩, RpL.ext (Ext.new np) _ _ (RpL.rev q1)⟩
    · split at h1
      · rename_i ds hds
        obtain ⟨a, xs, rfl, t1, q1⟩ := seqL_at s1 r1 hds
        exact .inr (.inr ⟨a, xs, rfl, t1, fun p np => newLst s1 (RpL.rev q1) np h1⟩)
      · exact h1.elim
  · rintro v s1 ⟨x, H1, I1, r1, hx⟩
    have hst : PO X (some (.UnaryOp .USub (.Constant (.int 1) k p1) p2)) (tPart (tUn (rU fun i => .int (-i)) (tC (.int 1)))) := po_some (pe_un un_neg pe_int)
    refine wpAny_Slice (thn (po_none.run pins s1 σ H1 (fun o H2 => o = none ∧ H2 = H1) I1 ⟨rfl, rfl⟩) fun vl s2 ⟨l, H2, I2, pl, el, e2⟩ => ?_)
    subst el e2
    refine thn (po_none.run pins s2 σ H2 (fun o H3 => o = none ∧ H3 = H2) I2 ⟨rfl, rfl⟩) fun vu s3 ⟨u, H3, I3, pu, eu, e3⟩ => ?_
    subst eu e3
    refine thn (hst.run pins s3 σ H3 (fun o H4 => o = some (-1) ∧ H4 = H3) I3 ⟨1, rfl, -1, rfl, rfl, rfl⟩) fun vs s4 ⟨o, H4, I4, ps, eo, e4⟩ => ?_
    subst eo e4
    have I5 : Inv X pins σ H4 { s4 with heap := s4.heap.push { cls := .type "slice", data := .fields #[vl, vu, vs] } } := I4.kept (t' := s4.toks) fun b ob q => Heap.get?_push_of_some _ q
    have pl0 := pl
    have pu0 := pu
    have ps0 := ps
    obtain ⟨l, rfl, hl⟩ := IsPart.raw pl
    obtain ⟨u, rfl, hu⟩ := IsPart.raw pu
    obtain ⟨t3, rfl, ht3⟩ := IsPart.raw ps
    obtain rfl : l = none := by cases l <;> simp_all
    obtain rfl : u = none := by cases u <;> simp_all
    obtain ⟨tk, rfl⟩ : ∃ tk, t3 = some (-1, tk) := by
      cases t3 with
      | none => simp at ht3
      | some p => exact ⟨p.2, by simp at ht3; rw [← ht3]⟩
    show wpAny (model X.prog X.w) X.A (subscriptTail e (.Slice none none (some (.UnaryOp .USub (.Constant (.int 1) k p1) p2)) p3) v (.ref s4.heap.objs.size)) (EP X pins σ Q) X.xe { s4 with heap := s4.heap.push { cls := .type "slice", data := .fields #[_, _, _] } }
    rcases hx with ⟨z, rfl, hz, q⟩ | ⟨a, xs, rfl, hq, q⟩ | ⟨a, xs, rfl, hq, q⟩
    · obtain ⟨t, rfl⟩ := r1
      refine tail_any (ops := [.str z t, .ref s4.heap.objs.size]) (typeIs_str _ _ _) (PySem.F.slot_str_getitem.lookup) ?_ (by with_unfolding_all rfl)
      refine wpAny_getItem_str_slice (l := none) (u := none) (st := some (-1, tk)) ⟨_, Heap.get?_push_size _ rfl, rfl, rfl⟩ rfl ?_
      have hl := revS_length z
      refine ⟨?_, .str _, H4, I5.tok _, ⟨_, rfl⟩, q⟩
      show (revS z).length ≤ sizeLine
      rw [sizeLine_eq]; omega
    · obtain rfl : v = Value.ref a := r1
      obtain ⟨its, r, ht, hz⟩ := I5.tuple hq
      refine tail_any (ops := [.ref a, .ref s4.heap.objs.size]) ht.typeIs (PyProof.Rows.slot_tuple_getitem.lookup) ?_ (by with_unfolding_all rfl)
      refine tup_turned ht (Heap.IsSliceOf.new _ _ _ _) (by rw [← r.length]; exact hz) ?_
      refine ⟨.ref _, _, I5.laid (t' := s4.toks) (o := .tup xs.reverse) (fun b ob q => Heap.get?_push_of_some _ q) (Nat.le_refl _) ?_, rfl, q _ (I5.hok.fresh (Nat.le_refl _))⟩
      exact ⟨by rw [List.length_reverse]; exact hz, _, r.reverse, IsTup.new _ _⟩
    · obtain rfl : v = Value.ref a := r1
      obtain ⟨its, r, ht, hz⟩ := I5.list hq
      have hlen := r.length
      refine tail_any (ops := [.ref a, .ref s4.heap.objs.size]) ht.isList.typeIs (PySem.slot_list_getitem.lookup) ?_ (by with_unfolding_all rfl)
      refine wpAny_getItem_list_slice ht.isList (Heap.IsSliceOf.new _ _ _ _) pl0 pu0 ps0 (by decide) ?_ (by rw [List.size_toArray]; omega)
      rw [PySem.W.krv_pick]
      refine ⟨.ref _, _, I5.laid (t' := s4.toks) (o := .lst xs.reverse) (fun b ob q => Heap.get?_push_of_some _ q) (Nat.le_refl _) ?_, rfl, q _ (I5.hok.fresh (Nat.le_refl _))⟩
      exact ⟨by rw [List.length_reverse]; exact hz, _, 0, r.reverse, Heap.get?_push_size _ rfl⟩
end
@[simp] theorem gTurn_tup {ds : List D} {S : Store} : gTurn (.tup ds) S = .ok (.tup ds.reverse) S := rfl
end Kw

/-! Kw19: own defs called by names alone; list(range(n)). -/
namespace Kw
open PySem PySem.Spec PyProof.Rows L2

/-- the values ws, written by names in an order of their own, in the parameters' order -/
def perm {α : Type} (d : α) (π : List Nat) (ws : List α) : List α := π.map fun i => ws.getD i d
def fnK (π : List Nat) (f : FF) : FF := fun ds S => f (perm .non π ds) S
/-- the def x binds names so -/
def TK (K : PySem.W.Frag) (mg : Str → Option Value) (x : Str) (ks : List Str) (π : List Nat) : Prop :=
  ∃ f oc od fd osl, mg x = some (.ref f) ∧ K.lookup f = some ⟨oc, od, .func fd, osl⟩ ∧ (∀ i ∈ π, i < ks.length) ∧ ∀ ws : List Value, ws.length = ks.length → bindArgs fd ⟨[], ks.zip ws⟩ = pure ((fd.params.args.map (·.arg)).zip (perm .none π ws))
theorem tk_mk {K : PySem.W.Frag} {mg : Str → Option Value} {h : Heap} {x : Str} {st : Stmt} {ks : List Str} {π : List Nat} {f : Addr} {oc : Value} {od an : Option Addr} {osl : Array (Option Value)} {kV doc pm cdv ct : Value} (X : K.In h) (G : h.Ns mainGlobals mg) (a : PySem.W.nsIn K mainGlobals x = some (some (.ref f)))
    (l : K.lookup f = some ⟨oc, od, .func (PySem.W.fnOf x x (defArgs st) (defBody st) (defScope st) .none kV doc pm an cdv ct), osl⟩) (hi : ∀ i ∈ π, i < ks.length)
    (hb : ∀ (kV doc pm : Value) (an : Option Addr) (cdv ct : Value) (ws : List Value), ws.length = ks.length → bindArgs (PySem.W.fnOf x x (defArgs st) (defBody st) (defScope st) .none kV doc pm an cdv ct) ⟨[], ks.zip ws⟩ = pure (((defArgs st).args.map (·.arg)).zip (perm .none π ws))) : TK K mg x ks π :=
  ⟨f, oc, od, _, osl, PySem.W.mg_of X G a, l, hi, hb kV doc pm an cdv ct⟩
theorem vals_perm {vs : List V} {us : List Value} (r : Vals vs us) : ∀ {π : List Nat}, (∀ i ∈ π, i < vs.length) → Vals (perm .non π vs) (perm .none π us)
  | [], _ => .nil
  | i :: π, h => by
    have hi : i < vs.length := h i List.mem_cons_self
    have e1 : vs[i]? = some vs[i] := List.getElem?_eq_getElem hi
    obtain ⟨u, hu, ru⟩ := r.get e1
    have t := vals_perm r (π := π) fun j hj => h j (List.mem_cons_of_mem _ hj)
    show Vals (vs.getD i .non :: perm .non π vs) (us.getD i .none :: perm .none π us)
    rw [List.getD_eq_getElem?_getD, List.getD_eq_getElem?_getD, e1, hu]
    exact .cons ru t
theorem RpL.perm {K : PySem.W.Frag} {mg : Str → Option Value} {w : Wd} {H : Hp} {ds : List D} {vs : List V} (r : RpL K mg w H ds vs) : ∀ {π : List Nat}, (∀ i ∈ π, i < ds.length) → RpL K mg w H (perm .non π ds) (perm .non π vs)
  | [], _ => RpL.nil
  | i :: π, h => by
    have hi : i < ds.length := h i List.mem_cons_self
    have e1 : ds[i]? = some ds[i] := List.getElem?_eq_getElem hi
    obtain ⟨u, hu, ru⟩ := r.get e1
    have t := RpL.perm r (π := π) fun j hj => h j (List.mem_cons_of_mem _ hj)
    show RpL K mg w H (ds.getD i .non :: Kw.perm .non π ds) (vs.getD i .non :: Kw.perm .non π vs)
    rw [List.getD_eq_getElem?_getD, List.getD_eq_getElem?_getD, e1, hu]
    exact RpL.cons ru t
section
variable {X : Cx} {W : WX} {pos : Pos} {k : Nat} {x : Str} {f : FF} {p : Pos} {kws : List Keyword} {fs : FA} {ks : List Str} {π : List Nat} {nm : Option Str} {e : Expr} {kpos : Pos} {fe : FE}
theorem q_knil : PK X [] (tA X W fNil) := ⟨fun pos pins s σ H Q I ⟨w, ρ, S, st, en, h⟩ => pk_nil.run pos pins s σ H Q I (h.ret st RpL.nil)⟩
theorem q_kcons (ha : PE X e (tF X W fe)) (hr : PK X kws (tA X W fs)) : PK X (⟨nm, e, kpos⟩ :: kws) (tA X W (fCons fe fs)) := by
  refine ⟨fun pos pins s σ H Q I ⟨w, ρ, S, st, en, h⟩ => (pk_cons (nm := nm) (kpos := kpos) ha hr).run pos pins s σ H Q I ?_⟩
  refine ⟨w, ρ, S, st, en, (End.bind (R := fun w H => Rp X.K X.mg w H) h).imp ?_ (fun _ _ _ z => z)⟩
  rintro v H1 ⟨w1, S1, d, e1, s1, r1, h1⟩
  refine ⟨w1, ρ, S1, s1, en.ext e1, (End.bind (R := fun w H => RpL X.K X.mg w H) h1).imp ?_ (fun _ _ _ z => z)⟩
  rintro vs H2 ⟨w2, S2, ds, e2, s2, r2, h2⟩
  exact h2.ret s2 (RpL.cons (Rp.ext e2 _ _ r1) r2)
theorem q_callK (C : Cal X.prog X.w X.K X.mg X.base k x f) (B : TK X.K X.mg x ks π) (hr : RoomG k X.A) (tk : Takes X W) (hg : Gl X x) (ha : PK X kws (tA X W fs)) (hdb : (x == ("__debug__" : Str)) = false := by decide)
    (hall : (backToKw pos (keywordEach kws X.env)).all (·.1.isSome) = true := by rfl) (hks : (backToKw pos (keywordEach kws X.env)).filterMap (·.1) = ks := by rfl)
    (hpl : ((backTo pos (starEach [] X.env)).any (·.1) || (backToKw pos (keywordEach kws X.env)).any (·.1.isNone)) = false := by rfl) : PE X (.Call (.Name x p) [] kws pos) (tF X W (fArg (fun ds S => if ds.length = ks.length then fnK π f ds S else .no) fs)) := by
  obtain ⟨a, fd, ps, F, hm, hk, hb, ar, hps, oc, od, osl, lk⟩ := C
  obtain ⟨a', oc', od', fd', osl', hm', lk', hi, bd⟩ := B
  rw [hm] at hm'; cases hm'
  rw [lk] at lk'; cases lk'
  refine ⟨fun pins s σ H Q I ⟨w, ρ, S, s0, en, h⟩ => wpAny_Call_Name_kw (ld_glob I hg hm ?_ hdb)⟩
  refine PySem.W.callWith_KW0 (h₀ := X.base) I.ok.mod.kin hk hall (thn (ha.run pos pins s σ H (fun vs H1 => vs.length = ks.length ∧ spF X.K X.mg ps.length f (perm .non π vs) H1 Q (WE W σ)) I
    ⟨w, ρ, S, s0, en, (End.bind (R := fun w H => RpL X.K X.mg w H) h).imp ?_ (fun _ _ _ z => z)⟩) fun us s1 ⟨vs, H1, I1, r, ql, q⟩ => ⟨I1.kIn, ?_⟩) hpl
  · rintro vs H1 ⟨w1, S1, ds, e1, s1, r1, h1⟩
    split at h1
    · rename_i hd
      refine ⟨by rw [← r1.length]; exact hd, w1, S1, perm .non π ds, s1, RpL.perm r1 (fun i hi' => by rw [hd]; exact hi i hi'), ?_, h1⟩
      apply Classical.byContradiction
      intro hn
      have : fnK π f ds S1 = .no := ar _ S1 hn
      rw [this] at h1
      exact h1
    · exact h1.elim
  · rw [hks]
    have rp := vals_perm r (π := π) (fun i hi' => by rw [ql]; exact hi i hi')
    have bd' := bd us (by rw [← r.length]; exact ql)
    have hl' : (perm .non π vs).length = ps.length := F.size _ _ _ _ q
    rw [← hps] at bd'
    refine wpAny_call (codeAny_mono (F.runs X.A X.stack s1 H1 ⟨[], ks.zip us⟩ (perm .none π us) (perm .non π vs) Q (WE W σ) hr I1.env0 (.of_eq bd') rp q) fun res s' hq => ?_)
    match res, hq with
    | .error e, hq => exact passAt tk σ pins H1 s1 e s' I1 hq
    | .ok (.ret u), hq => exact I1.after hq
    | .ok .next, hq => exact hq.elim
    | .ok .brk, hq => exact hq.elim
    | .ok .cont, hq => exact hq.elim
end
end Kw

/-! Kw20: comprehensions of two sources; list(range(n)). -/
namespace Kw
open PySem PySem.Spec PyProof.Rows L2
/-- the outer loop: F is what one of its items adds -/
noncomputable def compO (g : FG) (F : FEnv → List D → Store → RE (List D)) (gu : Option (Nat × List D)) (ρ : FEnv) : List D → List D → Store → RE (List D)
  | [], acc, S => gchk gu S (.ok acc S) .no
  | d :: r, acc, S => gchk gu S (match g d ρ S with
    | some (ρ1, S1) => (match F ρ1 acc S1 with
      | .ok acc2 S2 => compO g F gu ρ r acc2 S2
      | _ => .no)
    | none => .no) .no
noncomputable def inL (fi1 : FI) (g1 : FG) (te : FE) (vs1 : List Nat) : FEnv → List D → Store → RE (List D) := fun ρ1 acc S => match fi1 ρ1 S with
  | .ok p S1 => compL g1 fYes te p.2 (wipeR ρ1 vs1) p.1 acc S1
  | _ => .no
noncomputable def fLc2 (fi : FI) (g : FG) (fi1 : FI) (g1 : FG) (te : FE) (vs vs1 : List Nat) : FE := fun ρ S => (fi ρ S).bnd fun p S1 => match compO g (inL fi1 g1 te vs1) p.2 (wipeR ρ vs) p.1 [] S1 with
  | .ok acc S2 => .ok (.lst acc) S2
  | _ => .no
section
variable {X : Cx} {W : WX} {fi fi1 : FI} {g g1 : FG} {sl sl1 : List Nat} {te : FE}
theorem lc2_core' {σ : L2.St} {H : Hp} {Q : VK} {vs vs1 : List Nat} (hsl : ∀ i ∈ sl, i ∈ vs) (hsl1 : ∀ i ∈ sl1, i ∈ vs1) (h : tF X W (fLc2 fi g fi1 g1 te vs vs1) σ H Q) :
    tLc2 (tI X W fi) (tG X sl g) (tT X W0 fYes) (tI X W0 fi1) (tG X sl1 g1) (tT X W0 fYes) (tF X W0 te) vs vs1 σ H Q := by
  obtain ⟨w, ρ, S, s, en, h⟩ := h
  refine ⟨w, ρ, S, s, en, (End.bind (R := ItOk X.K X.mg) h).imp ?_ (fun _ _ _ z => z)⟩
  rintro J H1 ⟨w1, S1, ⟨items, gu⟩, e1, s1, J1, h1⟩ C hC
  have enw : EnvR X.K X.mg w1 H1 (wipeR ρ vs) (wipe σ vs) := (en.ext e1).wipe vs
  let fin : RE (List D) → RE D := fun r => match r with
    | .ok acc S2 => .ok (.lst acc) S2
    | _ => .no
  have h1' : End X.K X.mg (fun w H => Rp X.K X.mg w H) w1 H1 (fin (compO g (inL fi1 g1 te vs1) gu (wipeR ρ vs) items [] S1)) Q (fun c od H' => W c od σ H') := h1
  let G : Hp → List D → Store → RE (List D) → Prop := fun H' acc S' r => ∃ w' xs, ExtD C w1 H1 w' H' ∧ Sto X.K X.mg w' S' H' ∧ H' C = some (.lst xs) ∧ RpL X.K X.mg w' H' acc xs ∧ ∃ r0, fin r = r0 ∧ End X.K X.mg (fun w H => Rp X.K X.mg w H) w1 H1 r0 Q (fun c od H' => W c od σ H')
  refine ⟨fun i m H' => ∃ acc S', i + m = items.length ∧ G H' acc S' (compO g (inL fi1 g1 te vs1) gu (wipeR ρ vs) (items.drop i) acc S'), ⟨items.length, [], S1, by omega, ⟨w1.φ, C :: w1.hd⟩, [], ExtD.begin_ hC, s1.mvd hC, upd_same, RpL.nil, _, rfl, h1'⟩, ?_⟩
  rintro i m H' ⟨acc, S', hm, w', xs, ed, s', hx, ra, r0, hr0, he⟩
  have no_end : ∀ {r : RE D}, r = .no → End X.K X.mg (fun w H => Rp X.K X.mg w H) w1 H1 r Q (fun c od H' => W c od σ H') → False := fun e h => by rw [e] at h; exact h
  cases hd : items.drop i with
  | nil =>
    rw [hd] at hr0
    unfold compO at hr0
    unfold gchk at hr0
    split at hr0
    · rename_i gd1
      have hl : items.length ≤ i := List.drop_eq_nil_iff.mp hd
      refine .inl ⟨(J1 w' S' H' ed.mv s' gd1).1 i hl, ?_⟩
      have hCin : C ∈ w'.hd := by rw [ed.hd]; exact List.mem_cons_self
      have hout : some C ∉ w'.φ := (s'.ap C hCin).2
      have hnh : C ∉ w1.hd := fun z => (s1.ap C z).1 hC
      have ra3 := RpL.mv (Mv.show (H := H') ed.hd) _ _ ra
      subst hr0
      refine he ⟨w'.φ, w1.hd⟩ H' (.ref C) ed.done (s'.show ed.hd ⟨_, hx⟩) ?_
      show Rp _ _ _ _ _ _
      unfold Rp
      exact ⟨C, xs, rfl, hx, ⟨hout, hnh⟩, ra3⟩
    · exact (no_end hr0.symm he).elim
  | cons d r =>
    rw [hd] at hr0
    unfold compO at hr0
    unfold gchk at hr0
    split at hr0
    · rename_i gd1
      have hi' : items[i]? = some d := by
        have := congrArg (·[0]?) hd
        simpa using this
      have hr : items.drop (i + 1) = r := by
        have := congrArg List.tail hd
        simpa using this
      have hlt : i < items.length := (List.getElem?_eq_some_iff.mp hi').1
      obtain ⟨j1, j2⟩ := (J1 w' S' H' ed.mv s' gd1).2 i d hi'
      refine .inr ⟨j1, fun H2 => ∃ acc2 S2, G H2 acc2 S2 (compO g (inL fi1 g1 te vs1) gu (wipeR ρ vs) r acc2 S2), fun H2 ⟨acc2, S2, z⟩ => ⟨m - 1, by omega, acc2, S2, by omega, by rw [hr]; exact z⟩, ?_⟩
      intro x H'' hy
      obtain ⟨j3, j4, j5⟩ := j2 x H'' hy
      have enw' : EnvR X.K X.mg w' H'' (wipeR ρ vs) (wipe σ vs) := (enw.mv ed.mv).ext j3
      refine ⟨w', wipeR ρ vs, S', d, j4, enw', j5, ?_⟩
      split at hr0
      · rename_i ρ1 S1' hg1
        rw [hg1]
        intro w2 H2 σ2 e2 s2 en2 k2 l2
        have hw : wipe σ2 vs = wipe σ vs := by
          rw [← wipe_wipe σ vs]
          exact wipe_eq l2 fun i hi => k2 i (fun z => hi (hsl i z))
        refine ⟨hw, w2, ρ1, S1', s2, en2, ?_⟩
        have ed2 : ExtD C w1 H1 w2 H2 := (ed.step j3).step e2
        intro w3 H3 b e3 s3 hb
        cases hb
        rw [if_pos rfl]
        have en3 := en2.ext e3
        refine ⟨w3, ρ1, S1', s3, en3, ?_⟩
        have exx3 : Ext w' H' w3 H3 := (j3.trans e2).trans e3
        have hCin' : C ∈ w'.hd := by rw [ed.hd]; exact List.mem_cons_self
        have hx3 : H3 C = some (.lst xs) := exx3.fr C _ hx (s'.ap C hCin').2
        have ra3 := RpL.ext exx3 _ _ ra
        have ed3 : ExtD C w1 H1 w3 H3 := ed2.step e3
        split at hr0
        · rename_i acc2 S2' hin
          unfold inL at hin
          split at hin
          · rename_i p S3 hfi
            obtain ⟨items1, gu1⟩ := p
            rw [hfi]
            intro w4 H4 J' e4 s4 JO
            have en4 : EnvR X.K X.mg w4 H4 (wipeR ρ1 vs1) (wipe σ2 vs1) := (en3.ext e4).wipe vs1
            have hC3 : C ∈ w3.hd := by rw [ed3.hd]; exact List.mem_cons_self
            have hx4 : H4 C = some (.lst xs) := e4.fr C _ hx3 (s3.ap C hC3).2
            have ra4 := RpL.ext e4 _ _ ra3
            have ed4 : ExtD C w1 H1 w4 H4 := ed3.step e4
            -- the inner loop
            let G1 : Hp → List D → Store → RE (List D) → Prop := fun H' acc S' r1 => ∃ w' xs, ExtD C w1 H1 w' H' ∧ Mv w4 H4 w' H' ∧ Sto X.K X.mg w' S' H' ∧ H' C = some (.lst xs) ∧ RpL X.K X.mg w' H' acc xs ∧ r1 = .ok acc2 S2'
            refine ⟨fun j k H' => ∃ acc S', j + k = items1.length ∧ G1 H' acc S' (compL g1 fYes te gu1 (wipeR ρ1 vs1) (items1.drop j) acc S'), ⟨items1.length, acc, S3, by omega, w4, xs, ed4, Mv.refl, s4, hx4, ra4, hin⟩, ?_⟩
            rintro j k H5 ⟨acc5, S5, hk, w5, xs5, ed5, mv5, s5, hx5, ra5, hr5⟩
            cases hd5 : items1.drop j with
            | nil =>
              rw [hd5] at hr5
              unfold compL at hr5
              unfold gchk at hr5
              split at hr5
              · rename_i gd5
                have hl5 : items1.length ≤ j := List.drop_eq_nil_iff.mp hd5
                cases hr5
                exact .inl ⟨(JO w5 _ H5 mv5 s5 gd5).1 j hl5, _, _, w5, xs5, ed5, s5, hx5, ra5, _, hr0, he⟩
              · cases hr5
            | cons d5 r5 =>
              rw [hd5] at hr5
              unfold compL at hr5
              unfold gchk at hr5
              split at hr5
              · rename_i gd5
                have hi5 : items1[j]? = some d5 := by
                  have := congrArg (·[0]?) hd5
                  simpa using this
                have hr6 : items1.drop (j + 1) = r5 := by
                  have := congrArg List.tail hd5
                  simpa using this
                have hlt5 : j < items1.length := (List.getElem?_eq_some_iff.mp hi5).1
                obtain ⟨q1, q2⟩ := (JO w5 S5 H5 mv5 s5 gd5).2 j d5 hi5
                refine .inr ⟨q1, fun H2 => ∃ acc2 S2, G1 H2 acc2 S2 (compL g1 fYes te gu1 (wipeR ρ1 vs1) r5 acc2 S2), fun H2 ⟨acc2, S2, z⟩ => ⟨k - 1, by omega, acc2, S2, by omega, by rw [hr6]; exact z⟩, ?_⟩
                intro x5 H6 hy5
                obtain ⟨j6, j7, j8⟩ := q2 x5 H6 hy5
                have en6 : EnvR X.K X.mg w5 H6 (wipeR ρ1 vs1) (wipe σ2 vs1) := (en4.mv mv5).ext j6
                refine ⟨w5, wipeR ρ1 vs1, S5, d5, j7, en6, j8, ?_⟩
                split at hr5
                · rename_i ρ6 S6 hg6
                  rw [hg6]
                  intro w7 H7 σ7 e7 s7 en7 k7 l7
                  have hw7 : wipe σ7 vs1 = wipe σ2 vs1 := by
                    rw [← wipe_wipe σ2 vs1]
                    exact wipe_eq l7 fun i hi => k7 i (fun z => hi (hsl1 i z))
                  refine ⟨hw7, w7, ρ6, S6, s7, en7, ?_⟩
                  intro w8 H8 b8 e8 s8 hb8
                  cases hb8
                  rw [if_pos rfl]
                  refine ⟨w8, ρ6, S6, s8, en7.ext e8, ?_⟩
                  have hyes : fYes ρ6 S6 = .ok true S6 := rfl
                  rw [hyes] at hr5
                  simp only at hr5
                  split at hr5
                  · rename_i y S9 hy9
                    rw [hy9]
                    intro w9 H9 u e9 s9 r9
                    have exx : Ext w5 H5 w9 H9 := ((j6.trans e7).trans e8).trans e9
                    have ed9 : ExtD C w1 H1 w9 H9 := ed5.step exx
                    have hC5 : C ∈ w5.hd := by rw [ed5.hd]; exact List.mem_cons_self
                    have hC9 : C ∈ w9.hd := by rw [ed9.hd]; exact List.mem_cons_self
                    have hx9 : H9 C = some (.lst xs5) := exx.fr C _ hx5 (s5.ap C hC5).2
                    have ra9 := RpL.ext exx _ _ ra5
                    split at hr5
                    · rename_i hlen
                      refine ⟨xs5, hx9, by rw [← ra5.length]; exact hlen, acc5 ++ [y], S9, w9, xs5 ++ [u], ed9.poke, (mv5.trans exx.mv).trans (Mv.poke hC9), s9.poke hC9 ⟨_, hx9⟩, upd_same, ?_, hr5⟩
                      exact (RpL.mv (Mv.poke hC9) _ _ ra9).append (RpL.one (Rp.mv (Mv.poke hC9) _ _ r9))
                    · cases hr5
                  · cases hr5
                · cases hr5
              · cases hr5
          · cases hin
        · exact (no_end hr0.symm he).elim
      · exact (no_end hr0.symm he).elim
    · exact (no_end hr0.symm he).elim
theorem q_lc2 {elt tg iter tg1 iter1 : Expr} {scope : Scope} {own : List (Str × Nat)} {vs1 : List Nat} {pos : Pos} (hc : X.calm = true) (hN : X.N.Nodup) (hi : PI X tg iter (tI X W fi)) (ok : BlkOk X.N X.env.scope scope own) (hv : ∀ i ∈ vs1, i ∈ own.map (·.2)) (hsl : ∀ i ∈ sl, i ∈ own.map (·.2)) (hsl1 : ∀ i ∈ sl1, i ∈ vs1)
    (hg : ∀ (s : Shared) (H : Hp) (C : Addr) (cl : List (Str × Addr)) (fp : List Addr), PG (X.blk s H scope (compEnvC scope cl C X.env) fp) tg (tG (X.blk s H scope (compEnvC scope cl C X.env) fp) sl g))
    (hi1 : ∀ (s : Shared) (H : Hp) (C : Addr) (cl : List (Str × Addr)) (fp : List Addr), PI (X.blk s H scope (compEnvC scope cl C X.env) fp) tg1 iter1 (tI (X.blk s H scope (compEnvC scope cl C X.env) fp) W0 fi1))
    (hg1 : ∀ (s : Shared) (H : Hp) (C : Addr) (cl : List (Str × Addr)) (fp : List Addr), PG (X.blk s H scope (compEnvC scope cl C X.env) fp) tg1 (tG (X.blk s H scope (compEnvC scope cl C X.env) fp) sl1 g1))
    (he : ∀ (s : Shared) (H : Hp) (C : Addr) (cl : List (Str × Addr)) (fp : List Addr), PE (X.blk s H scope (compEnvC scope cl C X.env) fp) elt (tF (X.blk s H scope (compEnvC scope cl C X.env) fp) W0 te))
    (hs : ∀ x, foldedSetIterable iter X.env x = pure x := by intro _; rfl) (hs1 : ∀ env x, foldedSetIterable iter1 env x = pure x := by intro _ _; rfl) :
    PE X (.ListComp elt [⟨tg, iter, [], 0⟩, ⟨tg1, iter1, [], 0⟩] scope pos) (tF X W (fLc2 fi g fi1 g1 te (own.map (·.2)) vs1)) :=
  PE.wk (pe_lc2 (g := tG X sl g) (tt := tT X W0 fYes) (wi1 := tI X W0 fi1) (g1 := tG X sl1 g1) (tt1 := tT X W0 fYes) (te := tF X W0 te) hc hN hi ok hv hg (fun _ _ _ _ _ => qts_nil) hi1 hg1 (fun _ _ _ _ _ => qts_nil) he hs hs1) fun σ H Q h => lc2_core' hsl hsl1 h
theorem q_setLc2 {elt tg iter tg1 iter1 : Expr} {scope : Scope} {own : List (Str × Nat)} {vs1 : List Nat} {i : Nat} {y : Str} {py pos spos : Pos} (hc : X.calm = true) (hN : X.N.Nodup) (hy : X.N[i]? = some y) (hyl : X.env.scope.names.lookup y = some .local)
    (hsw : swapsWith (.ListComp elt [⟨tg, iter, [], 0⟩, ⟨tg1, iter1, [], 0⟩] scope pos) (some (.Name y py)) spos.line X.env = pure true) (hi : PI X tg iter (tI X W fi)) (ok : BlkOk X.N X.env.scope scope own) (hv : ∀ i ∈ vs1, i ∈ own.map (·.2)) (hsl : ∀ i ∈ sl, i ∈ own.map (·.2)) (hsl1 : ∀ i ∈ sl1, i ∈ vs1)
    (hg : ∀ (s : Shared) (H : Hp) (C : Addr) (cl : List (Str × Addr)) (fp : List Addr), PG (X.blk s H scope (compEnvC scope cl C X.env) fp) tg (tG (X.blk s H scope (compEnvC scope cl C X.env) fp) sl g))
    (hi1 : ∀ (s : Shared) (H : Hp) (C : Addr) (cl : List (Str × Addr)) (fp : List Addr), PI (X.blk s H scope (compEnvC scope cl C X.env) fp) tg1 iter1 (tI (X.blk s H scope (compEnvC scope cl C X.env) fp) W0 fi1))
    (hg1 : ∀ (s : Shared) (H : Hp) (C : Addr) (cl : List (Str × Addr)) (fp : List Addr), PG (X.blk s H scope (compEnvC scope cl C X.env) fp) tg1 (tG (X.blk s H scope (compEnvC scope cl C X.env) fp) sl1 g1))
    (he : ∀ (s : Shared) (H : Hp) (C : Addr) (cl : List (Str × Addr)) (fp : List Addr), PE (X.blk s H scope (compEnvC scope cl C X.env) fp) elt (tF (X.blk s H scope (compEnvC scope cl C X.env) fp) W0 te))
    (hs : ∀ x, foldedSetIterable iter X.env x = pure x := by intro _; rfl) (hs1 : ∀ env x, foldedSetIterable iter1 env x = pure x := by intro _ _; rfl) :
    PS X (.Assign [.Name y py] (.ListComp elt [⟨tg, iter, [], 0⟩, ⟨tg1, iter1, [], 0⟩] scope pos) spos) (tS X W (sSet i (fLc2 fi g fi1 g1 te (own.map (·.2)) vs1))) :=
  PS.wk (ps_setLc2 (g := tG X sl g) (tt := tT X W0 fYes) (wi1 := tI X W0 fi1) (g1 := tG X sl1 g1) (tt1 := tT X W0 fYes) (te := tF X W0 te) hc hN hy hyl hsw hi ok hv hg (fun _ _ _ _ _ => qts_nil) hi1 hg1 (fun _ _ _ _ _ => qts_nil) he hs hs1) fun D σ H ⟨w, ρ, S, s, en, h⟩ => by
    refine lc2_core' (Q := fun x H1 => gName i x σ H1 D.nx) hsl hsl1 ⟨w, ρ, S, s, en, (h.of (R := fun w H => Rp X.K X.mg w H) en).imp (fun v H1 ⟨w1, S1, d, e1, s1, r1, h1⟩ => h1.nx' s1 ((en.ext e1).set r1)) (fun _ _ _ z => z)⟩
end
/-! ### list(range(n)) -/
theorem rgV_ints (n : Int) : rgV 0 n = ((List.range n.toNat).map fun (i : Nat) => ((i : Nat) : Int)).map V.int := by
  unfold rgV
  rw [List.map_map, Int.sub_zero]
  apply List.map_congr_left
  intro i _
  simp
def gRng (x : D) (S : Store) : RE D := match x with
  | .int n => if 0 ≤ n ∧ n ≤ 16777216 then .ok (.lst (((List.range n.toNat).map fun (i : Nat) => ((i : Nat) : Int)).map D.int)) S else .no
  | _ => .no
theorem q_listRg {X : Cx} {W : WX} {e : Expr} {fe : FE} {p p' pos pos' : Pos} (hc : X.calm = true) (hg : Gl X "list") (hm : X.mg "list" = none) (hg' : Gl X "range") (hm' : X.mg "range" = none) (he : PE X e (tF X W fe))
    (na : starEach [.Call (.Name "range" p') [e] [] pos'] X.env = (false, eval (.Call (.Name "range" p') [e] [] pos') X.env) :: starEach [] X.env := by rfl) (na' : starEach [e] X.env = (false, eval e X.env) :: starEach [] X.env := by rfl) :
    PE X (.Call (.Name "list" p) [.Call (.Name "range" p') [e] [] pos'] [] pos) (tF X W (f1 gRng fe)) :=
  PE.wk (pe_listRg hc hg hm (prg_1 hg' hm' he na') na) fun σ H Q ⟨w, ρ, S, s, en, h⟩ => by
    refine ⟨w, ρ, S, s, en, (End.bind (R := fun w H => Rp X.K X.mg w H) h).imp ?_ (fun _ _ _ z => z)⟩
    rintro v H1 ⟨w1, S1, d, e1, s1, r1, h1⟩
    unfold gRng at h1
    split at h1
    · rename_i n
      split at h1
      · rename_i hn
        refine ⟨n, rp_int r1, RgOk.of_le (by omega) (by omega) (by omega) (by omega), fun q hq => ?_⟩
        rw [rgV_ints]
        exact newLst s1 (RpL.ints _) hq h1
      · exact h1.elim
    · exact h1.elim
end Kw

/-! Kw21: sorted of lists of data. -/
namespace Kw
open PySem PySem.Spec PySem.Calls PyProof.Rows L2
/-- xs put in the order of their data -/
noncomputable def sortB {α : Type} (xs : List α) (ps : List PyData) : List α := ((xs.zip ps).mergeSort (PySem.W.dataLe false Prod.snd)).map Prod.fst
theorem zip_snd {α : Type} : ∀ {xs : List α} {ps : List PyData}, xs.length = ps.length → (xs.zip ps).map Prod.snd = ps
  | [], [], _ => rfl
  | [], _ :: _, h => by simp at h
  | _ :: _, [], h => by simp at h
  | x :: xs, p :: ps, h => by
    show p :: (xs.zip ps).map Prod.snd = _
    rw [zip_snd (by simpa using h)]
theorem zip_fst {α : Type} : ∀ {xs : List α} {ps : List PyData}, xs.length = ps.length → (xs.zip ps).map Prod.fst = xs
  | [], [], _ => rfl
  | [], _ :: _, h => by simp at h
  | _ :: _, [], h => by simp at h
  | x :: xs, p :: ps, h => by
    show x :: (xs.zip ps).map Prod.fst = _
    rw [zip_fst (by simpa using h)]
theorem sortB_perm {α : Type} {xs : List α} {ps : List PyData} (h : xs.length = ps.length) : (sortB xs ps).Perm xs := by
  have h1 := (List.mergeSort_perm (xs.zip ps) (PySem.W.dataLe false Prod.snd)).map Prod.fst
  rw [zip_fst h] at h1
  exact h1
theorem sortB_length {α : Type} {xs : List α} {ps : List PyData} (h : xs.length = ps.length) : (sortB xs ps).length = xs.length := (sortB_perm h).length_eq
/-- sorted by what stands for each -/
theorem sortB_map {α β : Type} (f : β → α) (p : β → PyData) (L : List β) : sortB (L.map f) (L.map p) = (L.mergeSort (PySem.W.dataLe false p)).map f := by
  have e : (L.map f).zip (L.map p) = L.map fun x => (f x, p x) := by
    induction L with
    | nil => rfl
    | cons x L ih => simp [ih]
  unfold sortB
  rw [e, ← List.map_mergeSort (f := fun x => (f x, p x)) (r := PySem.W.dataLe false p) (fun a _ b _ => rfl), List.map_map]
  rfl
theorem DpAll.length {K : PySem.W.Frag} {H : Hp} : ∀ {vs : List V} {ds : List PyData}, DpAll K H vs ds → vs.length = ds.length
  | _, _, .nil => rfl
  | _, _, .cons _ t => by simp [DpAll.length t]
def rSortD (K : PySem.W.Frag) : List V → Hp → VK → Prop := fun vs H Q => ∃ (a : Addr) (xs : List V) (ps : List PyData), vs = [V.ref a] ∧ SqL K H a xs ∧ DpAll K H xs ps ∧ PySem.W.AllAlike ps ∧ PySem.W.Sortable ps ∧ PyData.depthAll ps ≤ 190 ∧ ∀ p, H p = none → Q (.ref p) (upd H p (.lst (sortB xs ps)))
theorem depth_mem : ∀ {ps : List PyData} {p : PyData}, p ∈ ps → p.depth ≤ PyData.depthAll ps
  | q :: ps, p, h => by
    simp only [PyData.depthAll]
    rcases List.mem_cons.mp h with rfl | h
    · omega
    · have := depth_mem h; omega
section
variable {X : Cx}
theorem each_vals : ∀ {xs : List V} {us : List Value} {ps : List PyData}, Vals xs us → xs.length = ps.length → PySem.W.EachIs (fun u (b : V × PyData) => RelV b.1 u) us (xs.zip ps)
  | _, _, [], .nil, _ => .nil
  | _, _, _ :: _, .nil, h => by simp at h
  | _, _, [], .cons _ _, h => by simp at h
  | _, _, p :: ps, .cons r t, h => .cons r (each_vals t (by simpa using h))
theorem vals_each : ∀ {bs : List (V × PyData)} {us : List Value}, PySem.W.EachIs (fun u (b : V × PyData) => RelV b.1 u) us bs → Vals (bs.map Prod.fst) us
  | _, _, .nil => .nil
  | _, _, .cons r t => .cons r (vals_each t)
theorem each_reads {h : Heap} : ∀ {xs : List V} {us : List Value} {ps : List PyData} {as : List Addr}, Vals xs us → ReadsAll h us ps as → PySem.W.EachIs (fun u (b : V × PyData) => ∃ as, Reads h u b.2 as) us (xs.zip ps)
  | _, _, _, _, .nil, r => by cases r; exact .nil
  | _, _, _, _, .cons _ t, r => by
    cases r with
    | cons r1 r2 => exact .cons ⟨_, r1⟩ (each_reads t r2)
theorem cr_sortedD (hu : X.A.units + 200 < cLine) : CallR X (.builtin "sorted") (rSortD X.K) := by
  intro pins s σ H vs us Q I r h
  obtain ⟨a, xs, ps, rfl, hs, hd, hal, hso, hdep, q⟩ := h
  obtain ⟨its, rv, hl, hz⟩ := I.list hs
  rw [Vals.ref1 r]
  have el := DpAll.length hd
  obtain ⟨as, ra⟩ := Dp.readsAll I ps xs its hd rv
  have ez := zip_snd el
  refine PySem.W.sorted_data (β := V × PyData) (bs := xs.zip ps) (enc := Prod.snd) (R := fun u b => RelV b.1 u) hl.isList (each_vals rv el) (each_reads rv ra) (by rw [ez]; exact hal) (by rw [ez]; exact hso) (by rw [List.length_zip]; omega) (fun b hb => ?_) fun out h1 h2 => ?_
  · have hm : b.2 ∈ ps := by rw [← ez]; exact List.mem_map.mpr ⟨b, hb, rfl⟩
    have := depth_mem hm
    omega
  · obtain ⟨ep, he'⟩ := PyProof.Rows.sortedAll_at s.heap its out.toArray
    exact ⟨.ref _, upd H (s.heap.objs.size + 1) (.lst (sortB xs ps)), I.laid (t' := s.toks) (fun _ _ => PyProof.Rows.sortedAll_old) (Nat.le_succ _) ⟨by rw [sortB_length el]; exact hz, out, ep, vals_each h2, he'⟩, rfl, q _ (I.hok.fresh (Nat.le_succ _))⟩
open Classical in
noncomputable def gSorted (ds : List D) (S : Store) : RE D := match ds with
  | [x] => (match seqL S x with
    | some ys => (match pySL S ys with
      | some ps => if PySem.W.AllAlike ps ∧ PySem.W.Sortable ps ∧ PyData.depthAll ps ≤ 190 then .ok (.lst (sortB ys ps)) S else .no
      | none => .no)
    | none => .no)
  | _ => .no
theorem pySL_length {S : Store} : ∀ {ds : List D} {ps : List PyData}, pySL S ds = some ps → ds.length = ps.length
  | [], ps, h => by
    have : some [] = some ps := h
    cases this; rfl
  | d :: ds, ps, h => by
    have h' : ((pyS S d).bind fun a => (pySL S ds).map (a :: ·)) = some ps := h
    rw [Option.bind_eq_some_iff] at h'
    obtain ⟨p, _, h2⟩ := h'
    rw [Option.map_eq_some_iff] at h2
    obtain ⟨qs, h3, rfl⟩ := h2
    simp [pySL_length h3]
theorem RpL.of_all {K : PySem.W.Frag} {mg : Str → Option Value} {w : Wd} {H : Hp} : ∀ {L : List (D × V)}, (∀ b ∈ L, Rp K mg w H b.1 b.2) → RpL K mg w H (L.map Prod.fst) (L.map Prod.snd)
  | [], _ => RpL.nil
  | b :: L, h => RpL.cons (h b List.mem_cons_self) (RpL.of_all fun c hc => h c (List.mem_cons_of_mem _ hc))
theorem RpL.zip {K : PySem.W.Frag} {mg : Str → Option Value} {w : Wd} {H : Hp} : ∀ {ds : List D} {vs : List V}, RpL K mg w H ds vs → ∀ b ∈ ds.zip vs, Rp K mg w H b.1 b.2
  | [], vs, h, b, hb => by simp at hb
  | d :: ds, vs, h, b, hb => by
    unfold RpL at h
    obtain ⟨v, r, rfl, h1, h2⟩ := h
    rcases List.mem_cons.mp hb with rfl | hb
    · exact h1
    · exact RpL.zip h2 b hb
theorem RpL.sort {K : PySem.W.Frag} {mg : Str → Option Value} {w : Wd} {H : Hp} {ds : List D} {vs : List V} {ps : List PyData} (h : RpL K mg w H ds vs) (hp : ds.length = ps.length) : RpL K mg w H (sortB ds ps) (sortB vs ps) := by
  have el := h.length
  have z1 : ((ds.zip vs).zip ps).map (fun t => t.1.1) = ds := by
    have e : (fun t : (D × V) × PyData => t.1.1) = Prod.fst ∘ Prod.fst := rfl
    rw [e, ← List.map_map, zip_fst (by rw [List.length_zip]; omega)]
    exact List.map_fst_zip (by omega)
  have z2 : ((ds.zip vs).zip ps).map (fun t => t.1.2) = vs := by
    have e : (fun t : (D × V) × PyData => t.1.2) = Prod.snd ∘ Prod.fst := rfl
    rw [e, ← List.map_map, zip_fst (by rw [List.length_zip]; omega)]
    exact List.map_snd_zip (by omega)
  have z3 : ((ds.zip vs).zip ps).map Prod.snd = ps := zip_snd (by rw [List.length_zip]; omega)
  have s1 := sortB_map (fun t : (D × V) × PyData => t.1.1) Prod.snd ((ds.zip vs).zip ps)
  have s2 := sortB_map (fun t : (D × V) × PyData => t.1.2) Prod.snd ((ds.zip vs).zip ps)
  rw [z1, z3] at s1
  rw [z2, z3] at s2
  rw [s1, s2]
  have key := RpL.of_all (K := K) (mg := mg) (w := w) (H := H) (L := (((ds.zip vs).zip ps).mergeSort (PySem.W.dataLe false Prod.snd)).map Prod.fst) (fun b hb => by
    obtain ⟨t, ht, rfl⟩ := List.mem_map.mp hb
    have hm := (List.mergeSort_perm _ _).mem_iff.mp ht
    exact RpL.zip h _ (List.of_mem_zip (a := t.1) (b := t.2) hm).1)
  rw [List.map_map, List.map_map] at key
  exact key
theorem sorted_v {K : PySem.W.Frag} {mg : Str → Option Value} : CallV K mg (rSortD K) gSorted := by
  intro w S H xs ds Q E s r h
  unfold gSorted at h
  split at h
  · rename_i x
    split at h
    · rename_i ys h1
      split at h
      · rename_i ps h2
        split at h
        · rename_i hc
          obtain ⟨v, rfl, r1⟩ := r.one_inv
          obtain ⟨a, zs, rfl, hs, rl⟩ := seqL_at s r1 h1
          exact ⟨a, zs, ps, rfl, hs, pySL_at s ys zs ps rl h2, hc.1, hc.2.1, hc.2.2, fun p np => newLst s (rl.sort (pySL_length h2)) np h⟩
        · exact h.elim
      · exact h.elim
    · exact h.elim
  · exact h.elim
end
end Kw

/-! Kw22: the ends, with tables of code objects and the modules' table. -/
namespace Kw
open PySem PySem.Spec PySem.Calls PyProof.Rows L2
/-- a code object, its table, the name that the table's code objects bear -/
abbrev Tb := Addr × Addr × Str
def tbP (cs : List Tb) : List Addr := cs.map fun p => p.2.1
/-- the cells at the start -/
def topS0 (cs : List Tb) : Store := .sys :: cs.map fun p => .tab p.2.2
def topW (cs : List Tb) : Wd := ⟨none :: (tbP cs).map some, [sysModules]⟩
structure TopH (K : PySem.W.Frag) (cs : List Tb) (H : Hp) (a : Addr) (ns : List Int) : Prop where
  sysx : ∃ φ, H sysModules = some (.ext φ) ∧ SysQ φ
  look : K.lookup sysModules = none
  tbl : ∀ p ∈ cs, H p.2.1 = some (.tbl #[])
  tin : ∀ p ∈ cs, PySem.W.tabIn K p.2.2 = some (p.1, p.2.1)
  nodup : (tbP cs).Nodup
  scr : SqL K H a (ns.map V.int)
  frz : ∀ o, H a = some o → ∃ u, o = .frz u (.lst (ns.map V.int))
section
variable {K : PySem.W.Frag} {mg : Str → Option Value} {cs : List Tb} {H : Hp} {a : Addr} {ns : List Int}
theorem TopH.sys_ne (t : TopH K cs H a ns) {p : Tb} (hp : p ∈ cs) : p.2.1 ≠ sysModules := fun e => by
  obtain ⟨φ, h, _⟩ := t.sysx
  have := t.tbl p hp
  rw [e, h] at this; cases this
theorem topW_get {n : Nat} {b : Addr} (h : (topW cs).φ[n]? = some (some b)) : ∃ m, n = m + 1 ∧ (tbP cs)[m]? = some b := by
  cases n with
  | zero => cases h
  | succ m =>
    refine ⟨m, rfl, ?_⟩
    have h' : ((tbP cs).map some)[m]? = some (some b) := h
    rw [List.getElem?_map] at h'
    cases e : (tbP cs)[m]? with
    | none => rw [e] at h'; cases h'
    | some c => rw [e] at h'; simpa using h'
theorem top_sto (t : TopH K cs H a ns) : Sto K mg (topW cs) (topS0 cs) H := by
  have nsys : some sysModules ∉ (topW cs).φ := fun z => by
    rcases List.mem_cons.mp (show some sysModules ∈ none :: (tbP cs).map some from z) with z | z
    · cases z
    · obtain ⟨b, hb, e⟩ := List.mem_map.mp z
      cases e
      obtain ⟨p, hp, e⟩ := List.mem_map.mp hb
      exact t.sys_ne hp e
  refine ⟨by simp [topW, topS0, tbP], fun m n b h1 h2 => ?_, fun b hb => ?_, fun n c hc => ?_⟩
  · obtain ⟨i, rfl, hi⟩ := topW_get h1
    obtain ⟨j, rfl, hj⟩ := topW_get h2
    have hil : i < (tbP cs).length := by
      rcases Nat.lt_or_ge i (tbP cs).length with l | l
      · exact l
      · rw [List.getElem?_eq_none l] at hi; cases hi
    have := (List.getElem?_inj hil t.nodup).mp (hi.trans hj.symm)
    omega
  · have e : b = sysModules := by simpa [topW] using hb
    subst e
    obtain ⟨φ, h, _⟩ := t.sysx
    exact ⟨by rw [h]; exact fun z => (nomatch z), nsys⟩
  · cases n with
    | zero =>
      have e : c = .sys := by simpa [topS0] using hc.symm
      subst e
      exact ⟨rfl, List.mem_cons_self, nsys, t.sysx, t.look⟩
    | succ m =>
      have hc' : (cs.map fun p => Cell.tab p.2.2)[m]? = some c := hc
      rw [List.getElem?_map] at hc'
      cases e : cs[m]? with
      | none => rw [e] at hc'; cases hc'
      | some p =>
        rw [e] at hc'
        have e2 : Cell.tab p.2.2 = c := by simpa using hc'
        subst e2
        have hp := List.mem_of_getElem? e
        refine ⟨_, _, t.tin p hp, ?_, #[], t.tbl p hp, trivial, fun pos cv h => ?_⟩
        · show ((tbP cs).map some)[m]? = _
          rw [List.getElem?_map, tbP, List.getElem?_map, e]; rfl
        · have h' : codeAmong pos [] = some cv := h
          simp [codeAmong] at h'
theorem top_script (t : TopH K cs H a ns) : Rp K mg (topW cs) H (.fls (ns.map .int)) (.ref a) := by
  unfold Rp
  refine ⟨a, _, rfl, ?_, RpL.ints ns⟩
  rcases t.scr with (h | ⟨o, h⟩) | h
  · obtain ⟨u, e⟩ := t.frz _ h; cases e
  · refine .inl ⟨o, h, fun z => ?_, fun z => ?_⟩
    · rcases List.mem_cons.mp (show some a ∈ none :: (tbP cs).map some from z) with z | z
      · cases z
      · obtain ⟨b, hb, e⟩ := List.mem_map.mp z
        cases e
        obtain ⟨p, hp, rfl⟩ := List.mem_map.mp hb
        have := t.tbl p hp
        rw [h] at this; cases this
    · have e : a = sysModules := by simpa [topW] using z
      obtain ⟨φ, q, _⟩ := t.sysx
      rw [e, q] at h; cases h
  · exact .inr h
/-- the law's promise, from a heap of that kind; the modules' table stays -/
def spTop (K : PySem.W.Frag) (cs : List Tb) : Sp := fun vs H Q _ => ∃ (a : Addr) (ns : List Int), vs = [.ref a] ∧ ns.length ≤ 63 ∧ (∀ z ∈ ns, Builtin.Int.intBits z ≤ 1048576) ∧ TopH K cs H a ns ∧ ∀ H', (∀ φ, H sysModules = some (.ext φ) → H' sysModules = some (.ext φ)) → Q (.bl true) H'
theorem top_imp {F : FF} (hF : ∀ ns : List Int, ns.length ≤ 63 → (∀ z ∈ ns, Builtin.Int.intBits z ≤ 1048576) → ∃ S', F [.fls (ns.map .int)] (topS0 cs) = .ok (.bl true) S') : ∀ vs H Q E, spTop K cs vs H Q E → spF K mg 1 F vs H Q E := by
  rintro vs H Q E ⟨a, ns, rfl, hl, hb, t, q⟩
  obtain ⟨S', e⟩ := hF ns hl hb
  have st := top_sto (mg := mg) t
  refine ⟨topW cs, topS0 cs, [.fls (ns.map .int)], st, RpL.one (top_script t), rfl, ?_⟩
  rw [e]
  intro w' H' v ex s r
  rw [rp_bl r]
  exact q H' fun φ h => ex.fr _ _ h (st.ap sysModules List.mem_cons_self).2
def topH (K : PySem.W.Frag) (ps : List Addr) (om : Obj) (a : Addr) (vs : List Value) (ns : List Int) : Hp := fun b =>
  if b = sysModules then some (.ext fun h => h.get? sysModules = some om) else if b ∈ ps then some (.tbl #[]) else if b = a ∧ (K.lookup a).isNone = true then some (.frz (scrO vs) (.lst (ns.map V.int))) else none
theorem head_t {P : Program} {w : World} {mb : Str → Option Value} {k : Nat} {fa : Addr} {fd : FuncData} {x : Str} {s : Shared} {vs : List Value} (KX : K.In s.heap) (gm : s.heap.Ns mainGlobals mg) (gb : s.heap.Ns builtinsNs mb)
    (boot : ∀ y : Str, y ≠ "__name__" → mb y = bootBuiltins y) (lim : s.heap.NoLimit) (sy : ∃ mm, s.heap.Ns sysModules mm) (bmn : ∃ bm ob, mg "__builtins__" = some (.ref bm) ∧ bm ≠ builtinsNs ∧ s.heap.get? bm = some ob ∧ ob.cls = .type "module" ∧ ob.dict = some builtinsNs ∧ ob.data = .plain) (ng : s.gens = #[])
    (ha : s.heap.get? a = some (scrO vs)) (hi : IntsAre vs ns) (hl : ns.length ≤ 63) (hz : ∀ z ∈ ns, Builtin.Int.intBits z ≤ 1048576) (hr : RoomG k callerA)
    (kS : K.lookup sysModules = none) (hT : ∀ p ∈ cs, s.heap.get? p.2.1 = some { cls := .none, data := .fields #[] }) (kT : ∀ p ∈ cs, K.lookup p.2.1 = none) (hC : ∀ p ∈ cs, PySem.W.CodeHd s.heap p.1 p.2.1) (nd : (tbP cs).Nodup) (hI : ∀ p ∈ cs, PySem.W.tabIn K p.2.2 = some (p.1, p.2.1))
    (F : ∀ base : Heap, K.In base → base.Ns mainGlobals mg → (∀ p ∈ cs, LamX.TabB base mg p.1 p.2.1) → FnG P w K mg base k fa fd [x] (spTop K cs)) (hbd : ∀ (s : Shared) (u : Value), BindsTo s fd ⟨[u], []⟩ [(x, u)]) (no : ∀ H e s', L2.CX P w [] H s (fun _ _ _ => False) e s' → False) :
    codeAny (model P w) callerA (.call (.ref fa) ⟨[.ref a], []⟩) (fun r s' => r = .ok (.ret (.bool true)) ∧ OldK s.heap s'.heap ∧ s'.os = s.os ∧ AllBare s'.gens) s := by
  obtain ⟨mm, om, es, ep, hom, hod, _⟩ := sy
  have rv := vals_ints hi
  have hsz : ns.length ≤ sizeLine := Nat.le_trans hl (by rw [sizeLine_eq]; decide)
  have hsz' : (ns.map V.int).length ≤ sizeLine := by rw [List.length_map]; exact hsz
  have aS : a ≠ sysModules := fun e => by
    rw [e, hom] at ha
    have := congrArg Obj.data (Option.some.inj ha)
    rw [hod] at this; cases this
  have tS : ∀ p ∈ cs, p.2.1 ≠ sysModules := fun p hp e => by
    have := hT p hp
    rw [e, hom] at this
    have := congrArg Obj.data (Option.some.inj this)
    rw [hod] at this; cases this
  have tA : a ∉ tbP cs := fun z => by
    obtain ⟨p, hp, e⟩ := List.mem_map.mp z
    have := hT p hp
    rw [e, ha] at this
    have := congrArg Obj.data (Option.some.inj this)
    cases this
  have sT : sysModules ∉ tbP cs := fun z => by
    obtain ⟨p, hp, e⟩ := List.mem_map.mp z
    exact tS p hp e
  generalize hH : topH K (tbP cs) om a vs ns = H
  have Hs : H sysModules = some (.ext fun h => h.get? sysModules = some om) := by rw [← hH]; exact if_pos rfl
  have Ht : ∀ b, b ∈ tbP cs → H b = some (.tbl #[]) := fun b hb => by
    rw [← hH]; unfold topH
    have n1 : ¬ b = sysModules := fun z => sT (by rw [← z]; exact hb)
    rw [if_neg n1, if_pos hb]
  have Ho : ∀ b, b ≠ sysModules → b ∉ tbP cs → H b = if b = a ∧ (K.lookup a).isNone = true then some (.frz (scrO vs) (.lst (ns.map V.int))) else none := fun b h1 h2 => by
    rw [← hH]; unfold topH
    rw [if_neg h1, if_neg h2]
  have Hc : ∀ b u, H b = some u → (b = sysModules ∧ u = .ext fun h => h.get? sysModules = some om) ∨ (b ∈ tbP cs ∧ u = .tbl #[]) ∨ (b = a ∧ K.lookup a = none ∧ u = .frz (scrO vs) (.lst (ns.map V.int))) := fun b u e => by
    by_cases h1 : b = sysModules
    · subst h1; rw [Hs] at e; cases e; exact .inl ⟨rfl, rfl⟩
    · by_cases h2 : b ∈ tbP cs
      · rw [Ht b h2] at e; cases e; exact .inr (.inl ⟨h2, rfl⟩)
      · rw [Ho b h1 h2] at e
        split at e
        · rename_i q; cases e; exact .inr (.inr ⟨q.1, by simpa using q.2, rfl⟩)
        · cases e
  have top : TopH K cs H a ns := by
    refine ⟨⟨_, Hs, fun h z => ⟨om, es, ep, z, hod⟩⟩, kS, fun p hp => Ht _ (List.mem_map.mpr ⟨p, hp, rfl⟩), hI, nd, ?_, fun o e => ?_⟩
    · cases hk : K.lookup a with
      | some o =>
        have e := (KX a o hk).symm.trans ha
        cases e
        exact .inr ⟨_, vs.toArray, _, hk, rfl, rfl, rfl, by rw [List.size_toArray, hi.length]; exact hsz, by simpa using rv⟩
      | none => exact .inl (.inr ⟨scrO vs, by rw [Ho a aS tA, if_pos ⟨rfl, by rw [hk]; rfl⟩]⟩)
    · rcases Hc _ _ e with ⟨z, _⟩ | ⟨z, _⟩ | ⟨_, _, z⟩
      · exact absurd z aS
      · exact absurd z tA
      · exact ⟨_, z⟩
  have hok : HOk P w H s.heap := fun b u e => by
    rcases Hc _ _ e with ⟨rfl, rfl⟩ | ⟨z, rfl⟩ | ⟨rfl, _, rfl⟩
    · exact ⟨hom, ⟨om, hom⟩, fun h1 h2 q st => st _ q⟩
    · obtain ⟨p, hp, rfl⟩ := List.mem_map.mp z
      exact hT p hp
    · exact ⟨ha, hsz', vs, _, rv, ha⟩
  have un : ∀ {b : Addr} {o : Obj}, s.heap.get? b = some o → b ≠ sysModules → o.data ≠ .fields #[] → (o ≠ scrO vs ∨ K.lookup b ≠ none) → H b = none := fun {b o} g n1 n2 n3 => by
    cases e : H b with
    | none => rfl
    | some u =>
      rcases Hc _ _ e with ⟨z, _⟩ | ⟨z, _⟩ | ⟨rfl, k0, _⟩
      · exact absurd z n1
      · obtain ⟨p, hp, rfl⟩ := List.mem_map.mp z
        rw [hT p hp] at g; cases g
        exact absurd rfl n2
      · rcases n3 with n | n
        · exact absurd (Option.some.inj (g.symm.trans ha)) n
        · exact absurd k0 n
  have nsT : ∀ {b : Addr} {m : Str → Option Value}, b ≠ sysModules → s.heap.Ns b m → (hidT s.heap H).Ns b m := fun {b m} n ⟨o, es, ep, g, d, r⟩ =>
    ⟨o, es, ep, hidT_get g (un g n (fun z => by rw [z] at d; cases d) (.inl fun z => by rw [z] at d; exact nomatch d)), d, r⟩
  have kH : K.In (hidT s.heap H) := fun b o g => by
    refine hidT_get (KX b o g) ?_
    cases e : H b with
    | none => rfl
    | some u =>
      rcases Hc _ _ e with ⟨rfl, _⟩ | ⟨z, _⟩ | ⟨rfl, k0, _⟩
      · rw [kS] at g; cases g
      · obtain ⟨p, hp, rfl⟩ := List.mem_map.mp z
        rw [kT p hp] at g; cases g
      · rw [k0] at g; cases g
  obtain ⟨mc, lim1, lim2⟩ := lim
  have dS : mainGlobals ≠ sysModules := by decide
  have dB : builtinsNs ≠ sysModules := by decide
  have dC : cStatics ≠ sysModules := by decide
  have md : L2.Mod K mg (hidT s.heap H) := ⟨kH, nsT dS gm, ⟨mb, nsT dB gb, boot⟩, ⟨mc, nsT dC lim1, lim2⟩⟩
  have tb : ∀ p ∈ cs, LamX.TabB (hidT s.heap H) mg p.1 p.2.1 := fun p hp => by
    have tp := hT p hp
    refine ⟨?_, ?_, fun z => ?_⟩
    · obtain ⟨oc, us, f1, f2, f3, f4, f5, f6, f7, g1, g2, g3, g4, rest⟩ := hC p hp
      refine ⟨oc, us, f1, f2, f3, f4, f5, f6, f7, hidT_get g1 (un g1 (fun z => ?_) (fun z => ?_) (.inl fun z => ?_)), g2, g3, g4, rest⟩
      · rw [z, hom] at g1; cases g1
        rw [hod] at g3; cases g3
      · rw [z] at g3; cases g3; simp at g4
      · rw [z] at g3; cases g3
    · obtain ⟨bm, ob, b1, b2, b3, b4, b5, b6⟩ := bmn
      refine ⟨bm, ob, b1, b2, fun z => ?_, fun z => ?_, hidT_get b3 (un b3 (fun z => ?_) (fun z => ?_) (.inl fun z => ?_)), b4, b5, b6⟩
      · obtain ⟨og, _, _, g1, g2, _⟩ := gm
        rw [z, g1] at b3; cases b3
        rw [g2] at b6; cases b6
      · rw [z, tp] at b3; cases b3; cases b6
      · rw [z, hom] at b3; cases b3
        rw [hod] at b6; cases b6
      · rw [z] at b6; cases b6
      · rw [z] at b6; cases b6
    · obtain ⟨og, _, _, g1, g2, _⟩ := gm
      rw [z, tp] at g1; cases g1; cases g2
  have e0 : Env0 P w K mg (hidT s.heap H) callerA [] s H := { frames := rfl, mod := md, bs := fun b o g => of_hidT g, bsz := Nat.le_of_eq (hidT_size _ _), funs := trivial, frf := fun b hb => (nomatch hb), hok := hok, bare := .of_eq ng }
  refine codeAny_mono ((F _ kH (nsT dS gm) tb).runs callerA [] s H ⟨[.ref a], []⟩ [.ref a] [.ref a] (fun v H' => v = .bl true ∧ ∀ φ, H sysModules = some (.ext φ) → H' sysModules = some (.ext φ)) (fun _ _ _ => False) hr e0 (hbd s (.ref a)) (.cons rfl .nil) ⟨a, ns, rfl, hl, hz, top, fun H' q => ⟨rfl, q⟩⟩) fun r s' h => ?_
  match r, h with
  | .error e, h => exact (no H e s' h).elim
  | .ok .next, h => exact h.elim
  | .ok .brk, h => exact h.elim
  | .ok .cont, h => exact h.elim
  | .ok (.ret u), ⟨v, H', os, bare, ch, hok', rv', q1, q2⟩ =>
    subst q1
    obtain rfl : u = Value.bool true := rv'
    have kept : ∀ b o, b ∉ tbP cs → s.heap.get? b = some o → s'.heap.get? b = some o := fun b o nb g => by
      cases e : H b with
      | none => exact ch.keep b o g e (fun y => nomatch y) (fun y => nomatch y)
      | some z =>
        rcases Hc _ _ e with ⟨rfl, rfl⟩ | ⟨y, _⟩ | ⟨rfl, _, rfl⟩
        · obtain ⟨y, _⟩ := hok' _ _ (q2 _ e)
          rw [hom] at g; cases g; exact y
        · exact absurd y nb
        · rw [ha] at g; cases g
          exact (hok' _ _ (ch.frzs _ _ _ e)).1
    have grew : ∀ b ∈ tbP cs, ∃ more : Array Value, s'.heap.get? b = some { cls := .none, data := .fields more } := fun b hb => by
      obtain ⟨more, z⟩ := ch.tbls b #[] (Ht b hb)
      exact ⟨_, hok' b _ z⟩
    refine ⟨rfl, ⟨fun b o g => ?_, fun b o g => ?_⟩, os, bare⟩
    · by_cases hb : b ∈ tbP cs
      · obtain ⟨more, hm⟩ := grew b hb
        obtain ⟨p, hp, rfl⟩ := List.mem_map.mp hb
        have tp := hT p hp
        rw [tp] at g; cases g
        exact .inr (.inl ⟨((hC p hp).tab tp).isCodeTable, rfl, #[], more, rfl, by rw [Array.empty_append]; exact hm⟩)
      · exact .inl (kept b o hb g)
    · by_cases hb : b ∈ tbP cs
      · obtain ⟨more, hm⟩ := grew b hb
        exact ⟨_, hm⟩
      · exact ⟨o, kept b o hb g⟩
/-- what is known of the law at the top's heap -/
structure TopOk (K : PySem.W.Frag) (mg : Str → Option Value) (cs : List Tb) (h : Heap) : Prop where
  sysk : K.lookup sysModules = none
  at_ : ∀ p ∈ cs, h.get? p.2.1 = some { cls := .none, data := .fields #[] }
  look : ∀ p ∈ cs, K.lookup p.2.1 = none
  code : ∀ p ∈ cs, PySem.W.CodeHd h p.1 p.2.1
  nodup : (tbP cs).Nodup
  tin : ∀ p ∈ cs, PySem.W.tabIn K p.2.2 = some (p.1, p.2.1)
theorem TopOk.none {h : Heap} (hk : K.lookup sysModules = none) : TopOk K mg [] h := ⟨hk, fun _ z => (nomatch z), fun _ z => (nomatch z), fun _ z => (nomatch z), List.nodup_nil, fun _ z => (nomatch z)⟩
end
theorem walk_t {l : PySem.W.OpenLaw} {k : Nat} {q : Program} {loose : List Str} {XP : (Str → Option Value) → Heap → Prop} {YP : World → Heap → Prop} {d : DefRec} {K : Params → PySem.W.Frag} {x : Str} (hn : l.most = some 63) (hdf : d.params.defaults = []) (hr : RoomG k callerA) (hnone : importsNone q = true)
    (hY : ∀ (w : World) (h : Heap), YP w h → (K w.params).In h)
    (F : ∀ (w : World) (mg mb : Str → Option Value) (mean : ExcName → Option Value) (fa : Addr) (h : Heap), Top q (PySem.W.looseW q loose) mean mg mb h → (K w.params).In h → h.Ns mainGlobals mg → mg d.name = some (.ref fa) →
      ∃ (cs : List Tb) (fd : FuncData), TopOk (K w.params) mg cs h ∧ (∀ (s : Shared) (u : Value), BindsTo s fd ⟨[u], []⟩ [(x, u)]) ∧ ∀ base : Heap, (K w.params).In base → base.Ns mainGlobals mg → (∀ p ∈ cs, LamX.TabB base mg p.1 p.2.1) → FnG l.prog w (K w.params) mg base k fa fd [x] (spTop (K w.params) cs))
    (no : ∀ (w : World) (H : Hp) (s : Shared) (e : Value) (s' : Shared), L2.CX l.prog w [] H s (fun _ _ _ => False) e s' → False) : PySem.W.WalkO q loose XP YP l.row.toRowW d [] (fun f vs => PySem.call f vs) := by
  refine Att.attach_callB hn hdf fun w s0 s1 mg mb fa o pm cd doc a vs ns G Y ho hd hcd hmg hobj hints hlen hbits hg => ?_
  obtain ⟨cs, fd, tk, hbd, hF⟩ := F w mg mb _ fa _ G.T (hY w _ Y) G.T.g hmg
  obtain ⟨mm, hm, _⟩ := (G.T.seer hnone).mods
  exact head_t (hY w _ Y) G.T.g G.T.b G.T.builtins G.T.nolimit ⟨mm, hm⟩ G.T.bmain hg hobj hints hlen hbits hr tk.sysk tk.at_ tk.look tk.code tk.nodup tk.tin hF hbd (fun H e s' => no w H s1 e s')
/-- the law's def as the end wants it -/
theorem law_mkT {P : Program} {w : World} {K : PySem.W.Frag} {mg : Str → Option Value} {h : Heap} {k : Nat} {fa f : Addr} {x nm : Str} {st : Stmt} {N : List Str} {b : FS} {cs : List Tb} {oc : Value} {od an : Option Addr} {osl : Array (Option Value)} {kV doc pm cdv ct : Value} (X : K.In h) (G : h.Ns mainGlobals mg) (hfa : mg nm = some (.ref fa))
    (tk : TopOk K mg cs h) (a : PySem.W.nsIn K mainGlobals nm = some (some (.ref f))) (l : K.lookup f = some ⟨oc, od, .func (PySem.W.fnOf nm nm (defArgs st) (defBody st) (defScope st) .none kV doc pm an cdv ct), osl⟩) (c : PySem.W.codeIn K cdv nm = true) (kk : PySem.W.keepIn K (.ref f) = true)
    (hb : ∀ (kV doc pm : Value) (an : Option Addr) (cdv ct : Value) (us : List Value), us.length = 1 → bindArgs (PySem.W.fnOf nm nm (defArgs st) (defBody st) (defScope st) .none kV doc pm an cdv ct) ⟨us, []⟩ = pure ([x].zip us)) (S : FnScope N [x] (defScope st))
    (body : ∀ base : Heap, K.In base → base.Ns mainGlobals mg → (∀ p ∈ cs, LamX.TabB base mg p.1 p.2.1) → ∀ (f : Addr) (cdv : Value) (A : Around) (outer : List Env) (s : Shared) (H : Hp) (E : XK), RoomG k (A.deeper (envOfC nm (defScope st) s.heap.objs.size f cdv)) →
      PSs (cxOf (L2.CX P w) P w K mg base N nm (defScope st) f cdv A outer s H E) (defBody st) (tS (cxOf (L2.CX P w) P w K mg base N nm (defScope st) f cdv A outer s H E) (fun c d _ H => E c d H) b))
    (hF : ∀ ns : List Int, ns.length ≤ 63 → (∀ z ∈ ns, Builtin.Int.intBits z ≤ 1048576) → ∃ S', fnB 1 N.length b [.fls (ns.map .int)] (topS0 cs) = .ok (.bl true) S') :
    ∃ (cs : List Tb) (fd : FuncData), TopOk K mg cs h ∧ (∀ (s : Shared) (u : Value), BindsTo s fd ⟨[u], []⟩ [(x, u)]) ∧ ∀ base : Heap, K.In base → base.Ns mainGlobals mg → (∀ p ∈ cs, LamX.TabB base mg p.1 p.2.1) → FnG P w K mg base (k + 1) fa fd [x] (spTop K cs) := by
  have e := hfa.symm.trans (PySem.W.mg_of X G a)
  cases e
  have F := fun_mk (st := st) l c kk
  refine ⟨cs, _, tk, fun s u => .of_eq (hb kV doc pm an cdv ct [u] rfl), fun base Kb Gb Tb => ?_⟩
  exact (fn_ok F S (body base Kb Gb Tb fa)).weak (top_imp hF)
end Kw

/-! Kw23: sorted(range(n), key=lambda p: things[p]): the places of things in their order. -/
namespace Kw
open PySem PySem.Spec PySem.Calls PyProof.Rows L2
mutual
/-- no list and no dict in it -/
def noL : PyData → Bool
  | .list _ => false
  | .dict _ => false
  | .tuple xs => noLL xs
  | _ => true
def noLL : List PyData → Bool
  | [] => true
  | x :: xs => noL x && noLL xs
end
mutual
theorem noL_reads {h : Heap} : ∀ (d : PyData) (v : Value) (as : List Addr), Reads h v d as → noL d = true → as = []
  | _, _, _, .none, _ => rfl
  | _, _, _, .bool _, _ => rfl
  | _, _, _, .int _ _, _ => rfl
  | _, _, _, .str _ _, _ => rfl
  | _, _, _, .list _ _ _ _, n => by simp [noL] at n
  | _, _, _, .tuple (xs := xs) _ _ _ r, n => noLL_reads xs _ _ r (by simpa [noL] using n)
  | _, _, _, .dict _ _ _ _ _, n => by simp [noL] at n
theorem noLL_reads {h : Heap} : ∀ (ds : List PyData) (vs : List Value) (as : List Addr), ReadsAll h vs ds as → noLL ds = true → as = []
  | _, _, _, .nil, _ => rfl
  | _, _, _, .cons (d := d) (ds := ds) r t, n => by
    simp only [noLL, Bool.and_eq_true] at n
    rw [noL_reads d _ _ r n.1, noLL_reads ds _ _ t n.2]
    rfl
end
theorem noLL_mem : ∀ {ds : List PyData} {d : PyData}, noLL ds = true → d ∈ ds → noL d = true
  | x :: xs, d, h, m => by
    simp only [noLL, Bool.and_eq_true] at h
    rcases List.mem_cons.mp m with rfl | m
    · exact h.1
    · exact noLL_mem h.2 m
theorem readsAll_get {h : Heap} : ∀ {vs : List Value} {ds : List PyData} {as : List Addr}, ReadsAll h vs ds as → ∀ {i : Nat} {d : PyData}, ds[i]? = some d → ∃ v bs, vs[i]? = some v ∧ Reads h v d bs
  | _, _, _, .nil, i, d, e => by simp at e
  | _, _, _, .cons r t, 0, d, e => by
    simp at e; subst e
    exact ⟨_, _, rfl, r⟩
  | _, _, _, .cons r t, i + 1, d, e => by
    obtain ⟨v, bs, h1, h2⟩ := readsAll_get t (i := i) (by simpa using e)
    exact ⟨v, bs, by simpa using h1, h2⟩
/-! ### sorting by keys that may hold lists: these stay as they are -/
section
variable {prog : Program} {w : World} {A : Around} {E : Value → Shared → Prop} {s : Shared} {kz : List PyData}
/-- the key k is told, off lists that stood in h0 already and are not a -/
def KeyOld (h0 : Heap) (a : Addr) (k : PyData) (t : Shared) (v : Value) (t' : Shared) : Prop := ∃ g n as, t' = { t with heap := g, toks := n } ∧ (∀ c o, t.heap.get? c = some o → g.get? c = some o) ∧ Reads g v k as ∧ ∀ c ∈ as, c ≠ a ∧ h0.get? c ≠ none
theorem reads_old {h : Heap} : ∀ {v : Value} {d : PyData} {as : List Addr}, Reads h v d as → ∀ c ∈ as, h.get? c ≠ none := by
  intro v d as r
  refine Reads.rec (motive_1 := fun v d as _ => ∀ c ∈ as, h.get? c ≠ none) (motive_2 := fun vs ds as _ => ∀ c ∈ as, h.get? c ≠ none) ?_ ?_ ?_ ?_ ?_ ?_ ?_ ?_ ?_ r
  · exact fun c hc => nomatch hc
  · exact fun b c hc => nomatch hc
  · exact fun i t c hc => nomatch hc
  · exact fun x t c hc => nomatch hc
  · intro a o vs n xs as h1 h2 h3 h4 ih c hc
    rcases List.mem_cons.mp hc with rfl | hc
    · rw [h1]; exact fun z => nomatch z
    · exact ih c hc
  · intro a o vs n xs as h1 h2 h3 h4 ih c hc
    exact ih c hc
  · intro a o es n kvs as bs h1 h2 h3 h4 h5 i1 i2 c hc
    rcases List.mem_append.mp hc with hc | hc
    · rcases List.mem_cons.mp hc with rfl | hc
      · rw [h1]; exact fun z => nomatch z
      · exact i1 c hc
    · exact i2 c hc
  · exact fun c hc => nomatch hc
  · intro v vs d ds as bs h1 h2 i1 i2 c hc
    rcases List.mem_append.mp hc with hc | hc
    · exact i1 c hc
    · exact i2 c hc
theorem keyOld_rest {a kS : Addr} {b : Bool} {vs : List Value} {e0 : Nat} {P : PySem.Fin → Shared → Prop} {f : Value} {h0 : Heap} (kp : PySem.W.KeepsBut a h0 s.heap) (fr : h0.get? kS = none) (gS : s.heap.get? kS = some (seqObj "list" #[] 0)) (ga : s.heap.get? a = some (seqObj "list" #[] e0)) (ne : kS ≠ a)
    (ln : kz.length = vs.length) (sm : vs.length ≤ sizeLine) (al : PySem.W.AllAlike kz) (so : PySem.W.Sortable kz) (dp : ∀ d, d ∈ kz → A.units + d.depth < cLine)
    (ask : ∀ (i : Nat) (v : Value) (k : PyData), vs[i]? = some v → kz[i]? = some k → ∀ (g : Heap) (n : Nat), PySem.W.KeepsBut a h0 g → wpAny (model prog w) A (call f [v]) (KeyOld h0 a k { s with heap := g, toks := n }) (fun _ _ => False) { s with heap := g, toks := n })
    (fin : ∀ g n out c, PySem.W.KeepsBut a h0 g → g.get? a = some (seqObj "list" (List.toArray out) c) → PySem.W.KeyedOut b kz vs out → P (.done (.ret .none)) { s with heap := g, toks := n }) : wpAny (model prog w) A (PyProof.Rows.ksk_rest a f b vs.toArray e0 (.ref kS)) P E s := by
  unfold PyProof.Rows.ksk_rest
  refine wpAny_bind (wpAny_rule ?_)
  rw [List.forIn_toArray]
  refine wpAny_bind (PyProof.Rows.ksk_fold (fun i t => ∃ g n ks c, t = { s with heap := g, toks := n } ∧ PySem.W.KeepsBut a h0 g ∧ g.get? kS = some (seqObj "list" ks c) ∧ g.get? a = some (seqObj "list" #[] e0) ∧
    PySem.W.EachIs (fun v k => PySem.W.alike k k = true ∧ ∃ as, Reads g v k as ∧ ∀ c ∈ as, c ≠ a ∧ h0.get? c ≠ none) ks.toList (kz.take i)) vs 0 s ⟨s.heap, s.toks, #[], 0, rfl, kp, gS, ga, by rw [List.take_zero]; exact PySem.W.EachIs.nil⟩ ?each ?last)
  case each =>
    rintro j x t hx ⟨g, n, ks, c, rfl, kp1, gS1, ga1, hk⟩
    rw [Nat.zero_add] at hk ⊢
    have jl : j < vs.length := (List.getElem?_eq_some_iff.mp hx).1
    have hkj : kz[j]? = some (kz[j]'(by omega)) := List.getElem?_eq_getElem _
    generalize (kz[j]'(by omega)) = k at hkj
    have km := List.mem_of_getElem? hkj
    have kk := al k km k km
    have kl : ks.size ≤ vs.length := by
      have z := hk.length
      rw [Array.length_toList, List.length_take] at z
      omega
    refine wpAny_bind (wpAny_attempt (wpAny_mono (ask j x k hx hkj g n kp1) (fun v t hv => ?_) fun _ _ z => z.elim))
    obtain ⟨g2, n2, as, rfl, up, rd, old⟩ := hv
    dsimp only
    have gS2 := up _ _ gS1
    have ga2 := up _ _ ga1
    have same := Heap.SameBut.update g2 kS (Obj.mapSeq (·.push v))
    have gS3 := get?_update_seq gS2 (·.push v)
    refine wpAny_bind (listUpdate_at gS2 rfl ?_ (Nat.le_trans kl sm) (Nat.le_trans (Nat.le_of_eq (Array.size_push ..)) (Nat.succ_le_succ (Nat.le_trans kl sm))))
    have moved : ∀ (u : Value) (d : PyData), (PySem.W.alike d d = true ∧ ∃ as, Reads g2 u d as ∧ ∀ c ∈ as, c ≠ a ∧ h0.get? c ≠ none) → PySem.W.alike d d = true ∧ ∃ as, Reads (g2.update kS (Obj.mapSeq (·.push v))) u d as ∧ ∀ c ∈ as, c ≠ a ∧ h0.get? c ≠ none := by
      rintro u d ⟨q1, bs, q2, q3⟩
      exact ⟨q1, bs, PySem.W.Reads.keepBut (a := kS) (fun c o hc e => (same.2 c hc).trans e) (fun o e => by rw [gS2] at e; rw [← Option.some.inj e]) d u bs q1 q2 (fun z => (q3 _ z).2 fr), q3⟩
    have e1 : kz.take (j + 1) = kz.take j ++ [k] := by rw [List.take_add_one, hkj]; rfl
    have e2 : (ks.push v).toList = ks.toList ++ [v] := by simp
    refine wpAny_pure ⟨rfl, _, _, ks.push v, _, rfl, (kp1.trans_all up).same same (.inr fr), gS3, (same.2 a ne.symm).trans ga2, ?_⟩
    rw [e1, e2]
    exact PySem.W.each_snoc (R := fun (u : Value) (d : PyData) => PySem.W.alike d d = true ∧ ∃ as, Reads (g2.update kS (Obj.mapSeq (·.push v))) u d as ∧ ∀ c ∈ as, c ≠ a ∧ h0.get? c ≠ none) (moved v k ⟨kk, as, rd, old⟩) (hk.mono fun u d q => moved u d ⟨q.1, q.2.imp fun bs z => ⟨PyProof.Rows.Reads.keeps up z.1, z.2⟩⟩)
  case last =>
    rintro t ⟨g, n, ks, c, rfl, kp1, gS1, ga1, hk⟩
    have hk2 : PySem.W.EachIs (fun v k => ∃ as, Reads g v k as) ks.toList kz := by
      have z : kz.take (0 + vs.length) = kz := List.take_of_length_le (by omega)
      rw [z] at hk
      exact hk.mono fun v k q => q.2.imp fun as z => z.1
    have sz : ks.size = vs.length := by
      have z := hk2.length
      rw [Array.length_toList] at z
      omega
    refine wpAny_bind (listItems_at gS1 rfl ?_)
    exact PySem.W.keyH_end (κ := PySem.W.dataKind g kz) (h₁ := h0) kp1 fr gS1 ga1 ne (PySem.W.SortsAt.data (s := { s with heap := g, toks := n }) hk2 al so dp) sz sm fun g3 n3 c3 k3 z3 => fin g3 n3 _ c3 k3 z3 ⟨g, ks.toList, al, rfl, hk2⟩
theorem keyOld_tree {a : Addr} {b : Bool} {vs : List Value} {P : PySem.Fin → Shared → Prop} {f : Value} {n : Nat} (at_ : s.heap.get? a = some (seqObj "list" vs.toArray n)) (ln : kz.length = vs.length) (sm : vs.length ≤ sizeLine) (al : PySem.W.AllAlike kz) (so : PySem.W.Sortable kz) (dp : ∀ d, d ∈ kz → A.units + d.depth < cLine)
    (ask : ∀ (i : Nat) (v : Value) (k : PyData), vs[i]? = some v → kz[i]? = some k → ∀ (g : Heap) (n : Nat), PySem.W.KeepsBut a s.heap g → wpAny (model prog w) A (call f [v]) (KeyOld s.heap a k { s with heap := g, toks := n }) (fun _ _ => False) { s with heap := g, toks := n })
    (fin : ∀ g n out c, PySem.W.KeepsBut a s.heap g → g.get? a = some (seqObj "list" (List.toArray out) c) → PySem.W.KeyedOut b kz vs out → P (.done (.ret .none)) { s with heap := g, toks := n }) : wpAny (model prog w) A (PyProof.Rows.ksk_tree a f b) P E s := by
  have al1 : a < s.heap.objs.size := Heap.lt_size at_
  have em := get?_update_seq at_ fun _ => (#[] : Array Value)
  have sz : ((s.heap.update a (Obj.mapSeq fun _ => (#[] : Array Value))).push (seqObj "tuple" vs.toArray 0)).objs.size = s.heap.objs.size + 1 := by rw [size_push', Heap.size_update]
  unfold PyProof.Rows.ksk_tree
  refine wpAny_bind (listItems_at at_ rfl (wpAny_bind (listUpdate_at at_ rfl ?_ (by rw [List.size_toArray]; exact sm) (Nat.zero_le _))))
  refine wpAny_bind (seqEpoch_at em rfl (wpAny_bind (wpAny_newTuple (wpAny_bind (wpAny_newList (wpAny_holding ?_) (Nat.zero_le _))) (show vs.length ≤ _ from sm))))
  exact keyOld_rest (h0 := s.heap) (s := { s with heap := _ }) (kS := _) (fun c o hc q => PySem.W.sortingHeap_old hc q) (Heap.get?_none_of_le (by rw [sz]; exact Nat.le_succ _)) (Heap.get?_push_size _ rfl) (Heap.get?_push_of_some _ (Heap.get?_push_of_some _ em)) (by rw [sz]; exact Nat.ne_of_gt (Nat.lt_succ_of_lt al1)) ln sm al so dp ask fin
end
/-! ### sorted of a range -/
section
variable {prog : Program} {w : World} {A : Around} {E : Value → Shared → Prop} {s : Shared} {b : Bool} {kz : List PyData}
/-- a key, off lists that stood already -/
def KeyIn (h0 : Heap) (k : PyData) (t : Shared) (v : Value) (t' : Shared) : Prop := ∃ g n as, t' = { t with heap := g, toks := n } ∧ (∀ c o, t.heap.get? c = some o → g.get? c = some o) ∧ Reads g v k as ∧ ∀ c ∈ as, h0.get? c ≠ none
theorem sorted_rangeK {r : Addr} {n : Int} {t u v : Tok} {f : Value} {kw : List (Str × Value)} {Q : Value → Shared → Prop} (hh : A.handled = none) (hr : IsRange s.heap r 0 n 1 t u v) (hn0 : 0 ≤ n) (hn : n ≤ 16777216) (hlen : (kz.length : Int) = n) (hal : PySem.W.AllAlike kz) (hk : PySem.W.Sortable kz)
    (hu : ∀ d, d ∈ kz → A.units + 2 + d.depth < cLine) (ha1 : argsOk "sorted" ⟨[.ref r], kw⟩) (ha2 : ∀ x, argsOk "list.sort" ⟨[.ref x], kw⟩) (ht : ∀ x, Builtin.«list.sort» ⟨[.ref x], kw⟩ = ksk_tree x f b)
    (turn : ∀ (i : Nat) (tk0 : Tok) (k : PyData), kz[i]? = some k → ∀ (h : Heap) (tk : Nat), (∀ b o, s.heap.get? b = some o → h.get? b = some o) →
      wpAny (model prog w) A.in1.in1 (call f [.int (i : Int) tk0]) (KeyIn s.heap k { s with heap := h, toks := tk }) (fun _ _ => False) { s with heap := h, toks := tk })
    (h : ∀ (out : List Value) (c : Nat) (h' : Heap) (tk : Nat) (D : Addr), (∀ b o, s.heap.get? b = some o → h'.get? b = some o) → s.heap.get? D = none → h'.get? D = some (seqObj "list" (List.toArray out) c) → out.length = kz.length →
      Vals (((((List.range kz.length).map fun (i : Nat) => V.int (i : Int)).zip kz).mergeSort (PySem.W.dataLe b Prod.snd)).map Prod.fst) out → Q (.ref D) { s with heap := h', toks := tk }) :
    wpAny (model prog w) A (call (.builtin "sorted") [.ref r] kw) Q E s := by
  refine call_function_entry_kw kind_sorted plain_sorted entry_sorted ha1 ?_
  unfold Builtin.«sorted»
  refine wpAny_bind (m := checkCount "sorted" 1 1 _) (wpAny_pure ?_)
  refine wpAny_bind (L2.collect_range (n := n.toNat) hh hr (small_one (by omega) (by omega) (by omega) (by omega)) (by have := rangeSize_nat 0 n; simpa using this) (by omega) fun h1 tk1 acc hk1 hi => ?_)
  have hsz : acc.size = n.toNat := hi.1
  have hal1 : acc.toList.length = kz.length := by rw [Array.length_toList, hsz]; omega
  have hz : acc.toList.length ≤ sizeLine := by rw [hal1, sizeLine_eq]; omega
  refine wpAny_bind (wpAny_newList ?_ (by show acc.toList.length ≤ _; exact hz))
  have hD : (h1.push (seqObj "list" acc.toList.toArray 0)).get? h1.objs.size = some (seqObj "list" acc.toList.toArray 0) := Heap.get?_push_size _ rfl
  have fresh : s.heap.get? h1.objs.size = none := by
    cases e : s.heap.get? h1.objs.size with
    | none => rfl
    | some o => exact absurd (Heap.lt_size (hk1 _ _ e)) (Nat.lt_irrefl _)
  have up : ∀ {g : Heap}, PySem.W.KeepsBut h1.objs.size (h1.push (seqObj "list" acc.toList.toArray 0)) g → ∀ b o, s.heap.get? b = some o → g.get? b = some o := fun {g} kp b o q =>
    kp b o (Nat.ne_of_lt (Heap.lt_size (hk1 _ _ q))) (Heap.get?_push_of_some _ (hk1 _ _ q))
  have ez := zip_snd (xs := (List.range kz.length).map fun (i : Nat) => V.int (i : Int)) (ps := kz) (by simp)
  have rel : PySem.W.EachIs (fun u (b : V × PyData) => RelV b.1 u) acc.toList (((List.range kz.length).map fun (i : Nat) => V.int (i : Int)).zip kz) := by
    refine each_vals (vals_of_at (by simp [hal1]) fun j x u h1 h2 => ?_) (by simp)
    rw [List.getElem?_map] at h1
    cases e : (List.range kz.length)[j]? with
    | none => rw [e] at h1; cases h1
    | some y =>
      rw [e] at h1
      have hy : j = y := by
        have := List.getElem?_eq_some_iff.mp e
        obtain ⟨h3, h4⟩ := this
        simp at h4; exact h4
      subst hy
      have h1' : V.int (j : Int) = x := by simpa using h1
      subst h1'
      obtain ⟨t, ht⟩ := hi.2 j u (by rw [← Array.getElem?_toList]; exact h2)
      exact ⟨t, by rw [ht]; simp⟩
  refine wpAny_bind (wpAny_holding (wpAny_call_entry_kw slot_list_sort ⟨_, hD, rfl⟩ entry_list_sort ?body (ha2 _)))
  case body =>
    show wpAny (model prog w) A.in1.in1 (Builtin.«list.sort» ⟨[.ref h1.objs.size], kw⟩) _ _ _
    rw [ht]
    refine keyOld_tree (kz := kz) (vs := acc.toList) (n := 0) (s := { s with heap := h1.push (seqObj "list" acc.toList.toArray 0), toks := tk1 }) hD hal1.symm hz hal hk hu (fun i v k hv hkz hp tk kp => ?_) fun h' tk out c kp hD' ko => ?_
    · obtain ⟨t, rfl⟩ := hi.2 i v (by rw [← Array.getElem?_toList]; exact hv)
      have := turn i t k hkz hp tk (up kp)
      rw [Int.zero_add, Int.mul_one]
      refine wpAny_mono this (fun v t' z => ?_) (fun _ _ z => z)
      obtain ⟨g, n, as, z1, z2, z3, z4⟩ := z
      refine ⟨g, n, as, z1, z2, z3, fun c hc => ⟨fun e => z4 c hc (by rw [e]; exact fresh), fun e => ?_⟩⟩
      cases q : s.heap.get? c with
      | none => exact z4 c hc q
      | some o => rw [Heap.get?_push_of_some _ (hk1 _ _ q)] at e; cases e
    · refine ⟨_, rfl, wpAny_pure ⟨_, rfl, ?_⟩⟩
      refine h out c h' tk _ (up kp) fresh hD' (ko.length (by rw [hal1])  |>.trans hal1) ?_
      refine vals_each (PySem.W.keyedOut_each Prod.snd ?_ rel)
      rw [ez]; exact ko
end
/-! ### the lambda -/
abbrev oPar (ap : Pos) : Arguments := { posonlyargs := [], args := [{ arg := "place", annotation := none, pos := ap }], vararg := none, kwonlyargs := [], kw_defaults := [], kwarg := none, defaults := [] }
abbrev oBody (b1 b2 b3 : Pos) : Expr := .Subscript (.Name "things" b1) (.Name "place" b2) b3
abbrev oSc : Scope := { kind := .function, names := [("place", .local), ("things", .free)], isGenerator := false, isCoroutine := false, more := [] }
section
variable {prog : Program} {w : World} {A : Around} {s : Shared}
theorem order_turn {f c c' a : Addr} {q : Str} {pm ctv u : Value} {ap b1 b2 b3 : Pos} {its : Array Value} {i : Nat} {tk : Tok} {k : PyData} (hroom : A.depth < recursionLimit)
    (hf : s.heap.get? f = some (PySem.W.kla_obj "<lambda>" q (oPar ap) (oBody b1 b2 b3) oSc [("things", c)] pm c' ctv)) (hcd : s.heap.CodeRec (.ref c') q) (hcell : s.heap.IsCell c (some (.ref a))) (hl : s.heap.IsList a its ∨ IsTup s.heap a its) (hi : its[i]? = some u)
    (hfit : (i : Int) < 2 ^ 63) (hlim : s.heap.NoLimit) {as : List Addr} {h0 : Heap} (hr : Reads s.heap u k as) (hold : ∀ c ∈ as, h0.get? c ≠ none) : wpAny (model prog w) A (call (.ref f) [.int (i : Int) tk]) (KeyIn h0 k s) (fun _ _ => False) s := by
  refine wpAny_call (PySem.W.kla_callFunE hroom hf rfl rfl rfl rfl hcd ?_)
  have hb : bindArgs (PySem.W.kla_fn "<lambda>" q (oPar ap) (oBody b1 b2 b3) oSc [("things", c)] pm (.ref c') ctv) ⟨[.int (i : Int) tk], []⟩ = (pure [("place", Value.int (i : Int) tk)] : Sem (List (Str × Value))) := rfl
  rw [hb]
  refine wpAny_pure (wpAny_newFunctionEnv (fun y hy => ?_) (fun y hy => ?_) (fun h₁ hns hsb => ⟨hlim.fresh _ hsb, ?_⟩) rfl)
  · simp only [oSc, List.mem_cons, List.not_mem_nil, or_false] at hy
    rcases hy with rfl | rfl <;> simp
  · rw [List.mem_singleton.mp hy]
    rfl
  · have kp : ∀ b o, s.heap.get? b = some o → h₁.get? b = some o := fun b o e => hsb.extBut b o (Nat.ne_of_lt (Heap.lt_size e)) (Heap.get?_push_of_some _ e)
    show codeAny _ _ (.expr (oBody b1 b2 b3) _) _ _
    refine PySem.W.kla_codeExpr ?_
    obtain ⟨oc, hoc1, hoc2⟩ := hcell
    refine Subscript_ (wpAny_Name (wpAny_loadName_free (c := c) rfl rfl rfl ⟨oc, kp _ _ hoc1, hoc2⟩ (wpAny_Name (wpAny_loadName_local rfl rfl hns rfl ?_))))
    have fin : KeyIn h0 k s u { s with heap := h₁, toks := s.toks + 1 } := ⟨h₁, _, as, rfl, kp, PyProof.Rows.Reads.keeps kp hr, hold⟩
    rcases hl with ⟨ol, hol⟩ | ⟨ol, hol⟩
    · exact item_listR (l := a) (items := its) ⟨ol, kp _ _ hol.1, hol.2⟩ (by omega) hfit (by simpa using hi) fin
    · exact subscriptTail_builtinR (x := u) (IsTup.typeIs ⟨ol, kp _ _ hol.1, hol.2⟩) slot_tuple_getitem.lookup
        (getItem_tuple (j := i) (Q := fun r s' => r = u ∧ KeyIn h0 k s r s') ⟨ol, kp _ _ hol.1, hol.2⟩ (by omega) hfit (seqIndex_of (by omega) (by have := (Array.getElem?_eq_some_iff.mp hi).1; omega)) hi ⟨rfl, fin⟩) rfl
end
/-! ### a lambda is made -/
section
variable {X : Cx} {pins : List (Addr × Obj)} {σ : L2.St} {H : Hp} {s : Shared}
/-- what making a lambda does to what is known: its code object is found in the table, or is new there -/
def LamH (q : Str) (P : Addr) (ps : Array Value) (H H1 : Hp) (c' : Addr) : Prop :=
  (H1 = H ∧ H c' = some (LamX.CodeO c' q)) ∨
  ∃ more : Array Value, H c' = none ∧ c' ≠ P ∧ H1 = upd (upd H P (.tbl (ps ++ more))) c' (LamX.CodeO c' q) ∧ TriplesOk (ps ++ more).toList ∧ ∀ (pos : Pos) (cv : Value), codeAmong pos (ps ++ more).toList = some cv → codeAmong pos ps.toList = some cv ∨ cv = .ref c'
theorem lam_mk {c P : Addr} {q : Str} {ps : Array Value} {params : Arguments} {body : Expr} {scope : Scope} {pos : Pos} {E Q : Value → Shared → Prop} (I : Inv X pins σ H s) (TB : LamX.TabB X.base X.mg c P) (hcode : X.env.code = .ref c) (hq : X.env.qual ++ "<lambda>" = q)
    (hP : H P = some (.tbl ps)) (tri : TriplesOk ps.toList) (among : ∀ (p : Pos) (cv : Value), codeAmong p ps.toList = some cv → ∃ c, cv = .ref c ∧ H c = some (LamX.CodeO c q)) (hdef : defaultsOf params X.env = ([], [])) (hfree : ∀ y ∈ scope.names, y.2 = .free → ∃ c, X.env.cells.lookup y.1 = some c)
    (k : ∀ (f c' : Addr) (pm ctv : Value) (H1 : Hp) (s' : Shared), Inv X pins σ H1 s' → LamH q P ps H H1 c' → H1 f = none → f ∉ frs X.stack → s'.heap.get? f = some (PySem.W.kla_obj "<lambda>" q params body scope (cloFrom X.env.cells scope.names []) pm c' ctv) → (∃ ps1 : Array Value, H1 P = some (.tbl ps1) ∧ TriplesOk ps1.toList ∧ codeAmong pos ps1.toList = some (.ref c')) → Q (.ref f) s') :
    wpAny (model X.prog X.w) X.A (eval (.Lambda params body scope pos) X.env) Q E s := by
  subst hq
  have kb := TB.bm.keeps I.bk
  have kc := TB.code.keeps I.bk
  have kg := I.mod.glob.keeps I.bk
  have gP : s.heap.get? P = some { cls := .none, data := .fields ps } := I.hok P _ hP
  have out : ∀ f, s.heap.objs.size ≤ f → f ∉ frs X.stack := by
    intro f hf z
    rcases List.mem_cons.mp (I.stkSub _ z) with e | e
    · have := I.lt
      rw [← e] at this
      exact absurd (Nat.lt_of_lt_of_le this hf) (Nat.lt_irrefl _)
    · exact I.nofs hf e
  refine PySem.W.kla_eval hdef ?_
  rcases hc : codeAmong pos ps.toList with _ | cv
  · refine PySem.W.kla_makeFunction (c := c) (P := P) (ps := ps) (mg := X.mg) (closure_ok hfree) I.ok.glob kg hcode kc gP tri hc TB.gP kb ?_
    intro c' ctv h' tk hx hge hlt hrec htb
    obtain ⟨c2, oc, vs, t, e2, hoc, hd, hv⟩ := hrec
    cases e2
    have fr : H c' = none := I.hok.fresh hge
    have sz : s.heap.objs.size ≤ h'.objs.size := Nat.le_trans hge (Nat.le_of_lt hlt)
    have np : P ≠ c' := L2.ne_of_none hP fr
    have J := LamX.inv_table (t' := tk) (more := #[rawInt pos.line, rawInt pos.col, .ref c']) (h' := h'.push (PySem.W.kla_obj "<lambda>" (X.env.qual ++ "<lambda>") params body scope (cloFrom X.env.cells scope.names []) ((X.mg "__name__").getD .none) c' ctv)) I hP (fun b o hb e => Heap.get?_push_of_some _ (hx b o hb e)) (Heap.get?_push_of_some _ htb) hge ⟨oc, vs, t, Heap.get?_push_of_some _ hoc, hd, hv⟩
    have eT : (ps ++ #[rawInt pos.line, rawInt pos.col, .ref c']).toList = ps.toList ++ [rawInt pos.line, rawInt pos.col, .ref c'] := by simp
    refine k h'.objs.size c' _ ctv _ _ J (.inr ⟨_, fr, fun z => np z.symm, rfl, ?_, ?_⟩) ?_ (out _ sz) (Heap.get?_push_size _ rfl) ⟨_, by rw [upd_ne np, upd_same], by rw [eT]; exact PySem.TriplesOk_snoc _ _ _ _ tri, by rw [eT]; exact PySem.codeAmong_snoc _ tri hc⟩
    · have e : (ps ++ #[rawInt pos.line, rawInt pos.col, .ref c']).toList = ps.toList ++ [rawInt pos.line, rawInt pos.col, .ref c'] := by simp
      rw [e]; exact PySem.TriplesOk_snoc _ _ _ _ tri
    · intro p' cv hcv
      have e : (ps ++ #[rawInt pos.line, rawInt pos.col, .ref c']).toList = ps.toList ++ [rawInt pos.line, rawInt pos.col, .ref c'] := by simp
      rw [e] at hcv
      exact LamX.among_app _ tri hcv
    · have h1 : h'.objs.size ≠ c' := fun z => Nat.ne_of_gt hlt z
      have h2 : h'.objs.size ≠ P := fun z => Nat.ne_of_gt (Nat.lt_of_lt_of_le (Heap.lt_size gP) sz) z
      rw [upd_ne h1, upd_ne h2]
      exact I.hok.fresh sz
  · obtain ⟨c', e, hco⟩ := among pos cv hc
    subst e
    refine PySem.W.kla_makeFunctionHit (c := c) (P := P) (ps := ps) (mg := X.mg) (closure_ok hfree) I.ok.glob kg hcode kc gP tri hc kb ?_
    intro ctv h' tk hx hsz
    have J : Inv X pins σ H { s with heap := h'.push (PySem.W.kla_obj "<lambda>" (X.env.qual ++ "<lambda>") params body scope (cloFrom X.env.cells scope.names []) ((X.mg "__name__").getD .none) c' ctv), toks := tk } := I.kept fun b o e => Heap.get?_push_of_some _ (hx b o e)
    exact k _ c' _ ctv H _ J (.inl ⟨rfl, hco⟩) (I.hok.fresh hsz) (out _ hsz) (Heap.get?_push_size _ rfl) ⟨ps, hP, tri, hc⟩
end
section
variable {K : PySem.W.Frag} {mg : Str → Option Value} {w : Wd} {S : Store} {H H1 : Hp} {j : Nat} {x : Str} {P c c' : Addr} {ps : Array Value}
/-- the store is as it was -/
theorem lam_sto (s : Sto K mg w S H) (hj : S[j]? = some (.tab x)) (hP : w.φ[j]? = some (some P)) (e : H P = some (.tbl ps)) (k : LamH (tabQ x) P ps H H1 c') : Ext w H w H1 ∧ Sto K mg w S H1 := by
  rcases k with ⟨rfl, _⟩ | ⟨more, nc, np, rfl, tri, am⟩
  · exact ⟨Ext.refl, s⟩
  · have hPm : some P ∈ w.φ := List.mem_of_getElem? hP
    have ext : Ext w H w (upd (upd H P (.tbl (ps ++ more))) c' (LamX.CodeO c' (tabQ x))) := ⟨fun a o h n => by
      rw [upd_ne (L2.ne_of_none h nc), upd_ne (fun z : a = P => n (by rw [z]; exact hPm))]; exact h, Nat.le_refl _, fun _ _ h _ => h, fun _ h => .inl h, rfl⟩
    have ofc : w.Off c' := s.new nc
    have atc : upd (upd H P (.tbl (ps ++ more))) c' (LamX.CodeO c' (tabQ x)) c' = some (LamX.CodeO c' (tabQ x)) := upd_same
    refine ⟨ext, s.len, s.nd, fun a ha => ⟨upd_some (upd_some (s.ap a ha).1), (s.ap a ha).2⟩, fun n cc hc => ?_⟩
    by_cases hn : n = j
    · subst hn
      rw [hj] at hc; cases hc
      obtain ⟨c0, P0, t0, t1, t2⟩ := s.cell n _ hj
      rw [hP] at t1; cases t1
      refine ⟨c0, P, t0, hP, ps ++ more, by rw [upd_ne (fun z => np z.symm), upd_same], tri, fun pos cv hcv => ?_⟩
      rcases am pos cv hcv with z | z
      · obtain ⟨ps', e1, e2, e3⟩ := t2
        rw [e] at e1; cases e1
        obtain ⟨d, d1, d2, d3⟩ := e3 pos cv z
        exact ⟨d, d1, ext.fr _ _ d2 d3.1, d3⟩
      · exact ⟨c', z, atc, ofc⟩
    · refine CellR.ext ext (fun a ha => ⟨ha, ?_⟩) id (s.cell n cc hc)
      have h1 : a ≠ c' := fun z => ofc.1 (z ▸ List.mem_of_getElem? ha)
      have h2 : a ≠ P := fun z => hn (s.nd n j a ha (z ▸ hP))
      rw [upd_ne h1, upd_ne h2]
end
/-! ### the places in their order -/
open Classical in
noncomputable def gOrder (j : Nat) (x : Str) (n d : D) (S : Store) : RE D := match n with
  | .int m => (match seqA S d with
    | some ys => (match pySL S ys with
      | some ps => if m = (ys.length : Int) ∧ m ≤ 16777216 ∧ S[j]? = some (.tab x) ∧ PySem.W.AllAlike ps ∧ PySem.W.Sortable ps ∧ PyData.depthAll ps ≤ 190 ∧ True then .ok (.lst (sortB ((List.range ps.length).map fun (i : Nat) => D.int (i : Int)) ps)) S else .no
      | none => .no)
    | none => .no)
  | _ => .no
noncomputable def fOrder (j : Nat) (x : Str) (fe : FE) (i : Nat) : FE := fun ρ S => (fe ρ S).bnd fun n S1 => match ρ[i]? with
  | some (some d) => gOrder j x n d S1
  | _ => .no
/-- the def x's table and code -/
def TbF (K : PySem.W.Frag) (mg : Str → Option Value) (base : Heap) (x : Str) (cd : Value) : Prop := ∃ c P, PySem.W.tabIn K x = some (c, P) ∧ LamX.TabB base mg c P ∧ cd = .ref c
theorem q_order {X : Cx} {W : WX} {e : Expr} {fe : FE} {i j : Nat} {x : Str} {p p' pos pos' lp kp ap b1 b2 b3 : Pos} (hc : X.calm = true) (hu : X.A.units + 200 < cLine) (hdep : X.A.depth < recursionLimit) (hg : Gl X "sorted") (hm : X.mg "sorted" = none) (hg' : Gl X "range") (hm' : X.mg "range" = none) (he : PE X e (tF X W fe))
    (hN : X.N[i]? = some (Str.ofString "things")) (hcl : X.env.scope.names.lookup (Str.ofString "things") = some NameKind.cell) (hT : TbF X.K X.mg X.base x X.env.code) (hq : X.env.qual ++ "<lambda>" = tabQ x) (na' : starEach [e] X.env = (false, eval e X.env) :: starEach [] X.env := by rfl) 
    (na : starEach [.Call (.Name "range" p') [e] [] pos'] X.env = (false, eval (.Call (.Name "range" p') [e] [] pos') X.env) :: starEach [] X.env := by rfl) (hdef : defaultsOf (oPar ap) X.env = ([], []) := by rfl) :
    PE X (.Call (.Name "sorted" p) [.Call (.Name "range" p') [e] [] pos'] [⟨some "key", .Lambda (oPar ap) (oBody b1 b2 b3) oSc lp, kp⟩] pos) (tF X W (fOrder j x fe i)) := by
  refine ⟨fun pins s σ H Q I h => ?_⟩
  obtain ⟨w, ρ, S, s0, en, h⟩ := h
  obtain ⟨c, P, hti, TB, hcode⟩ := hT
  have hs : bootBuiltins (Str.ofString "sorted") = some (.builtin "sorted") := by decide +kernel
  refine wpAny_Call_Name_kw (ld_blt I hg hm hs ?_)
  have h1 : tF X W fe σ H (fun v H1 => ∃ w1 S1 n, Ext w H w1 H1 ∧ Sto X.K X.mg w1 S1 H1 ∧ Rp X.K X.mg w1 H1 n v ∧ End X.K X.mg (fun w H => Rp X.K X.mg w H) w1 H1 (match ρ[i]? with
      | some (some d) => gOrder j x n d S1
      | _ => .no) Q (fun c od H' => W c od σ H')) := ⟨w, ρ, S, s0, en, (End.bind (R := fun w H => Rp X.K X.mg w H) h).imp (fun v H1 ⟨w1, S1, n, e1, s1, r1, h1⟩ => ⟨w1, S1, n, e1, s1, r1, h1⟩) (fun _ _ _ z => z)⟩
  refine callWith_kw (args_cons (Call_ (ld_blt I hg' hm' boot_range (PyProof.Rows.callWith_type1 (one_arg he I h1 (fun v s2 y H2 I2 r q => ?_) na') na'))) na) (by rw [na]; rfl) (by rw [na]; rfl) (by rfl) (by rfl)
  obtain ⟨w1, S1, n, e1, s1, r1, h2⟩ := q
  split at h2
  case h_2 => exact h2.elim
  rename_i d hd
  unfold gOrder at h2
  split at h2
  case h_2 => exact h2.elim
  rename_i m
  split at h2
  case h_2 => exact h2.elim
  rename_i ys hys
  split at h2
  case h_2 => exact h2.elim
  rename_i ps hps
  split at h2
  case isFalse => exact h2.elim
  rename_i hk
  obtain ⟨hk1, hk2, hk3, hk4, hk5, hk6, hk7⟩ := hk
  have ey := rp_int r1
  subst ey
  obtain ⟨t, rfl⟩ := r
  refine call_range_1 ?_
  have nR : H2 s2.heap.objs.size = none := I2.hok.fresh (Nat.le_refl _)
  have I3 := I2.laid (t' := s2.toks + 1 + 1) (h' := s2.heap.push { cls := .type "range", data := .fields #[.int 0 s2.toks, .int m t, .int 1 (s2.toks + 1)] }) (a := s2.heap.objs.size) (o := .rng 0 m) (fun b u z => Heap.get?_push_of_some _ z) (Nat.le_refl _) ⟨_, _, _, Heap.get?_push_size _ rfl⟩
  have x3 : Ext w1 H2 w1 (upd H2 s2.heap.objs.size (.rng 0 m)) := Ext.new nR
  have s3 := s1.beside (o := .rng 0 m) nR
  obtain ⟨c0, P0, t0, hφ, tw⟩ := s3.cell j _ hk3
  rw [hti] at t0; cases t0
  obtain ⟨tps, tp1, tp2, tp3⟩ := tw
  refine args_nil ?_
  refine kws_cons ?_
  refine lam_mk (c := c) (P := P) I3 TB hcode hq tp1 tp2 (fun pos cv z => by
    obtain ⟨c1, z1, z2, _⟩ := tp3 pos cv z
    exact ⟨c1, z1, z2⟩) hdef (fun y hy hfr => ?_) ?_
  · have ey : y = (Str.ofString "things", NameKind.free) := by
      simp only [oSc, List.mem_cons, List.not_mem_nil, or_false] at hy
      rcases hy with rfl | rfl
      · cases hfr
      · rfl
    rw [ey]
    exact I3.ok.has _ (.inl hcl)
  intro f c' pm ctv H4 s4 I4 lm f0 ffr hf _
  obtain ⟨x4, s4'⟩ := lam_sto s3 hk3 hφ tp1 lm
  refine kws_nil ?_
  show wpAny _ _ (call (.builtin "sorted") [.ref _] [(Str.ofString "key", .ref f)]) _ _ _
  have nRoff : ¬ some s2.heap.objs.size ∈ w1.φ := (s1.new nR).1
  have hR4 : H4 s2.heap.objs.size = some (.rng 0 m) := x4.fr _ _ upd_same nRoff
  obtain ⟨rt, ru, rv, hrng⟩ := I4.hok _ _ hR4
  have hlen : ps.length = ys.length := (pySL_length hps).symm
  obtain ⟨v, hσ, rd⟩ := en.at_ i d hd
  have x04 : Ext w H w1 H4 := (e1.trans x3).trans x4
  have rd4 := Rp.ext x04 _ _ rd
  obtain ⟨a, xs, rfl, hsq, rl⟩ := seqA_at s4' rd4 hys
  have dp := pySL_at s4' ys xs ps rl hps
  have hrd : ∃ its : List Value, Vals xs its ∧ (s4.heap.IsList a its.toArray ∨ IsTup s4.heap a its.toArray) := by
    rcases hsq with z | z
    · obtain ⟨its, rvs, hl, hz⟩ := I4.list z
      exact ⟨its, rvs, .inl hl.isList⟩
    · obtain ⟨its, rvs, hl, hz⟩ := I4.tuple z
      exact ⟨its, rvs, .inr hl⟩
  obtain ⟨its, rvs, hl⟩ := hrd
  obtain ⟨as, ra⟩ := Dp.readsAll I4 ps xs its dp rvs
  obtain ⟨mm, hns, hlo⟩ := I4.loc
  obtain ⟨u, ru', hlk⟩ := hlo i _ _ hN hσ (.inr (.inl hcl))
  cases ru'
  have hcell : ∃ cc, X.env.cells.lookup (Str.ofString "things") = some cc ∧ s4.heap.IsCell cc (some (.ref a)) := by
    rcases hlk with ⟨k', _⟩ | ⟨_, cc, h1, h2⟩
    · have k2 : X.env.scope.names.lookup (Str.ofString "things") = some .local := k'
      rw [hcl] at k2; cases k2
    · exact ⟨cc, h1, h2⟩
  obtain ⟨cc, hcc, hic⟩ := hcell
  have hclo : cloFrom X.env.cells oSc.names [] = [(Str.ofString "things", cc)] := by
    show cloFrom X.env.cells [(Str.ofString "place", NameKind.local), (Str.ofString "things", NameKind.free)] [] = _
    unfold cloFrom
    rw [if_neg (by decide)]
    unfold cloFrom
    rw [if_pos (by decide)]
    unfold cloFrom
    rw [hcc]; rfl
  rw [hclo] at hf
  have hco : H4 c' = some (LamX.CodeO c' (tabQ x)) := by
    rcases lm with ⟨rfl, z⟩ | ⟨_, _, _, rfl, _, _⟩
    · exact z
    · exact upd_same
  obtain ⟨⟨oc, cvs, ct, k1, k2, k3⟩, _, _⟩ := I4.hok _ _ hco
  refine sorted_rangeK (kz := ps) (n := m) (f := .ref f) (b := false) (I4.ok.hd hc) hrng (by omega) hk2 (by omega) hk4 hk5 (fun q hq => ?_) (ksk_s1 _ _) (fun _ => ksk_l1 _ _) (fun _ => ksk_t1 _ _) (fun k tk0 q hkq g tk kp => ?_) fun out n' g tk Da kp nD gD hol hv => ?_
  · have := depth_mem hq
    omega
  · obtain ⟨uv, bs, hu1, hu2⟩ := readsAll_get ra hkq
    have hkl : k < ps.length := by
      rcases Nat.lt_or_ge k ps.length with l | l
      · exact l
      · rw [List.getElem?_eq_none l] at hkq; cases hkq
    obtain ⟨oc2, hc1, hc2⟩ := hic
    have hl' : g.IsList a its.toArray ∨ IsTup g a its.toArray := by
      rcases hl with ⟨ol, hl1, hl2⟩ | ⟨ol, hl1, hl2⟩
      · exact .inl ⟨ol, kp _ _ hl1, hl2⟩
      · exact .inr ⟨ol, kp _ _ hl1, hl2⟩
    exact order_turn (A := X.A.in1.in1) (s := { s4 with heap := g, toks := tk }) (c := cc) (c' := c') (a := a) (its := its.toArray) (u := uv) hdep (kp _ _ hf) ⟨c', oc, cvs, ct, rfl, kp _ _ k1, k2, k3⟩ ⟨oc2, kp _ _ hc1, hc2⟩ hl' (by simpa using hu1) (by omega) (I4.nolimit.keeps kp) (PyProof.Rows.Reads.keeps kp hu2) (reads_old hu2)
  · have nD4 : H4 Da = none := I4.hok.gone nD
    have hsz : (sortB ((List.range ps.length).map fun (i : Nat) => V.int (i : Int)) ps).length ≤ sizeLine := by
      rw [sortB_length (by simp), sizeLine_eq]; simp; omega
    refine ⟨.ref Da, upd H4 Da (.lst (sortB ((List.range ps.length).map fun (i : Nat) => V.int (i : Int)) ps)), I4.laidN (t' := tk) kp nD nD4 ⟨hsz, out, n', hv, gD⟩, rfl, ?_⟩
    have ri : RpL X.K X.mg w1 H4 ((List.range ps.length).map fun (i : Nat) => Kw.D.int (i : Int)) ((List.range ps.length).map fun (i : Nat) => V.int (i : Int)) := by
      have := RpL.ints (K := X.K) (mg := X.mg) (w := w1) (H := H4) ((List.range ps.length).map fun (i : Nat) => (i : Int))
      rw [List.map_map, List.map_map] at this
      exact this
    exact newLst s4' (ri.sort (by simp)) nD4 (End.on (x3.trans x4) h2)
/-! ### defs that make lambdas; a def by another name -/
section
variable {P : Program} {w : World} {K : PySem.W.Frag} {mg : Str → Option Value} {base : Heap}
/-- what the top knows of the def x's table -/
def TbK (K : PySem.W.Frag) (mg : Str → Option Value) (base : Heap) (x : Str) : Prop := ∃ c P, PySem.W.tabIn K x = some (c, P) ∧ LamX.TabB base mg c P
theorem fn_okL {x : Str} {st : Stmt} {f : Addr} {fd : FuncData} {N ps : List Str} {k : Nat} {b : FS} (F : Fun K x x st f fd) (S : FnScope N ps (defScope st)) (hm : mg x = some (.ref f)) (Kb : K.In base) (Gb : base.Ns mainGlobals mg) (B : TbK K mg base x)
    (hb : ∀ (cdv : Value) (A : Around) (outer : List Env) (s : Shared) (H : Hp) (E : XK), TbF K mg base x cdv → RoomG k (A.deeper (envOfC x (defScope st) s.heap.objs.size f cdv)) →
      PSs (cxOf (L2.CX P w) P w K mg base N x (defScope st) f cdv A outer s H E) (defBody st) (tS (cxOf (L2.CX P w) P w K mg base N x (defScope st) f cdv A outer s H E) (fun c d _ H => E c d H) b)) :
    FnG P w K mg base (k + 1) f fd ps (spF K mg ps.length (fnB ps.length N.length b)) := by
  obtain ⟨oc, od, kV, doc, pm, an, cdv, ct, osl, rfl, lk, hcd⟩ := F.ex
  obtain ⟨c, Pt, ht, tb⟩ := B
  have ec : cdv = .ref c := PySem.W.law_code Kb Gb ht hm (Kb _ _ lk) rfl
  have TB : TbF K mg base x cdv := ⟨c, Pt, ht, tb, ec⟩
  refine ⟨fun vs H Q E ⟨w, st, ds, s, r, l, h⟩ => by rw [← r.length]; exact l, fun A stk s H ar us vs Q E hr e0 hbd hv hsp => ?_⟩
  obtain ⟨w1, S1, ds, s1, r1, l, hE⟩ := hsp
  have size : vs.length = ps.length := by rw [← r1.length]; exact l
  have up : ∀ b o, base.get? b = some o → s.heap.get? b = some o := fun b o z => (e0.bs b o z).1
  have KX : K.In s.heap := e0.mod.kin.keeps up
  refine codeAny_call_function hr.rm.depth (KX _ _ lk) rfl S.co S.gen rfl (PySem.W.codeRec_of KX hcd) (hbd _ _ _ _ (wpAny_newFunctionEnv_cells S.kind (fun ⟨n, v⟩ hn => ?par) fun env he s2 xc => ?run))
  case par =>
    rcases S.par n (List.of_mem_zip hn).1 with q | q
    · exact .inl q
    · exact .inr ⟨q, PySem.W.cellsFrom_some _ _ _ (.inl q)⟩
  case run =>
    subst he
    have hp := hb cdv A stk s H E TB (hr.down _)
    have I0 := inv_start (CX := L2.CX P w) (E := E) S hr.rm.hd e0 size hv xc
    have hq : tS (cxOf (L2.CX P w) P w K mg base N x (defScope st) f cdv A stk s H E) (fun c d _ H => E c d H) b { nx := fun _ H' => Q .non H', rt := Q } (L2.start N vs) H := by
      refine ⟨w1, _, S1, s1, envStart (N := N) r1, ?_⟩
      unfold fnB at hE
      rw [if_pos l] at hE
      rw [l]
      revert hE
      cases hbb : b (ds.map some ++ List.replicate (N.length - ps.length) none) S1 with
      | nx ρ S2 => exact fun h w' H' σ' e s' en => h w' H' _ e s' rp_n
      | rt d S2 => exact fun h w' H' v e s' r' => h w' H' v e s' r'
      | ex x ρ S2 => exact fun h w' H' σ' c od e s' en ex => h w' H' c od e s' ex
      | bk ρ S2 => exact fun h => h.elim
      | ct ρ S2 => exact fun h => h.elim
      | no => exact fun h => h.elim
    refine ⟨(e0.mod.nolimit.keeps up).keeps xc.toInCall.keep, codeAny_func (wpAny_mono (hp.run [] s2 (L2.start N vs) H _ I0 hq) (fun fl s' hs => ?_) fun e s' hs => hs)⟩
    match fl, hs with
    | .ret u, ⟨v, σ', H', J, rv, q⟩ => exact ⟨v, H', J.os, J.bare, J.base, J.hok, rv, q⟩
    | .next, ⟨σ', H', J, q⟩ => exact ⟨.non, H', J.os, J.bare, J.base, J.hok, rfl, q⟩
    | .brk, ⟨_, _, _, q⟩ => exact q.elim
    | .cont, ⟨_, _, _, q⟩ => exact q.elim
theorem calLB {x : Str} {st : Stmt} {N ps : List Str} {k : Nat} {b : FS} (T : TF K mg x st ps) (S : FnScope N ps (defScope st)) (Kb : K.In base) (Gb : base.Ns mainGlobals mg) (B : TbK K mg base x)
    (hb : ∀ (f : Addr) (cdv : Value) (A : Around) (outer : List Env) (s : Shared) (H : Hp) (E : XK), TbF K mg base x cdv → RoomG k (A.deeper (envOfC x (defScope st) s.heap.objs.size f cdv)) →
      PSs (cxOf (L2.CX P w) P w K mg base N x (defScope st) f cdv A outer s H E) (defBody st) (tS (cxOf (L2.CX P w) P w K mg base N x (defScope st) f cdv A outer s H E) (fun c d _ H => E c d H) b)) (hps : ps = (defArgs st).args.map (·.arg) := by rfl) :
    Cal P w K mg base (k + 1) x (fnB ps.length N.length b) := by
  obtain ⟨f, fd, F, m, bd⟩ := T
  exact ⟨f, fd, ps, fn_okL F S m Kb Gb B (hb f), m, F.kp, bd, fnB_ar, hps.trans (fun_names F).symm, fun_look F⟩
theorem calLC {x : Str} {st : Stmt} {N ps : List Str} {k : Nat} {b : FS} (T : TF K mg x st ps) (S : FnScope N ps (defScope st)) (Kb : K.In base) (Gb : base.Ns mainGlobals mg) (B : TbK K mg base x)
    (hb : ∀ (f : Addr) (cdv : Value) (A : Around) (outer : List Env) (s : Shared) (H : Hp) (E : XK), TbF K mg base x cdv → RoomG k (A.deeper (envOfC x (defScope st) s.heap.objs.size f cdv)) →
      PSs (cxOf (L2.CX P w) P w K mg base N x (defScope st) f cdv A outer s H E) (defBody st) (tS (cxOf (L2.CX P w) P w K mg base N x (defScope st) f cdv A outer s H E) (fun c d _ H => E c d H) b)) (hps : ps = (defArgs st).args.map (·.arg) := by rfl) :
    Cal P w K mg base (k + 1) x (fnC ps.length N.length b) := by
  obtain ⟨f, fd, F, m, bd⟩ := T
  exact ⟨f, fd, ps, spF_cut (fn_okL F S m Kb Gb B (hb f)), m, F.kp, bd, fnC_ar, hps.trans (fun_names F).symm, fun_look F⟩
/-- the def nm stands at the module's top by the name x -/
def TFa (K : PySem.W.Frag) (mg : Str → Option Value) (x nm : Str) (st : Stmt) (ps : List Str) : Prop := ∃ f fd, Fun K nm nm st f fd ∧ mg x = some (.ref f) ∧ Binds K fd ps []
theorem tfa_mk {h : Heap} {x nm : Str} {st : Stmt} {ps : List Str} {f : Addr} {oc : Value} {od an : Option Addr} {osl : Array (Option Value)} {kV doc pm cdv ct : Value} (X : K.In h) (G : h.Ns mainGlobals mg) (a : PySem.W.nsIn K mainGlobals x = some (some (.ref f)))
    (l : K.lookup f = some ⟨oc, od, .func (PySem.W.fnOf nm nm (defArgs st) (defBody st) (defScope st) .none kV doc pm an cdv ct), osl⟩) (c : PySem.W.codeIn K cdv nm = true) (k : PySem.W.keepIn K (.ref f) = true)
    (hb : ∀ (kV doc pm : Value) (an : Option Addr) (cdv ct : Value) (us : List Value), us.length = ps.length → bindArgs (PySem.W.fnOf nm nm (defArgs st) (defBody st) (defScope st) .none kV doc pm an cdv ct) ⟨us, []⟩ = pure (ps.zip us)) : TFa K mg x nm st ps :=
  ⟨f, _, fun_mk l c k, PySem.W.mg_of X G a, (fun_mk l c k).binds hb⟩
theorem cala_zero {x nm : Str} {st : Stmt} {ps : List Str} (T : TFa K mg x nm st ps) (hps : ps = (defArgs st).args.map (·.arg) := by rfl) : Cal P w K mg base 0 x (fun _ _ => .no) := by
  obtain ⟨f, fd, F, m, b⟩ := T
  refine ⟨f, fd, ps, ⟨fun vs H Q E ⟨w, S, ds, s, r, l, h⟩ => ?_, fun A outer s H args us vs Q E _ _ _ _ ⟨w, S, ds, st, r, l, h⟩ => h.elim⟩, m, F.kp, b, fun _ _ _ => rfl, hps.trans (fun_names F).symm, fun_look F⟩
  rw [← r.length]; exact l
theorem calaB {x nm : Str} {st : Stmt} {N ps : List Str} {k : Nat} {b : FS} (T : TFa K mg x nm st ps) (S : FnScope N ps (defScope st))
    (hb : ∀ (f : Addr) (cdv : Value) (A : Around) (outer : List Env) (s : Shared) (H : Hp) (E : XK), RoomG k (A.deeper (envOfC nm (defScope st) s.heap.objs.size f cdv)) →
      PSs (cxOf (L2.CX P w) P w K mg base N nm (defScope st) f cdv A outer s H E) (defBody st) (tS (cxOf (L2.CX P w) P w K mg base N nm (defScope st) f cdv A outer s H E) (fun c d _ H => E c d H) b)) (hps : ps = (defArgs st).args.map (·.arg) := by rfl) :
    Cal P w K mg base (k + 1) x (fnB ps.length N.length b) := by
  obtain ⟨f, fd, F, m, bd⟩ := T
  exact ⟨f, fd, ps, fn_ok F S (hb f), m, F.kp, bd, fnB_ar, hps.trans (fun_names F).symm, fun_look F⟩
theorem calaC {x nm : Str} {st : Stmt} {N ps : List Str} {k : Nat} {b : FS} (T : TFa K mg x nm st ps) (S : FnScope N ps (defScope st))
    (hb : ∀ (f : Addr) (cdv : Value) (A : Around) (outer : List Env) (s : Shared) (H : Hp) (E : XK), RoomG k (A.deeper (envOfC nm (defScope st) s.heap.objs.size f cdv)) →
      PSs (cxOf (L2.CX P w) P w K mg base N nm (defScope st) f cdv A outer s H E) (defBody st) (tS (cxOf (L2.CX P w) P w K mg base N nm (defScope st) f cdv A outer s H E) (fun c d _ H => E c d H) b)) (hps : ps = (defArgs st).args.map (·.arg) := by rfl) :
    Cal P w K mg base (k + 1) x (fnC ps.length N.length b) := by
  obtain ⟨f, fd, F, m, bd⟩ := T
  exact ⟨f, fd, ps, spF_cut (fn_ok F S (hb f)), m, F.kp, bd, fnC_ar, hps.trans (fun_names F).symm, fun_look F⟩
/-- from the top's tables -/
theorem tbK_of {cs : List Tb} {c Pt : Addr} {x : Str} (h : ∀ p ∈ cs, LamX.TabB base mg p.1 p.2.1) (ht : PySem.W.tabIn K x = some (c, Pt)) (hm : (c, Pt, x) ∈ cs) : TbK K mg base x := ⟨c, Pt, ht, h _ hm⟩
/-- the law's def, which makes lambdas, as the end wants it -/
theorem law_mkL {h : Heap} {k : Nat} {fa f : Addr} {x nm : Str} {st : Stmt} {N : List Str} {b : FS} {cs : List Tb} {oc : Value} {od an : Option Addr} {osl : Array (Option Value)} {kV doc pm cdv ct : Value} (X : K.In h) (G : h.Ns mainGlobals mg) (hfa : mg nm = some (.ref fa))
    (tk : TopOk K mg cs h) (tn : ∃ c Pt, PySem.W.tabIn K nm = some (c, Pt) ∧ (c, Pt, nm) ∈ cs) (a : PySem.W.nsIn K mainGlobals nm = some (some (.ref f))) (l : K.lookup f = some ⟨oc, od, .func (PySem.W.fnOf nm nm (defArgs st) (defBody st) (defScope st) .none kV doc pm an cdv ct), osl⟩) (c : PySem.W.codeIn K cdv nm = true) (kk : PySem.W.keepIn K (.ref f) = true)
    (hb : ∀ (kV doc pm : Value) (an : Option Addr) (cdv ct : Value) (us : List Value), us.length = 1 → bindArgs (PySem.W.fnOf nm nm (defArgs st) (defBody st) (defScope st) .none kV doc pm an cdv ct) ⟨us, []⟩ = pure ([x].zip us)) (S : FnScope N [x] (defScope st))
    (body : ∀ base : Heap, K.In base → base.Ns mainGlobals mg → (∀ p ∈ cs, LamX.TabB base mg p.1 p.2.1) → ∀ (f : Addr) (cdv : Value) (A : Around) (outer : List Env) (s : Shared) (H : Hp) (E : XK), TbF K mg base nm cdv → RoomG k (A.deeper (envOfC nm (defScope st) s.heap.objs.size f cdv)) →
      PSs (cxOf (L2.CX P w) P w K mg base N nm (defScope st) f cdv A outer s H E) (defBody st) (tS (cxOf (L2.CX P w) P w K mg base N nm (defScope st) f cdv A outer s H E) (fun c d _ H => E c d H) b))
    (hF : ∀ ns : List Int, ns.length ≤ 63 → (∀ z ∈ ns, Builtin.Int.intBits z ≤ 1048576) → ∃ S', fnB 1 N.length b [.fls (ns.map .int)] (topS0 cs) = .ok (.bl true) S') :
    ∃ (cs : List Tb) (fd : FuncData), TopOk K mg cs h ∧ (∀ (s : Shared) (u : Value), BindsTo s fd ⟨[u], []⟩ [(x, u)]) ∧ ∀ base : Heap, K.In base → base.Ns mainGlobals mg → (∀ p ∈ cs, LamX.TabB base mg p.1 p.2.1) → FnG P w K mg base (k + 1) fa fd [x] (spTop K cs) := by
  have e := hfa.symm.trans (PySem.W.mg_of X G a)
  cases e
  have F := fun_mk (st := st) l c kk
  refine ⟨cs, _, tk, fun s u => .of_eq (hb kV doc pm an cdv ct [u] rfl), fun base Kb Gb Tb => ?_⟩
  obtain ⟨c1, P1, t1, t2⟩ := tn
  exact (fn_okL F S hfa Kb Gb (tbK_of Tb t1 t2) (body base Kb Gb Tb fa)).weak (top_imp hF)
end
/-- the def x makes lambdas, and its table is not written in the program's heap -/
def tabOk (K : PySem.W.Frag) (x : Str) : Bool := match PySem.W.tabIn K x with
  | some (_, P) => (match K.lookup P with
    | none => true
    | some _ => false)
  | none => false
theorem tabOk_at {K : PySem.W.Frag} {x : Str} (h : tabOk K x = true) : ∃ c P, PySem.W.tabIn K x = some (c, P) ∧ K.lookup P = none := by
  unfold tabOk at h
  split at h
  · rename_i c P e
    refine ⟨c, P, e, ?_⟩
    split at h
    · assumption
    · cases h
  · cases h
def tabsDis (K : PySem.W.Frag) (xs : List Str) : Bool := decide ((xs.filterMap fun x => (PySem.W.tabIn K x).map fun p => p.2).Nodup)
theorem tabsDis_at {K : PySem.W.Frag} {xs : List Str} {ps : List Addr} (h : tabsDis K xs = true) (e : (xs.filterMap fun x => (PySem.W.tabIn K x).map fun p => p.2) = ps) : ps.Nodup := by
  subst e
  unfold tabsDis at h
  simpa using h
end Kw

/-! Kw24: targets over a list; less and greater of data. -/
namespace Kw
open PySem PySem.Spec PySem.Calls PyProof.Rows L2
/-- a, b = a list -/
def gUl (n : Nat) (gs : FGs) : FG := fun d ρ S => match d with
  | .lst ds => if ds.length = n then gs ds ρ S else none
  | _ => none
section
variable {X : Cx} {es : List Expr} {pos : Pos}
theorem q_gul {k n : Nat} {gs : FGs} {sl : List Nat} (hc : X.calm = true) (h : PGs X es (tGs X sl gs)) (hn : (assignEach es X.env).length = n := by rfl) (hst : (assignEach es X.env).findIdx? (·.1) = none := by rfl) : PG X (.Tuple es k pos) (tG X sl (gUl n gs)) :=
  PG.wk (pg_unl hc h hn hst) fun v σ H Q ⟨w, ρ, S, d, s, en, r, h⟩ => by
    unfold gUl at h
    split at h
    · rename_i ds
      split at h
      · rename_i hl
        obtain ⟨a, xs, e1, t1, q1⟩ := seqL_at (S := S) (d := .lst ds) s r rfl
        exact ⟨a, xs, e1, t1, by rw [← q1.length]; exact hl, w, ρ, S, ds, s, en, q1, h⟩
      · exact h.elim
    · exact h.elim
end
@[simp] theorem gUl_ap {n : Nat} {gs : FGs} {ds : List D} {ρ : FEnv} {S : Store} : gUl n gs (.lst ds) ρ S = if ds.length = n then gs ds ρ S else none := rfl
/-! ### less and greater of data that are alike -/
def rLtD (K : PySem.W.Frag) (gt : Bool) : R2 := fun x y H Q => ∃ d e, Dp K H x d ∧ Dp K H y e ∧ PySem.W.alike d e = true ∧ d ≠ .none ∧ min d.depth e.depth ≤ 190 ∧ Q (.bl (if gt then PySem.W.dataLt e d else PySem.W.dataLt d e)) H
open Classical in
noncomputable def gLtD (gt : Bool) (x y : D) (S : Store) : RE D := match pyS S x, pyS S y with
  | some d, some e => if PySem.W.alike d e = true ∧ d ≠ .none ∧ min d.depth e.depth ≤ 190 then .ok (.bl (if gt then PySem.W.dataLt e d else PySem.W.dataLt d e)) S else .no
  | _, _ => .no
section
variable {X : Cx}
theorem op_ltD (hu : X.A.units + 200 < cLine) : OpR X (compareOp .Lt) (rLtD X.K false) := by
  intro pins s σ H x y v u Q I rx ry h
  obtain ⟨d, e, hd, he, hk, hn, hp, q⟩ := h
  obtain ⟨as, r1⟩ := Dp.reads I d x v hd rx
  obtain ⟨bs, r2⟩ := Dp.reads I e y u he ry
  exact PySem.W.lt_data r1 r2 hk hn (by omega) ⟨.bl _, H, I, rfl, q⟩
theorem op_gtD (hu : X.A.units + 200 < cLine) : OpR X (compareOp .Gt) (rLtD X.K true) := by
  intro pins s σ H x y v u Q I rx ry h
  obtain ⟨d, e, hd, he, hk, hn, hp, q⟩ := h
  obtain ⟨as, r1⟩ := Dp.reads I d x v hd rx
  obtain ⟨bs, r2⟩ := Dp.reads I e y u he ry
  exact PySem.W.gt_data r1 r2 hk hn (by omega) ⟨.bl _, H, I, rfl, q⟩
theorem ltD_v {K : PySem.W.Frag} {mg : Str → Option Value} {gt : Bool} : OpV K mg (rLtD K gt) (gLtD gt) := by
  intro w S H x y d e Q E s r1 r2 h
  unfold gLtD at h
  split at h
  · rename_i p q h1 h2
    split at h
    · rename_i hk
      exact ⟨p, q, pyS_at s d x p r1 h1, pyS_at s e y q r2 h2, hk.1, hk.2.1, hk.2.2, h.ret s rp_b⟩
    · exact h.elim
  · exact h.elim
end
/-- a constant of the module: a tuple of whole numbers -/
theorem gt_mk {K : PySem.W.Frag} {h : Heap} {mg : Str → Option Value} {x : Str} {ns : List Int} {a : Addr} {its : Array Value} {n : Nat} (X : K.In h) (G : h.Ns mainGlobals mg) (z : PySem.W.nsIn K mainGlobals x = some (some (.ref a))) (l : K.lookup a = some ⟨.type "tuple", none, .seq its n, #[]⟩) (s : its.size ≤ sizeLine) (e : Vals (ns.map V.int) its.toList) : GT K mg x ns :=
  ⟨a, _, its, n, PySem.W.mg_of X G z, l, rfl, rfl, s, e⟩
end Kw

/-! Kw25: x(lambda: body): a def that calls what it was handed. -/
namespace Kw
open PySem PySem.Spec PySem.Calls PyProof.Rows L2
theorem among_left {pos : Pos} {cv : Value} (r : List Value) (l : List Value) (h : TriplesOk l) (hc : codeAmong pos l = some cv) : codeAmong pos (l ++ r) = some cv := by
  fun_induction TriplesOk l with
  | case1 => simp [codeAmong] at hc
  | case2 a t b u x rest ih =>
    simp only [List.cons_append, codeAmong] at hc ⊢
    split at hc
    · rename_i q
      rw [if_pos q]; exact hc
    · rename_i q
      rw [if_neg q]; exact ih h hc
  | case3 l h1 h2 => exact h.elim
open Classical in
/-- asks what was handed: f, made in the environment σ, whose tree is the cell n -/
noncomputable def fAct (j : Nat) (x : Str) (n : Nat) (f : Addr) (σ : L2.St) (tb : FE) : FE := fun ρ S => match ρ[0]? with
  | some (some (Kw.D.exn f')) => if f' = f ∧ S[j]? = some (.tab x) then (match S[n]? with
    | some (.gst ρc σc) => if σc = σ then tb ρc S else .no
    | _ => .no) else .no
  | _ => .no
section
variable {X : Cx} {pins : List (Addr × Obj)} {σ : L2.St} {H : Hp} {s : Shared}
/-- the lambda is called -/
theorem act_pe {CXg : CXT} {Eg : XK} {Ng : List Str} {qg : Str} {sg : Scope} {g f c c' P : Addr} {cdg pm ctv : Value} {params : Arguments} {body : Expr} {scope : Scope} {k : Nat} {j n : Nat} {a x : Str} {pn : List (Addr × Obj)} {xe : Value → Shared → Prop} {W : WX} {tb : FE} {p1 p2 lpos : Pos} {ps0 : Array Value}
    (I : Inv X pins σ H s) (L : LamX.LamS X.env.scope scope) (hf : s.heap.get? f = some (PySem.W.kla_obj "<lambda>" (tabQ x) params body scope (cloFrom X.env.cells scope.names []) pm c' ctv)) (hq : X.env.qual ++ "<lambda>" = tabQ x) (hfn : H f = none) (hfr : f ∉ frs X.stack)
    (hbind : bindArgs (PySem.W.kla_fn "<lambda>" (tabQ x) params body scope (cloFrom X.env.cells scope.names []) pm (.ref c') ctv) ⟨[], []⟩ = pure [])
    (hti : PySem.W.tabIn X.K x = some (c, P)) (hP : H P = some (.tbl ps0)) (tri : TriplesOk ps0.toList) (ham : codeAmong lpos ps0.toList = some (.ref c'))
    (tk : Takes ((cxOf CXg X.prog X.w X.K X.mg X.base Ng qg sg g cdg X.A X.stack s H Eg).tr pn xe) W) (hr : RoomG (k + 1) (X.A.deeper (envOfC qg sg s.heap.objs.size g cdg)))
    (hbody : ∀ (A : Around) (outer : List Env) (s : Shared) (H : Hp) (E : XK), RoomG k (A.deeper (LamX.lamEnv X scope s.heap.objs.size f c')) → PE (LamX.lamCx X A outer s H E scope f c') body (tF (LamX.lamCx X A outer s H E scope f c') (fun c d _ H => E c d H) tb))
    (hN : Ng[0]? = some a) (hv : Vis sg a) (hd : (a == ("__debug__" : Str)) = false := by decide) (hcd : (a == ("__classdict__" : Str)) = false := by decide) :
    PE ((cxOf CXg X.prog X.w X.K X.mg X.base Ng qg sg g cdg X.A X.stack s H Eg).tr pn xe) (.Call (.Name a p1) [] [] p2)
      (tF ((cxOf CXg X.prog X.w X.K X.mg X.base Ng qg sg g cdg X.A X.stack s H Eg).tr pn xe) W (fAct j x n f σ tb)) := by
  refine ⟨fun pinsZ sZ σZ HZ Q IZ h => ?_⟩
  obtain ⟨w, ρ, S, s0, en, hE⟩ := h
  unfold fAct at hE
  split at hE
  case h_2 => exact hE.elim
  rename_i f' hρ
  split at hE
  case isFalse => exact hE.elim
  rename_i hk
  obtain ⟨ef, hj⟩ := hk
  subst ef
  split at hE
  case h_2 => exact hE.elim
  rename_i ρc σc hn
  split at hE
  case isFalse => exact hE.elim
  rename_i es
  subst es
  obtain ⟨v0, hs, hv0⟩ := en.at_ 0 _ hρ
  unfold Rp at hv0
  subst hv0
  have enc := (s0.cell n _ hn).2
  refine wpAny_Call_Name_kw (thn ((pe_var (pos := p1) (i := 0) hN hv hd hcd).run pinsZ sZ σZ HZ (fun v H1 => v = .ref f' ∧ H1 = HZ) IZ ⟨.ref f', hs, rfl, rfl⟩) fun u s1 ⟨v, H1, I1, r1, q1⟩ => ?_)
  obtain ⟨ev, eH⟩ := q1
  subst ev
  rw [eH] at I1
  obtain rfl : u = Value.ref f' := r1
  have of1 := I1.base.keep f' _ hf hfn hfr (fun z => nomatch (show f' ∈ ([] : List Addr) from z))
  refine PySem.W.callWith_F0 ⟨_, _, _, _, of1⟩ ?_
  have un : Un (frs X.stack) [] H HZ s.heap s1.heap := I1.base
  have hco : HZ c' = some (LamX.CodeO c' (tabQ x)) := by
    obtain ⟨more, hm⟩ := un.tbls P ps0 hP
    obtain ⟨c0, P0, t0, t1, ps', e1, e2, e3⟩ := s0.cell j _ hj
    have t0' : PySem.W.tabIn X.K x = some (c0, P0) := t0
    rw [hti] at t0'; cases t0'
    rw [hm] at e1; cases e1
    obtain ⟨d, d1, d2, _⟩ := e3 lpos (.ref c') (by
      rw [Array.toList_append]; exact among_left _ _ tri ham)
    cases d1
    exact d2
  obtain ⟨⟨oc, vs, t, hoc, hdc, hvc⟩, _, _⟩ := I1.hok c' _ hco
  have rc : codeAny (model X.prog X.w) (X.A.deeper (envOfC qg sg s.heap.objs.size g cdg)) (.call (.ref f') ⟨[], []⟩) (CR (L2.CX X.prog X.w) (envOfC qg sg s.heap.objs.size g cdg :: X.stack) X.prog X.w HZ s1 Q (WE W σZ)) s1 := by
    refine PySem.W.kla_callFunE hr.rm.depth of1 rfl L.co L.gen rfl ⟨c', oc, vs, t, rfl, hoc, hdc, hvc⟩ ?_
    rw [hbind]
    refine wpAny_pure (wpAny_newFunctionEnv (fun y hy => (L.own y hy).2) (fun y hy => absurd hy (by simp)) (fun h₁ hns hsb => ⟨I1.nolimit.fresh _ hsb, ?_⟩) L.kind)
    rw [← hq]
    show codeAny _ _ (.expr body (LamX.lamEnv X scope s1.heap.objs.size f' c')) _ _
    have kp : ∀ b o, s1.heap.get? b = some o → h₁.get? b = some o := fun b o e => hsb.extBut b o (Nat.ne_of_lt (Heap.lt_size e)) (Heap.get?_push_of_some _ e)
    have J : Inv (LamX.lamCx X (X.A.deeper (envOfC qg sg s.heap.objs.size g cdg)) (envOfC qg sg s.heap.objs.size g cdg :: X.stack) s1 HZ (WE W σZ) scope f' c') [] σc HZ { s1 with heap := h₁, toks := s1.toks + ([] : List (Str × Value)).length } :=
      LamX.lam_start2 I L I1.env0 hr.rm.hd un hns kp
    refine PySem.W.kla_codeExpr (wpAny_mono ((hbody _ _ s1 HZ _ (hr.down _)).run [] _ _ HZ Q J ⟨w, ρc, S, s0, enc, hE⟩) (fun v s' hq => ?_) fun e s' hq => hq)
    obtain ⟨w', H', J', rv, q⟩ := hq
    exact ⟨w', H', J'.os, J'.bare, J'.base, J'.hok, rv, q⟩
  refine wpAny_call (codeAny_mono rc fun r s' hq => ?_)
  cases r with
  | error e => exact passAt tk σZ pinsZ HZ s1 e s' I1 hq
  | ok fl =>
    cases fl with
    | ret u => exact I1.after hq
    | next => exact False.elim hq
    | brk => exact False.elim hq
    | cont => exact False.elim hq
end
open Classical in
/-- a result that neither the address nor the slots matter to -/
noncomputable def aInd2 (R : Addr → L2.St → RE D) : RE D := if ∀ f σ, R f σ = R 0 [] then R 0 [] else .no
theorem aInd2_eq {R : Addr → L2.St → RE D} {r : RE D} (h : ∀ f σ, R f σ = r) : aInd2 R = r := by
  unfold aInd2
  rw [if_pos (fun f σ => by rw [h f σ, h 0 []]), h 0 []]
open Classical in
/-- x(lambda: body): bg is x's body, nG its names -/
noncomputable def fThunk (j : Nat) (xq : Str) (nG : Nat) (bg : FE → FS) (tb : FE) : FE := fun ρ S => if S[j]? = some (.tab xq) then
  aInd2 fun f σ => cutR S ((bg (fAct j xq S.length f σ tb) ([Kw.D.exn f].map some ++ List.replicate (nG - 1) none) (S ++ [.gst ρ σ])).fin) else .no
section
variable {K : PySem.W.Frag} {mg : Str → Option Value} {w : Wd} {S : Store} {H : Hp}
theorem ghost_ext : Ext w H ⟨w.φ ++ [none], w.hd⟩ H where
  fr := fun _ _ h _ => h
  ln := by show _ ≤ (w.φ ++ [none]).length; simp
  ph := fun n a h l => by
    have h' : (w.φ ++ [none])[n]? = some (some a) := h
    rw [List.getElem?_append_left l] at h'
    exact h'
  nw := fun a h => by
    rcases List.mem_append.mp (show some a ∈ w.φ ++ [none] from h) with z | z
    · exact .inl z
    · simp at z
  hd := rfl
theorem ghost_sto {ρ : FEnv} {σ : L2.St} (s : Sto K mg w S H) (en : EnvR K mg w H ρ σ) : Sto K mg ⟨w.φ ++ [none], w.hd⟩ (S ++ [.gst ρ σ]) H := by
  have at_ : ∀ (n : Nat) a, (w.φ ++ [none])[n]? = some (some a) → w.φ[n]? = some (some a) := fun n a h => by
    rcases Nat.lt_or_ge n w.φ.length with l | l
    · rwa [List.getElem?_append_left l] at h
    · rw [List.getElem?_append_right l] at h
      cases e : n - w.φ.length with
      | zero => rw [e] at h; simp at h
      | succ m => rw [e] at h; simp at h
  refine ⟨by show (w.φ ++ [none]).length = _; simp [s.len], fun m n a h1 h2 => s.nd m n a (at_ m a h1) (at_ n a h2), fun a ha => ⟨(s.ap a ha).1, fun z => ?_⟩, fun n c hc => ?_⟩
  · rcases List.mem_append.mp (show some a ∈ w.φ ++ [none] from z) with z | z
    · exact (s.ap a ha).2 z
    · simp at z
  · rcases Nat.lt_or_ge n S.length with l | l
    · rw [List.getElem?_append_left l] at hc
      have l' : n < w.φ.length := by rw [s.len]; exact l
      exact CellR.ext ghost_ext (fun a ha => ⟨by show (w.φ ++ [none])[n]? = _; rw [List.getElem?_append_left l']; exact ha, rfl⟩) (fun h => by show (w.φ ++ [none])[n]? = _; rw [List.getElem?_append_left l']; exact h) (s.cell n c hc)
    · rw [List.getElem?_append_right l] at hc
      cases e : n - S.length with
      | zero =>
        rw [e] at hc
        have hc' : Cell.gst ρ σ = c := by simpa using hc
        subst hc'
        have en' : n = w.φ.length := by rw [s.len]; omega
        refine ⟨?_, EnvR.ext ghost_ext en⟩
        show (w.φ ++ [none])[n]? = some none
        rw [List.getElem?_append_right (by omega), en', Nat.sub_self]; rfl
      | succ m => rw [e] at hc; simp at hc
end
section
variable {P : Program} {w : World} {K : PySem.W.Frag} {mg : Str → Option Value} {base : Heap}
/-- a def run from one state -/
theorem run_def {x : Str} {st : Stmt} {g : Addr} {fd : FuncData} {N ps : List Str} {k : Nat} {b : FS} (F : Fun K x x st g fd) (S : FnScope N ps (defScope st)) {A : Around} {stk : List Env} {s : Shared} {H : Hp} {ar : Args} {us : List Value} {vs : List V} {Q : VK} {E : XK} (hr : RoomG (k + 1) A) (e0 : Env0 P w K mg base A stk s H) (hbd : BindsTo s fd ar (ps.zip us)) (hv : Vals vs us)
    (hb : ∀ cdv : Value, RoomG k (A.deeper (envOfC x (defScope st) s.heap.objs.size g cdv)) → PSs (cxOf (L2.CX P w) P w K mg base N x (defScope st) g cdv A stk s H E) (defBody st) (tS (cxOf (L2.CX P w) P w K mg base N x (defScope st) g cdv A stk s H E) (fun c d _ H => E c d H) b))
    (hsp : spF K mg ps.length (fnB ps.length N.length b) vs H Q E) : codeAny (model P w) A (.call (.ref g) ar) (CR (L2.CX P w) stk P w H s Q E) s := by
  obtain ⟨oc, od, kV, doc, pm, an, cdv, ct, osl, rfl, lk, hcd⟩ := F.ex
  obtain ⟨w1, S1, ds, s1, r1, l, hE⟩ := hsp
  have size : vs.length = ps.length := by rw [← r1.length]; exact l
  have up : ∀ b o, base.get? b = some o → s.heap.get? b = some o := fun b o z => (e0.bs b o z).1
  have KX : K.In s.heap := e0.mod.kin.keeps up
  refine codeAny_call_function hr.rm.depth (KX _ _ lk) rfl S.co S.gen rfl (PySem.W.codeRec_of KX hcd) (hbd _ _ _ _ (wpAny_newFunctionEnv_cells S.kind (fun ⟨n, v⟩ hn => ?par) fun env he s2 xc => ?run))
  case par =>
    rcases S.par n (List.of_mem_zip hn).1 with q | q
    · exact .inl q
    · exact .inr ⟨q, PySem.W.cellsFrom_some _ _ _ (.inl q)⟩
  case run =>
    subst he
    have hp := hb cdv (hr.down _)
    have I0 := inv_start (CX := L2.CX P w) (E := E) S hr.rm.hd e0 size hv xc
    have hq : tS (cxOf (L2.CX P w) P w K mg base N x (defScope st) g cdv A stk s H E) (fun c d _ H => E c d H) b { nx := fun _ H' => Q .non H', rt := Q } (L2.start N vs) H := by
      refine ⟨w1, _, S1, s1, envStart (N := N) r1, ?_⟩
      unfold fnB at hE
      rw [if_pos l] at hE
      rw [l]
      revert hE
      cases hbb : b (ds.map some ++ List.replicate (N.length - ps.length) none) S1 with
      | nx ρ S2 => exact fun h w' H' σ' e s' en => h w' H' _ e s' rp_n
      | rt d S2 => exact fun h w' H' v e s' r' => h w' H' v e s' r'
      | ex x ρ S2 => exact fun h w' H' σ' c od e s' en ex => h w' H' c od e s' ex
      | bk ρ S2 => exact fun h => h.elim
      | ct ρ S2 => exact fun h => h.elim
      | no => exact fun h => h.elim
    refine ⟨(e0.mod.nolimit.keeps up).keeps xc.toInCall.keep, codeAny_func (wpAny_mono (hp.run [] s2 (L2.start N vs) H _ I0 hq) (fun fl s' hs => ?_) fun e s' hs => hs)⟩
    match fl, hs with
    | .ret u, ⟨v, σ', H', J, rv, q⟩ => exact ⟨v, H', J.os, J.bare, J.base, J.hok, rv, q⟩
    | .next, ⟨σ', H', J, q⟩ => exact ⟨.non, H', J.os, J.bare, J.base, J.hok, rfl, q⟩
    | .brk, ⟨_, _, _, q⟩ => exact q.elim
    | .cont, ⟨_, _, _, q⟩ => exact q.elim
end
section
variable {X : Cx} {W : WX}
theorem q_thunk {x a xq : Str} {st : Stmt} {Ng : List Str} {k j : Nat} {bg : FE → FS} {tb : FE} {params : Arguments} {body : Expr} {scope : Scope} {p lpos pos : Pos} (T : TF X.K X.mg x st [a]) (S : FnScope Ng [a] (defScope st)) (hN : Ng[0]? = some a) (hva : Vis (defScope st) a)
    (hG : ∀ (act : FE) (g : Addr) (cdv : Value) (A : Around) (outer : List Env) (s : Shared) (H : Hp) (E : XK), RoomG (k + 1) (A.deeper (envOfC x (defScope st) s.heap.objs.size g cdv)) →
      (∀ (pn : List (Addr × Obj)) (xe : Value → Shared → Prop) (W : WX) (p1 p2 : Pos), Takes ((cxOf (L2.CX X.prog X.w) X.prog X.w X.K X.mg X.base Ng x (defScope st) g cdv A outer s H E).tr pn xe) W →
        PE ((cxOf (L2.CX X.prog X.w) X.prog X.w X.K X.mg X.base Ng x (defScope st) g cdv A outer s H E).tr pn xe) (.Call (.Name a p1) [] [] p2) (tF ((cxOf (L2.CX X.prog X.w) X.prog X.w X.K X.mg X.base Ng x (defScope st) g cdv A outer s H E).tr pn xe) W act)) →
      PSs (cxOf (L2.CX X.prog X.w) X.prog X.w X.K X.mg X.base Ng x (defScope st) g cdv A outer s H E) (defBody st) (tS (cxOf (L2.CX X.prog X.w) X.prog X.w X.K X.mg X.base Ng x (defScope st) g cdv A outer s H E) (fun c d _ H => E c d H) (bg act)))
    (hr : RoomG (k + 2) X.A) (tk : Takes X W) (hg : Gl X x) (hT : TbF X.K X.mg X.base xq X.env.code) (hq : X.env.qual ++ "<lambda>" = tabQ xq) (L : LamX.LamS X.env.scope scope) (hdef : defaultsOf params X.env = ([], []))
    (hbind : ∀ (cl : List (Str × Addr)) (pm cv ctv : Value), bindArgs (PySem.W.kla_fn "<lambda>" (tabQ xq) params body scope cl pm cv ctv) ⟨[], []⟩ = pure [])
    (hbody : ∀ (A : Around) (outer : List Env) (s : Shared) (H : Hp) (E : XK) (f c' : Addr), RoomG k (LamX.lamCx X A outer s H E scope f c').A → Takes (LamX.lamCx X A outer s H E scope f c') (fun c d _ H => E c d H) → PE (LamX.lamCx X A outer s H E scope f c') body (tF (LamX.lamCx X A outer s H E scope f c') (fun c d _ H => E c d H) tb))
    (hdb : (x == ("__debug__" : Str)) = false := by decide) (hd : (a == ("__debug__" : Str)) = false := by decide) (hcd : (a == ("__classdict__" : Str)) = false := by decide) :
    PE X (.Call (.Name x p) [.Lambda params body scope lpos] [] pos) (tF X W (fThunk j xq Ng.length bg tb)) := by
  refine ⟨fun pins s σ H Q I h => ?_⟩
  obtain ⟨w, ρ, S0, s0, en, h⟩ := h
  obtain ⟨g, fd, F, hm, hb⟩ := T
  obtain ⟨c, P, hti, TB, hcode⟩ := hT
  unfold fThunk at h
  split at h
  case isFalse => exact h.elim
  rename_i hj
  unfold aInd2 at h
  split at h
  case isFalse => exact h.elim
  rename_i hind
  obtain ⟨c0, P0, t0, hφ, tw⟩ := s0.cell j _ hj
  rw [hti] at t0; cases t0
  obtain ⟨tps, tp1, tp2, tp3⟩ := tw
  refine wpAny_Call_Name_kw (ld_glob I hg hm ?_ hdb)
  refine PySem.W.callWith_K (h₀ := X.base) I.ok.mod.kin F.kp ?_ (by rfl) (by rfl)
  show wpAny _ _ (spliced ((false, eval (.Lambda params body scope lpos) X.env) :: backTo pos (starEach [] X.env))) _ _ s
  refine Calls.spliced_cons (lam_mk (c := c) (P := P) I TB hcode hq tp1 tp2 (fun pos cv z => by
    obtain ⟨c1, z1, z2, _⟩ := tp3 pos cv z
    exact ⟨c1, z1, z2⟩) hdef (L.has I.ok) fun f c' pm ctv H1 s' I1 lm hfn hfr hf ht => ?_)
  obtain ⟨x1, s1⟩ := lam_sto s0 hj hφ tp1 lm
  obtain ⟨ps1, hP1, tri1, ham⟩ := ht
  refine Calls.spliced_nil ⟨I1.kIn, ?_⟩
  have en1 : EnvR X.K X.mg w H1 ρ σ := EnvR.ext x1 en
  have hl : ([V.ref f] : List V).length = [a].length := rfl
  have rc : codeAny (model X.prog X.w) X.A (.call (.ref g) ⟨[.ref f], []⟩) (CR (L2.CX X.prog X.w) X.stack X.prog X.w H1 s' Q (WE W σ)) s' := by
    refine run_def (N := Ng) (ps := [a]) (us := [.ref f]) (vs := [.ref f]) (b := bg (fAct j xq S0.length f σ tb)) F S hr I1.env0 (binds0 (us := [.ref f]) hb I1.kIn rfl) (.cons rfl .nil) (fun cdv hr' => ?_) ?_
    · refine hG _ g cdv X.A X.stack s' H1 _ hr' fun pn xe W' p1 p2 tk' => ?_
      exact act_pe I1 L hf hq hfn hfr (hbind _ _ _ _) hti hP1 tri1 ham tk' hr' (fun A outer s H E hr2 => hbody A outer s H E f c' hr2 (takes_of rfl rfl rfl rfl)) hN hva hd hcd
    · refine ⟨⟨w.φ ++ [none], w.hd⟩, S0 ++ [.gst ρ σ], [.exn f], ghost_sto s1 en1, RpL.one (by unfold Rp; rfl), rfl, ?_⟩
      rw [← hind f σ] at h
      have h2 := End.cutE s1 (End.on x1 h)
      refine End.on ghost_ext ?_
      unfold fnB
      rw [if_pos (show ([Kw.D.exn f] : List Kw.D).length = [a].length from rfl)]
      exact h2
  refine wpAny_call (codeAny_mono rc fun r s2 hq => ?_)
  cases r with
  | error e => exact passAt tk σ pins H1 s' e s2 I1 hq
  | ok fl =>
    cases fl with
    | ret u => exact I1.after hq
    | next => exact False.elim hq
    | brk => exact False.elim hq
    | cont => exact False.elim hq
end
section
variable {P : Program} {w : World} {K : PySem.W.Frag} {mg : Str → Option Value} {base : Heap}
theorem cal_no {x : Str} {st : Stmt} {ps : List Str} {k : Nat} (T : TF K mg x st ps) (hps : ps = (defArgs st).args.map (·.arg) := by rfl) : Cal P w K mg base k x (fun _ _ => .no) := by
  obtain ⟨f, fd, F, m, b⟩ := T
  exact ⟨f, fd, ps, ⟨fun vs H Q E ⟨w, S, ds, s, r, l, h⟩ => by rw [← r.length]; exact l, fun A outer s H args us vs Q E _ _ _ _ ⟨w, S, ds, st, r, l, h⟩ => h.elim⟩, m, F.kp, b, fun _ _ _ => rfl, hps.trans (fun_names F).symm, fun_look F⟩
end
/-! ### without parameters -/
abbrev noPar : Arguments := { posonlyargs := [], args := [], vararg := none, kwonlyargs := [], kw_defaults := [], kwarg := none, defaults := [] }
theorem lam_bind0 {q : Str} {body : Expr} {scope : Scope} {cl : List (Str × Addr)} {pm cv ctv : Value} : bindArgs (PySem.W.kla_fn "<lambda>" q noPar body scope cl pm cv ctv) ⟨[], []⟩ = pure [] := rfl
theorem lam_def0 {env : Env} : defaultsOf noPar env = ([], []) := rfl
end Kw

/-! Kw26: own classes: C(..), e.f, self.f = e, o.m(..). -/
namespace Kw
open PySem PySem.Spec PySem.Calls PyProof.Rows L2
/-- the fields of an object of the class c may be read and stored -/
def FldC (K : PySem.W.Frag) (mg : Str → Option Value) (c f : Str) : Prop := ∃ C, mg c = some (.ref C) ∧ Cls K C ∧ NoAttr K C f
def obOf (S : Store) : D → Option (Str × List Str × List D)
  | .ins c fs ds => some (c, fs, ds)
  | .loc n => (match S[n]? with
    | some (.ob c fs ds) => some (c, fs, ds)
    | _ => none)
  | _ => none
def lookF (f : Str) : List Str → List D → Option D
  | g :: fs, d :: ds => if f = g then some d else lookF f fs ds
  | _, _ => none
def gFld (cs : List Str) (f : Str) (x : D) (S : Store) : RE D := match obOf S x with
  | some (c, fs, ds) => if c ∈ cs then (match lookF f fs ds with
    | some d => .ok d S
    | none => .no) else .no
  | none => .no
section
variable {K : PySem.W.Frag} {mg : Str → Option Value} {w : Wd} {H : Hp} {S : Store}
theorem obOf_at (s : Sto K mg w S H) {d : D} {v : V} {c : Str} {fs : List Str} {ds : List D} (r : Rp K mg w H d v) (h : obOf S d = some (c, fs, ds)) : ∃ a C dx vs, v = .ref a ∧ mg c = some (.ref C) ∧ H a = some (.ins C dx (fs.zip vs)) ∧ fs.length = vs.length ∧ RpL K mg w H ds vs := by
  cases d <;> simp only [obOf] at h <;> try (cases h; done)
  · cases h
    unfold Rp at r
    obtain ⟨a, C, dx, vs, e, m, t, _, l, q⟩ := r
    exact ⟨a, C, dx, vs, e, m, t, l, q⟩
  · rename_i n
    split at h
    · rename_i c' fs' ds' hz
      cases h
      obtain ⟨a, C, dx, vs, h1, h2, h3, h4, h5⟩ := s.cell n _ hz
      unfold Rp at r
      exact ⟨a, C, dx, vs, r.2 a h1, h2, h3, h4, h5⟩
    · cases h
theorem lookF_at {f : Str} : ∀ {fs : List Str} {ds : List D} {vs : List V} {d : D}, fs.length = vs.length → RpL K mg w H ds vs → lookF f fs ds = some d → ∃ v, (fs.zip vs).lookup f = some v ∧ Rp K mg w H d v
  | [], _, _, _, _, _, h => by simp [lookF] at h
  | g :: fs, [], _, _, _, _, h => by simp [lookF] at h
  | g :: fs, d :: ds, vs, e, l, r, h => by
    unfold RpL at r
    obtain ⟨v, us, e1, r1, r2⟩ := r
    subst e1
    simp only [lookF] at h
    rw [List.zip_cons_cons]
    by_cases hf : f = g
    · rw [if_pos hf] at h
      cases h
      have hb : (f == g) = true := beq_iff_eq.mpr hf
      exact ⟨v, by simp only [List.lookup, hb], r1⟩
    · rw [if_neg hf] at h
      have hb : (f == g) = false := beq_eq_false_iff_ne.mpr hf
      obtain ⟨u, h1, h2⟩ := lookF_at (by simpa using l) r2 h
      exact ⟨u, by simp only [List.lookup, hb]; exact h1, h2⟩
theorem lookup_none {f : Str} : ∀ {fs : List Str} {vs : List V}, f ∉ fs → (fs.zip vs).lookup f = none
  | [], _, _ => rfl
  | g :: fs, [], _ => rfl
  | g :: fs, v :: vs, h => by
    rw [List.zip_cons_cons]
    have hf : f ≠ g := fun z => h (by rw [z]; exact List.mem_cons_self)
    have hb : (f == g) = false := beq_eq_false_iff_ne.mpr hf
    simp only [List.lookup, hb]
    exact lookup_none fun z => h (List.mem_cons_of_mem _ z)
theorem putF_new {f : Str} {y : V} : ∀ {fs : List Str} {vs : List V}, fs.length = vs.length → f ∉ fs → putF f y (fs.zip vs) = (fs ++ [f]).zip (vs ++ [y])
  | [], [], _, _ => rfl
  | g :: fs, v :: vs, l, h => by
    have hf : ¬ g = f := fun z => h (by rw [z]; exact List.mem_cons_self)
    rw [List.zip_cons_cons, List.cons_append, List.cons_append, List.zip_cons_cons, putF, if_neg hf, putF_new (by simpa using l) fun z => h (List.mem_cons_of_mem _ z)]
/-- an object under way is written -/
theorem Sto.obSet {n : Nat} {l C dx : Addr} {c : Str} {fs : List Str} {ds : List D} {vs : List V} {o : HO} (s : Sto K mg w S H) (hw : w.φ[n]? = some (some l)) (hn : n < S.length) (hm : mg c = some (.ref C)) (ho : o = .ins C dx (fs.zip vs)) (hl : fs.length = vs.length) (r : RpL K mg w H ds vs) : Sto K mg w (S.set n (.ob c fs ds)) (upd H l o) := by
  have ex : Ext w H w (upd H l o) := Ext.write hw
  refine ⟨by rw [List.length_set]; exact s.len, s.nd, fun a ha => ⟨upd_some (s.ap a ha).1, (s.ap a ha).2⟩, fun m c' hc => ?_⟩
  by_cases e : m = n
  · subst e
    rw [List.getElem?_set_self hn] at hc
    cases hc
    exact ⟨l, C, dx, vs, hw, hm, by rw [upd_same, ho], hl, RpL.ext ex _ _ r⟩
  · rw [List.getElem?_set_ne (Ne.symm e)] at hc
    refine CellR.ext ex (fun a ha => ⟨ha, ?_⟩) id (s.cell m c' hc)
    exact upd_ne fun z => e (s.nd m n a ha (z ▸ hw))
/-- a new object -/
theorem Sto.obNew {p C dx : Addr} {c : Str} (s : Sto K mg w S H) (np : H p = none) (hm : mg c = some (.ref C)) : Sto K mg ⟨w.φ ++ [some p], w.hd⟩ (S ++ [.ob c [] []]) (upd H p (.ins C dx [])) := by
  have ex : Ext w H ⟨w.φ ++ [some p], w.hd⟩ (upd H p (.ins C dx [])) := Ext.cell np
  refine ⟨by show (w.φ ++ [some p]).length = _; rw [List.length_append, List.length_append, s.len]; rfl, fun m n a h1 h2 => ?_, fun a ha => ⟨upd_some (s.ap a ha).1, fun z => ?_⟩, fun n c hc => ?_⟩
  · have key : ∀ k, (w.φ ++ [some p])[k]? = some (some a) → (w.φ[k]? = some (some a) ∧ k < w.φ.length) ∨ (k = w.φ.length ∧ a = p) := fun k hk => by
      by_cases hl : k < w.φ.length
      · rw [List.getElem?_append_left hl] at hk; exact .inl ⟨hk, hl⟩
      · have hl' : w.φ.length ≤ k := Nat.le_of_not_lt hl
        rw [List.getElem?_append_right hl'] at hk
        have : k - w.φ.length = 0 := by
          cases e : k - w.φ.length with
          | zero => rfl
          | succ j => rw [e] at hk; simp at hk
        rw [this] at hk; simp at hk
        exact .inr ⟨by omega, hk.symm⟩
    rcases key m h1 with ⟨a1, b1⟩ | ⟨a1, b1⟩ <;> rcases key n h2 with ⟨a2, b2⟩ | ⟨a2, b2⟩
    · exact s.nd m n a a1 a2
    · subst b2; exact absurd (List.mem_of_getElem? a1) (s.new np).1
    · subst b1; exact absurd (List.mem_of_getElem? a2) (s.new np).1
    · omega
  · rcases List.mem_append.mp (show some a ∈ w.φ ++ [some p] from z) with h | h
    · exact (s.ap a ha).2 h
    · simp at h; subst h; exact (s.ap a ha).1 np
  · by_cases hl : n < S.length
    · rw [List.getElem?_append_left hl] at hc
      refine CellR.ext ex (fun a ha => ⟨by show (w.φ ++ [some p])[n]? = _; rw [List.getElem?_append_left (s.len ▸ hl)]; exact ha, ?_⟩) (fun hd => by show (w.φ ++ [some p])[n]? = _; rw [List.getElem?_append_left (s.len ▸ hl)]; exact hd) (s.cell n c hc)
      have : a ≠ p := fun z => by subst z; exact (s.new np).1 (List.mem_of_getElem? ha)
      rw [upd_ne this]
    · have hl' : S.length ≤ n := Nat.le_of_not_lt hl
      rw [List.getElem?_append_right hl'] at hc
      have e0 : n - S.length = 0 := by
        cases e : n - S.length with
        | zero => rfl
        | succ j => rw [e] at hc; simp at hc
      rw [e0] at hc; simp at hc; subst hc
      have en : n = w.φ.length := by rw [s.len]; omega
      subst en
      exact ⟨p, C, dx, [], by show (w.φ ++ [some p])[w.φ.length]? = _; rw [List.getElem?_append_right (Nat.le_refl _), Nat.sub_self]; rfl, hm, upd_same, rfl, RpL.nil⟩
/-- an object that is done is a value -/
theorem oz_at {n : Nat} {a : Addr} {c : Str} {fs : List Str} {ds : List D} {Q : VK} {E : Value → Option Addr → Hp → Prop} (s : Sto K mg w S H) (hz : S[n]? = some (.ob c fs ds)) (ha : w.φ[n]? = some (some a)) (h : End K mg (fun w H => Rp K mg w H) w H (.ok (.ins c fs ds) (S.set n .dead)) Q E) : Q (.ref a) H := by
  obtain ⟨a', C, dx, vs, h1, hm, h2, hl, h3⟩ := s.cell n _ hz
  rw [ha] at h1; cases h1
  have hn : n < w.φ.length := by
    rcases Nat.lt_or_ge n w.φ.length with z | z
    · exact z
    · rw [List.getElem?_eq_none z] at ha; cases ha
  have gs : (w.φ.set n none)[n]? = some none := by rw [List.getElem?_set_self hn]
  have gn : ∀ m : Nat, m ≠ n → (w.φ.set n none)[m]? = w.φ[m]? := fun m hm => List.getElem?_set_ne (Ne.symm hm)
  have sub : ∀ (m : Nat) b, (w.φ.set n none)[m]? = some (some b) → w.φ[m]? = some (some b) ∧ m ≠ n := fun m b q => by
    by_cases e : m = n
    · subst e; rw [gs] at q; cases q
    · rw [gn m e] at q; exact ⟨q, e⟩
  have mem : ∀ b, some b ∈ w.φ.set n none → some b ∈ w.φ := fun b q => by
    obtain ⟨m, hm⟩ := List.mem_iff_getElem?.mp q
    exact List.mem_of_getElem? (sub m b hm).1
  have out : some a ∉ w.φ.set n none := fun q => by
    obtain ⟨m, hm⟩ := List.mem_iff_getElem?.mp q
    obtain ⟨q1, q2⟩ := sub m a hm
    exact q2 (s.nd m n a q1 ha)
  have ex : Ext w H ⟨w.φ.set n none, w.hd⟩ H := ⟨fun _ _ h _ => h, by show _ ≤ (w.φ.set n none).length; rw [List.length_set]; exact Nat.le_refl _, fun m b q _ => (sub m b q).1, fun b q => .inl (mem b q), rfl⟩
  have s' : Sto K mg ⟨w.φ.set n none, w.hd⟩ (S.set n .dead) H := by
    refine ⟨by show (w.φ.set n none).length = _; rw [List.length_set, List.length_set]; exact s.len, fun m k b q1 q2 => s.nd m k b (sub m b q1).1 (sub k b q2).1, fun b hb => ⟨(s.ap b hb).1, fun z => (s.ap b hb).2 (mem b z)⟩, fun m c hc => ?_⟩
    by_cases e : m = n
    · subst e
      rw [List.getElem?_set_self (s.len ▸ hn)] at hc
      cases hc
      exact gs
    · rw [List.getElem?_set_ne (Ne.symm e)] at hc
      exact CellR.ext ex (fun b hb => ⟨by show (w.φ.set n none)[m]? = _; rw [gn m e]; exact hb, rfl⟩) (fun hb => by show (w.φ.set n none)[m]? = _; rw [gn m e]; exact hb) (s.cell m c hc)
  refine h ⟨w.φ.set n none, w.hd⟩ H (.ref a) ex s' ?_
  show Rp _ _ _ _ _ _
  unfold Rp
  exact ⟨a, C, dx, vs, rfl, hm, h2, ⟨out, fun z => (s.ap a z).2 (List.mem_of_getElem? ha)⟩, hl, RpL.ext ex _ _ h3⟩
end
/-- self.f = e -/
def sFl (cs : List Str) (f : Str) (fo fv : FE) : FS := fun ρ S => (fv ρ S).toS ρ fun y S1 => (fo ρ S1).toS ρ fun x S2 => match x with
  | .loc n => (match S2[n]? with
    | some (.ob c fs ds) => if c ∈ cs ∧ f ∉ fs ∧ fs.length < 999 then .nx ρ (S2.set n (.ob c (fs ++ [f]) (ds ++ [y]))) else .no
    | _ => .no)
  | _ => .no
/-- the class c's method m computes f -/
def CalM (P : Program) (w : World) (K : PySem.W.Frag) (mg : Str → Option Value) (base : Heap) (k : Nat) (c m : Str) (f : FF) : Prop :=
  ∃ C a fd ps, mg c = some (.ref C) ∧ Cls K C ∧ Meth K C m a ∧ FnG P w K mg base k a fd ps (spF K mg ps.length f) ∧ Binds K fd ps [] ∧ ∀ ds S, ds.length ≠ ps.length → f ds S = .no
/-- the class c can be made -/
def MkC (K : PySem.W.Frag) (mg : Str → Option Value) (c : Str) : Prop := ∃ C a, mg c = some (.ref C) ∧ Mk K C a
def DispOk (P : Program) (w : World) (K : PySem.W.Frag) (mg : Str → Option Value) (base : Heap) (k : Nat) (m : Str) (L : List (Str × FF)) : Prop := ∀ c F, L.lookup c = some F → CalM P w K mg base k c m F
theorem dm_nil {P : Program} {w : World} {K : PySem.W.Frag} {mg : Str → Option Value} {base : Heap} {k : Nat} {m : Str} : DispOk P w K mg base k m [] := fun c F h => by simp at h
theorem dm_cons {P : Program} {w : World} {K : PySem.W.Frag} {mg : Str → Option Value} {base : Heap} {k : Nat} {c m : Str} {F : FF} {L : List (Str × FF)} (h : CalM P w K mg base k c m F) (t : DispOk P w K mg base k m L) : DispOk P w K mg base k m ((c, F) :: L) := fun c' F' e => by
  rw [List.lookup_cons] at e
  by_cases q : c' = c
  · subst q
    simp at e
    subst e; exact h
  · have hb : (c' == c) = false := beq_eq_false_iff_ne.mpr q
    rw [hb] at e
    exact t c' F' e
/-- o.m(..) -/
def disR (L : List (Str × FF)) (m : Str) (x : D) : Option FF := match x with
  | .ins c fs _ => if m ∈ fs then none else L.lookup c
  | _ => none
def fMe (L : List (Str × FF)) (m : Str) (fo : FE) (fa : FA) : FE := fun ρ S => (fo ρ S).bnd fun x S1 => match disR L m x with
  | some F => (fa ρ S1).bnd fun as S2 => F (x :: as) S2
  | none => .no
/-- C(..) -/
noncomputable def mkR (c : Str) (F : FF) (ds : List D) (S1 : Store) : RE D := cutR S1 ((F (.loc S1.length :: ds) (S1 ++ [.ob c [] []])).bnd fun r S2 => match r with
  | .non => (match S2[S1.length]? with
    | some (.ob c' fs' ds') => .ok (.ins c' fs' ds') (S2.set S1.length .dead)
    | _ => .no)
  | _ => .no)
noncomputable def fMk (c : Str) (F : FF) (fs : FA) : FE := fun ρ S => (fs ρ S).bnd (mkR c F)
section
variable {X : Cx} {W : WX} {e o value : Expr} {es : List Expr} {f m x : Str} {fe fo fv : FE} {fs : FA} {cs : List Str} {pos pos' p apos : Pos} {k : Nat}
theorem q_fld (he : PE X e (tF X W fe)) (hc : ∀ c ∈ cs, FldC X.K X.mg c f) (hb : attributeBase e f X.env (eval e X.env) = eval e X.env := by rfl) : PE X (.Attribute e f pos) (tF X W (f1 (gFld cs f) fe)) :=
  PE.wk (pe_fld he hb) fun σ H Q ⟨w, ρ, S, s, en, h⟩ => by
    refine ⟨w, ρ, S, s, en, (End.bind (R := fun w H => Rp X.K X.mg w H) h).imp ?_ (fun _ _ _ z => z)⟩
    rintro v H1 ⟨w1, S1, d, e1, s1, r1, h1⟩
    unfold gFld at h1
    split at h1
    case h_2 => exact h1.elim
    rename_i c fs' ds' ho
    split at h1
    case isFalse => exact h1.elim
    rename_i hcc
    split at h1
    case h_2 => exact h1.elim
    rename_i d' hl
    obtain ⟨a, C, dx, vs, ev, hm, ha, l, q⟩ := obOf_at s1 r1 ho
    obtain ⟨C', hm', cl, na⟩ := hc c hcc
    rw [hm] at hm'; cases hm'
    obtain ⟨u, hu, ru⟩ := lookF_at l q hl
    exact ⟨a, C, dx, _, u, ev, ha, cl, na, hu, h1.ret s1 ru⟩
theorem q_sfl (ho : PE X o (tF X W fo)) (hv : PE X value (tF X W fv)) (hc : ∀ c ∈ cs, FldC X.K X.mg c f) (hs : swapsWith value (some (.Attribute o f pos')) pos.line X.env = pure false := by rfl) : PS X (.Assign [.Attribute o f pos'] value pos) (tS X W (sFl cs f fo fv)) :=
  PS.wk (ps_fld ho hv hs) fun D σ H ⟨w, ρ, S, s, en, h⟩ => by
    refine ⟨w, ρ, S, s, en, (h.of (R := fun w H => Rp X.K X.mg w H) en).imp ?_ (fun _ _ _ z => z)⟩
    rintro y H1 ⟨w1, S1, d1, e1, s1, r1, h1⟩
    refine ⟨w1, ρ, S1, s1, en.ext e1, (h1.of (R := fun w H => Rp X.K X.mg w H) (en.ext e1)).imp ?_ (fun _ _ _ z => z)⟩
    rintro v H2 ⟨w2, S2, d2, e2, s2, r2, h2⟩
    cases d2 <;> try exact h2.elim
    rename_i n
    simp only at h2
    split at h2
    case h_2 => exact h2.elim
    rename_i c fs' ds' hz
    split at h2
    case isFalse => exact h2.elim
    rename_i hk
    obtain ⟨a, C, dx, vs, w1', hm, ha, l, q⟩ := s2.cell n _ hz
    unfold Rp at r2
    have ev := r2.2 a w1'
    obtain ⟨C', hm', cl, na⟩ := hc c hk.1
    rw [hm] at hm'; cases hm'
    have hn : n < S2.length := by
      rcases Nat.lt_or_ge n S2.length with z | z
      · exact z
      · rw [List.getElem?_eq_none z] at hz; cases hz
    have rl : RpL X.K X.mg w2 H2 (ds' ++ [d1]) (vs ++ [y]) := RpL.append q (RpL.one (Rp.ext e2 _ _ r1))
    have st := Sto.obSet (n := n) (l := a) (C := C) (dx := dx) (c := c) (fs := fs' ++ [f]) (ds := ds' ++ [d1]) (vs := vs ++ [y]) (o := .ins C dx (putF f y (fs'.zip vs))) s2 w1' hn hm (by rw [putF_new l hk.2.1]) (by simp [l]) rl
    have lz : (fs'.zip vs).length < 1000 := by rw [List.length_zip]; have := hk.2.2; omega
    exact ⟨a, C, dx, fs'.zip vs, ev, ha, cl, na, lz, h2 w2 _ σ (Ext.write w1') st (((en.ext e1).ext e2).ext (Ext.write w1'))⟩
theorem q_me {L : List (Str × FF)} {pl : Sem Bool} (ho : PE X o (tF X W fo)) (hM : DispOk X.prog X.w X.K X.mg X.base k m L) (hr : RoomG k X.A) (tk : Takes X W) (ha : PA X (e :: es) (tA X W fs))
    (hst : starEach (e :: es) X.env = (false, eval e X.env) :: starEach es X.env := by rfl) (hpl : (backTo pos (starEach es X.env)).any (·.1) = false := by rfl)
    (ht : eval (.Call (.Attribute o m apos) (e :: es) [] pos) X.env = (do
      let ov ← eval o X.env
      standAt apos.atName
      let (f, first) ← holding [ov] (getMethod ov m pl)
      callWith pos f first (backTo pos (starEach (e :: es) X.env)) (backToKw pos (keywordEach [] X.env))) := by rfl) :
    PE X (.Call (.Attribute o m apos) (e :: es) [] pos) (tF X W (fMe L m fo fs)) := by
  refine ⟨fun pins s σ H Q I ⟨w, ρ, S, s0, en, h⟩ => ?_⟩
  refine PySem.W.methodCall_KW (pl := pl) (thn (ho.run pins s σ H _ I ⟨w, ρ, S, s0, en, (End.bind (R := fun w H => Rp X.K X.mg w H) h).imp (fun _ _ z => z) (fun _ _ _ z => z)⟩) fun u s1 ⟨v, H1, I1, rv, w1, S1, d, e1, s1', r1, h1⟩ => ?_) ht
  split at h1
  case h_2 => exact h1.elim
  rename_i F hF
  cases d <;> simp only [disR] at hF <;> try (cases hF; done)
  rename_i c fs' ds'
  split at hF
  · cases hF
  rename_i hmf
  obtain ⟨C, a, fd, ps, hm, cl, me, Fn, bd, ar⟩ := hM c F hF
  have r1c := r1
  unfold Rp at r1
  obtain ⟨b, C', dx, vs, ev, hm', hb, off, l, q⟩ := r1
  rw [hm] at hm'; cases hm'
  subst ev
  obtain rfl : u = Value.ref b := rv
  refine getmeth_ok I1 hb cl me (lookup_none hmf) ?_
  refine PySem.W.callWith_K (first := [.ref b]) (h₀ := X.base) I.ok.mod.kin me.kp (thn (ha.run pos pins s1 σ H1 (fun vs H2 => spF X.K X.mg ps.length F (.ref b :: vs) H2 Q (WE W σ)) I1
    ⟨w1, ρ, S1, s1', en.ext e1, (End.bind (R := fun w H => RpL X.K X.mg w H) h1).imp ?_ (fun _ _ _ z => z)⟩) fun us s2 ⟨vs2, H2, I2, r, q2⟩ => ⟨I2.kIn, run_g (us := .ref b :: us) (vs := .ref b :: vs2) Fn hr tk I2 (.cons rfl r) (binds0 (us := .ref b :: us) bd I2.kIn ?_) q2⟩) hst hpl
  · rintro vs2 H2 ⟨w2, S2, ds2, e2, s2, r2, h2⟩
    refine ⟨w2, S2, .ins c fs' ds' :: ds2, s2, RpL.cons (Rp.ext e2 _ _ r1c) r2, ?_, h2⟩
    apply Classical.byContradiction
    intro hn
    rw [ar _ S2 hn] at h2
    exact h2
  · have z : (V.ref b :: vs2).length = (Value.ref b :: us).length := by simp [r.length]
    rw [← z]; exact Fn.size _ _ _ _ q2
theorem q_make {c : Str} {F : FF} (C : CalM X.prog X.w X.K X.mg X.base k c "__init__" F) (M : MkC X.K X.mg c) (hr : RoomG (k + 1) X.A) (tk : Takes X W) (hg : Gl X c) (ha : PA X (e :: es) (tA X W fs)) (hdb : (c == ("__debug__" : Str)) = false := by decide)
    (he : starEach (e :: es) X.env = (false, eval e X.env) :: starEach es X.env := by rfl) (hpl : (backTo pos (starEach es X.env)).any (·.1) = false := by rfl) : PE X (.Call (.Name c p) (e :: es) [] pos) (tF X W (fMk c F fs)) := by
  obtain ⟨A1, a, fd, ps, hm, cl, me, Fn, bd, ar⟩ := C
  obtain ⟨A2, a2, hm2, mk⟩ := M
  rw [hm] at hm2; cases hm2
  have ea : a2 = a := by
    have z := mk.init.symm.trans me.at_
    simpa using z
  subst ea
  refine ⟨fun pins s σ H Q I ⟨w, ρ, S, s0, en, h⟩ => ?_⟩
  refine wpAny_Call_Name_kw (ld_glob I hg hm ?_ hdb)
  refine PySem.W.callWith_K (h₀ := X.base) I.ok.mod.kin mk.kp (thn (ha.run pos pins s σ H (fun vs H1 => ∃ w1 S1 ds, Sto X.K X.mg w1 S1 H1 ∧ RpL X.K X.mg w1 H1 ds vs ∧ End X.K X.mg (fun w H => Rp X.K X.mg w H) w1 H1 (mkR c F ds S1) Q (WE W σ)) I
    ⟨w, ρ, S, s0, en, (End.bind (R := fun w H => RpL X.K X.mg w H) h).imp (fun vs H1 ⟨w1, S1, ds, e1, s1, r1, h1⟩ => ⟨w1, S1, ds, s1, r1, h1⟩) (fun _ _ _ z => z)⟩) fun us s1 ⟨vs, H1, I1, r, w1, S1, ds, st1, r1, h1⟩ => ⟨I1.kIn, ?_⟩) he hpl
  -- the object
  have nx : H1 (s1.heap.objs.size + 1) = none := I1.hok.fresh (Nat.le_succ _)
  have nd : H1 s1.heap.objs.size = none := I1.hok.fresh (Nat.le_refl _)
  have I2 := Inv.made (C := A1) I1
  have stB := st1.beside (o := .own (s1.heap.objs.size + 1)) nd
  have nx2 : upd H1 s1.heap.objs.size (.own (s1.heap.objs.size + 1)) (s1.heap.objs.size + 1) = none := by
    rw [upd_ne (Nat.succ_ne_self _)]; exact nx
  have st2 := stB.obNew (C := A1) (dx := s1.heap.objs.size) (c := c) nx2 hm
  have ex1 : Ext w1 H1 w1 (upd H1 s1.heap.objs.size (.own (s1.heap.objs.size + 1))) := Ext.new nd
  have ex2 : Ext w1 (upd H1 s1.heap.objs.size (.own (s1.heap.objs.size + 1))) ⟨w1.φ ++ [some (s1.heap.objs.size + 1)], w1.hd⟩ (upd (upd H1 s1.heap.objs.size (.own (s1.heap.objs.size + 1))) (s1.heap.objs.size + 1) (.ins A1 s1.heap.objs.size [])) := Ext.cell nx2
  have h2 := End.on (ex1.trans ex2) (End.cutE st1 h1)
  have hsp : spF X.K X.mg ps.length F (.ref (s1.heap.objs.size + 1) :: vs) (upd (upd H1 s1.heap.objs.size (.own (s1.heap.objs.size + 1))) (s1.heap.objs.size + 1) (.ins A1 s1.heap.objs.size [])) (fun v H' => v = .non ∧ Q (.ref (s1.heap.objs.size + 1)) H') (WE W σ) := by
    refine ⟨_, _, .loc S1.length :: ds, st2, RpL.cons ?_ (RpL.ext (ex1.trans ex2) _ _ r1), ?_, ?_⟩
    · unfold Rp
      refine ⟨by show S1.length < (w1.φ ++ [some (s1.heap.objs.size + 1)]).length; rw [List.length_append, st1.len]; exact Nat.lt_succ_self _, fun a ha => ?_⟩
      have ha' : (w1.φ ++ [some (s1.heap.objs.size + 1)])[S1.length]? = some (some a) := ha
      rw [← st1.len, List.getElem?_append_right (Nat.le_refl _), Nat.sub_self] at ha'
      simp at ha'; rw [ha']
    · apply Classical.byContradiction
      intro hn
      have : mkR c F ds S1 = .no := by
        unfold mkR
        rw [ar _ _ hn]; rfl
      rw [this] at h1
      exact h1
    · refine (End.bind (R := fun w H => Rp X.K X.mg w H) h2).imp ?_ (fun _ _ _ z => z)
      rintro v H' ⟨w3, S3, d3, e3, s3, r3, h3⟩
      cases d3 <;> try exact h3.elim
      unfold Rp at r3
      refine ⟨r3, ?_⟩
      simp only at h3
      split at h3
      case h_2 => exact h3.elim
      rename_i c' fs' ds' hz
      obtain ⟨b, C', dx, vs', hb1, hb2, hb3, hb4, hb5⟩ := s3.cell _ _ hz
      have hlt : S1.length < (w1.φ ++ [some (s1.heap.objs.size + 1)]).length := by rw [List.length_append, st1.len]; exact Nat.lt_succ_self _
      have hb6 := e3.ph _ _ hb1 hlt
      have hb7 : (w1.φ ++ [some (s1.heap.objs.size + 1)])[S1.length]? = some (some b) := hb6
      rw [← st1.len, List.getElem?_append_right (Nat.le_refl _), Nat.sub_self] at hb7
      simp at hb7
      rw [hb7]
      exact oz_at s3 hz hb1 h3
  have r2 : Vals (V.ref (s1.heap.objs.size + 1) :: vs) (Value.ref (s1.heap.objs.size + 1) :: us) := .cons rfl r
  have hl : (Value.ref (s1.heap.objs.size + 1) :: us).length = ps.length := by
    rw [← r2.length]; exact Fn.size _ _ _ _ hsp
  have hrm : RoomG k (X.A.under (.builtin "type.__call__" ⟨.ref A1 :: us, []⟩)) := ⟨hr.rm.make A1 us [], hr.gd⟩
  refine wpAny_call (make_map (f := a2) I1.kIn mk.makes mk.init (beq_iff_eq.mp mk.fn) (codeAny_mono (Fn.runs _ X.stack _ _ ⟨Value.ref (s1.heap.objs.size + 1) :: us, []⟩ (Value.ref (s1.heap.objs.size + 1) :: us) _ _ (WE W σ) hrm
    (I2.env0.make A1 us []) (binds0 (us := Value.ref (s1.heap.objs.size + 1) :: us) bd I2.kIn hl) r2 hsp) fun r s' hq' => ?_))
  cases r with
  | error e => exact passAt tk σ pins _ _ e s' I2 hq'
  | ok fl =>
    cases fl with
    | ret u =>
      obtain ⟨v, H', I3, rv, ev, q3⟩ := I2.after hq'
      subst ev
      exact ⟨rv, ⟨V.ref (s1.heap.objs.size + 1), H', I3, rfl, q3⟩⟩
    | next => exact False.elim hq'
    | brk => exact False.elim hq'
    | cont => exact False.elim hq'
end
end Kw

/-! Kw27: d.get(k) of a dict of the module; what is not read; classes at the module's top. -/
namespace Kw
open PySem PySem.Spec PySem.Calls PyProof.Rows L2
def getGR (kvs : List (Str × D)) (y : D) (S : Store) : RE D := match y with
  | .str z => (match kvs.lookup z with
    | some d => .ok d S
    | none => .ok .non S)
  | _ => .no
def fGetG (n : Str) (kvs : List (Str × D)) (fa fb : FE) : FE := fun ρ S => (fa ρ S).bnd fun x S1 => match x with
  | .glo m => if m = n then (fb ρ S1).bnd (getGR kvs) else .no
  | _ => .no
def getO (o : Option D) (S : Store) : RE D := match o with
  | some d => .ok d S
  | none => .ok .non S
@[simp] theorem getO_some {d : D} {S : Store} : getO (some d) S = .ok d S := rfl
@[simp] theorem getO_none {S : Store} : getO none S = .ok .non S := rfl
@[simp] theorem getGR_str {z : Str} {kvs : List (Str × D)} {S : Store} : getGR kvs (.str z) S = getO (kvs.lookup z) S := rfl
theorem fGetG_ap {n : Str} {kvs : List (Str × D)} {fb : FE} {ρ : FEnv} {S : Store} : fGetG n kvs (fC (.glo n)) fb ρ S = (fb ρ S).bnd (getGR kvs) := by
  show (if n = n then (fb ρ S).bnd (getGR kvs) else .no) = _
  rw [if_pos rfl]
section
variable {X : Cx} {W : WX} {a b : Expr} {fa fb : FE} {apos cpos : Pos} {x : Str} {kvs : List (Str × D)}
theorem q_getG (h : GD X.K X.w.params X.mg x kvs) (ha : PE X a (tF X W fa)) (hb : PE X b (tF X W fb)) (m : M1 X a "get" apos b cpos := by exact ⟨rfl, rfl, rfl, rfl⟩) : PE X (.Call (.Attribute a "get" apos) [b] [] cpos) (tF X W (fGetG x kvs fa fb)) := by
  obtain ⟨p, es, n, mm, l, k, hs, f⟩ := h
  refine ⟨fun pins s σ H Q I ⟨w, ρ, S, s0, en, h⟩ => ?_⟩
  refine wpAny_Call_method m.base m.few m.line PySem.F.plainAttrs_dict PySem.F.slot_dict_get PySem.F.type_dict_get (thn (ha.run pins s σ H (fun v H1 => v = .ref p ∧ ∃ w1 S1, Sto X.K X.mg w1 S1 H1 ∧ EnvR X.K X.mg w1 H1 ρ σ ∧ End X.K X.mg (fun w H => Rp X.K X.mg w H) w1 H1 ((fb ρ S1).bnd (getGR kvs)) Q (fun c od H' => W c od σ H')) I
    ⟨w, ρ, S, s0, en, (End.bind (R := fun w H => Rp X.K X.mg w H) h).imp ?_ (fun _ _ _ z => z)⟩) fun u s1 ⟨v, H1, I1, rv, ev, w1, S1, st1, en1, h1⟩ => ?_)
  · rintro v H1 ⟨w1, S1, d, e1, s1, r1, h1⟩
    cases d <;> try exact h1.elim
    simp only at h1
    split at h1
    · rename_i em
      subst em
      unfold Rp at r1
      obtain ⟨q, e2, e3⟩ := r1
      rw [mm] at e3; cases e3
      exact ⟨e2, w1, S1, s1, en.ext e1, h1⟩
    · exact h1.elim
  · subst ev
    obtain rfl : u = Value.ref p := rv
    have hm := PySem.W.mapOf_K (prog := X.prog) (w := X.w) I1.kIn l k
    refine ⟨hm.typeIs, fun b q => ?_, ?_⟩
    · cases q
      exact ⟨_, I1.kIn _ _ l, rfl⟩
    · rw [m.trees]
      refine Calls.callWith_builtin rfl (Calls.evalArgs_plain (Calls.spliced_cons (thn (hb.run pins s1 σ H1 (fun y H2 => ∃ z d, y = .str z ∧ (∃ v0, (match kvs.lookup z with | some d => CV d v0 | none => v0 = .non) ∧ Q v0 H2) ∧ d = kvs.lookup z) I1
        ⟨w1, ρ, S1, st1, en1, (End.bind (R := fun w H => Rp X.K X.mg w H) h1).imp ?_ (fun _ _ _ z => z)⟩) fun iv s2 ⟨y, H2, I2, ry, z, d, ey, ⟨v0, hv0, q2⟩, ed⟩ => Calls.spliced_nil ?_)))
      · rintro y H2 ⟨w2, S2, d2, e2, s2, r2, h2⟩
        cases d2 <;> try exact h2.elim
        rename_i z
        refine ⟨z, _, rp_str r2, ?_, rfl⟩
        simp only [getGR] at h2
        have fz := f z
        split at h2
        · rename_i d hd
          rw [hd] at fz
          obtain ⟨u, v, f1, f2, f3⟩ := fz
          exact ⟨v, f3, h2.ret s2 f3.rp⟩
        · rename_i hd
          exact ⟨.non, rfl, h2.ret s2 rp_n⟩
      · subst ey
        obtain ⟨t, rfl⟩ := ry
        have hm2 := PySem.W.mapOf_K (prog := X.prog) (w := X.w) I2.kIn l k
        refine call_meetsIn PySem.F.slot_dict_get hm2.typeIs PySem.F.entry_dict_get (PySem.F.args_dict_get_2 _ _) (meets_dict_get (strKind X.prog X.w) p (strKind_is X.prog X.w z t) hs) ⟨_, hm2, ?_⟩
        have fz := f z
        cases hd : kvs.lookup z with
        | some d =>
          rw [hd] at fz hv0
          obtain ⟨u, v, f1, f2, f3⟩ := fz
          have hv1 : CV d v0 := hv0
          have e : v0 = v := by
            cases d <;> simp only [CV] at hv1 f3 <;> first | exact hv1.trans f3.symm | exact hv1.elim
          subst e
          refine ⟨v0, H2, I2.tok _, ?_, q2⟩
          rw [PySem.W.find_K l f1]
          exact f2
        | none =>
          rw [hd] at fz hv0
          have hv1 : v0 = .non := hv0
          subst hv1
          refine ⟨.non, H2, I2.tok _, ?_, q2⟩
          rw [PySem.W.find_K l fz]
          rfl
end
/-- what is not read -/
def sNo : FS := fun _ _ => .no
def fNo : FE := fun _ _ => .no
theorem q_sno {X : Cx} {W : WX} {st : Stmt} : PS X st (tS X W sNo) := ⟨fun pins s σ H D I ⟨w, ρ, S, s0, en, h⟩ => h.elim⟩
theorem q_no {X : Cx} {W : WX} {e : Expr} : PE X e (tF X W fNo) := ⟨fun pins s σ H Q I ⟨w, ρ, S, s0, en, h⟩ => h.elim⟩
/-! ### classes -/
/-- the class's method stands in the class's body -/
def TM (K : PySem.W.Frag) (mg : Str → Option Value) (c m qual : Str) (st : Stmt) (ps : List Str) : Prop := ∃ C f fd, mg c = some (.ref C) ∧ Cls K C ∧ Meth K C m f ∧ Fun K m qual st f fd ∧ Binds K fd ps []
section
variable {P : Program} {w : World} {K : PySem.W.Frag} {mg : Str → Option Value} {base : Heap}
theorem calM_zero {c m qual : Str} {st : Stmt} {ps : List Str} {k : Nat} (T : TM K mg c m qual st ps) : CalM P w K mg base k c m (fun _ _ => .no) := by
  obtain ⟨C, f, fd, hm, cl, me, F, b⟩ := T
  exact ⟨C, f, fd, ps, hm, cl, me, ⟨fun vs H Q E ⟨w, S, ds, s, r, l, h⟩ => by rw [← r.length]; exact l, fun A outer s H args us vs Q E _ _ _ _ ⟨w, S, ds, st, r, l, h⟩ => h.elim⟩, b, fun _ _ _ => rfl⟩
theorem calMB {c m qual : Str} {st : Stmt} {N ps : List Str} {k : Nat} {b : FS} (T : TM K mg c m qual st ps) (S : FnScope N ps (defScope st))
    (hb : ∀ (f : Addr) (cdv : Value) (A : Around) (outer : List Env) (s : Shared) (H : Hp) (E : XK), RoomG k (A.deeper (envOfC qual (defScope st) s.heap.objs.size f cdv)) →
      PSs (cxOf (L2.CX P w) P w K mg base N qual (defScope st) f cdv A outer s H E) (defBody st) (tS (cxOf (L2.CX P w) P w K mg base N qual (defScope st) f cdv A outer s H E) (fun c d _ H => E c d H) b)) :
    CalM P w K mg base (k + 1) c m (fnB ps.length N.length b) := by
  obtain ⟨C, f, fd, hm, cl, me, F, bd⟩ := T
  exact ⟨C, f, fd, ps, hm, cl, me, fn_ok F S (hb f), bd, fnB_ar⟩
theorem calMC {c m qual : Str} {st : Stmt} {N ps : List Str} {k : Nat} {b : FS} (T : TM K mg c m qual st ps) (S : FnScope N ps (defScope st))
    (hb : ∀ (f : Addr) (cdv : Value) (A : Around) (outer : List Env) (s : Shared) (H : Hp) (E : XK), RoomG k (A.deeper (envOfC qual (defScope st) s.heap.objs.size f cdv)) →
      PSs (cxOf (L2.CX P w) P w K mg base N qual (defScope st) f cdv A outer s H E) (defBody st) (tS (cxOf (L2.CX P w) P w K mg base N qual (defScope st) f cdv A outer s H E) (fun c d _ H => E c d H) b)) :
    CalM P w K mg base (k + 1) c m (fnC ps.length N.length b) := by
  obtain ⟨C, f, fd, hm, cl, me, F, bd⟩ := T
  exact ⟨C, f, fd, ps, hm, cl, me, spF_cut (fn_ok F S (hb f)), bd, fnC_ar⟩
end
section
variable {K : PySem.W.Frag} {mg : Str → Option Value} {h : Heap}
theorem tm_mk {c m qual : Str} {st : Stmt} {ps : List Str} {C f : Addr} {oc : Value} {od an : Option Addr} {osl : Array (Option Value)} {kV doc pm cdv ct : Value} (X : K.In h) (G : h.Ns mainGlobals mg) (a : PySem.W.nsIn K mainGlobals c = some (some (.ref C)))
    (m1 : PySem.W.findIn K (.ref C) m = some (some (.ref f))) (l : K.lookup f = some ⟨oc, od, .func (PySem.W.fnOf m qual (defArgs st) (defBody st) (defScope st) .none kV doc pm an cdv ct), osl⟩) (cc : PySem.W.codeIn K cdv qual = true) (k : PySem.W.keepIn K (.ref f) = true)
    (m2 : PySem.W.isFn K (.ref f) = true) (c1 : PySem.W.plainGet K C Str.empty = true) (c2 : PySem.W.hasDictIn K C = true) (c3 : PySem.W.plainOver K C = true) (c4 : PySem.W.findIn K (.ref C) "__setattr__" = some (some (.builtin "object.__setattr__")))
    (hb : ∀ (kV doc pm : Value) (an : Option Addr) (cdv ct : Value) (us : List Value), us.length = ps.length → bindArgs (PySem.W.fnOf m qual (defArgs st) (defBody st) (defScope st) .none kV doc pm an cdv ct) ⟨us, []⟩ = pure (ps.zip us)) : TM K mg c m qual st ps :=
  ⟨C, f, _, PySem.W.mg_of X G a, ⟨c1, c2, c3, c4⟩, ⟨m1, m2, k⟩, fun_mk l cc k, (fun_mk l cc k).binds hb⟩
theorem fld_mk {c f : Str} {C : Addr} (X : K.In h) (G : h.Ns mainGlobals mg) (a : PySem.W.nsIn K mainGlobals c = some (some (.ref C))) (n : PySem.W.findIn K (.ref C) f = some none)
    (c1 : PySem.W.plainGet K C Str.empty = true) (c2 : PySem.W.hasDictIn K C = true) (c3 : PySem.W.plainOver K C = true) (c4 : PySem.W.findIn K (.ref C) "__setattr__" = some (some (.builtin "object.__setattr__"))) : FldC K mg c f :=
  ⟨C, PySem.W.mg_of X G a, ⟨c1, c2, c3, c4⟩, n⟩
theorem mkc_mk {c : Str} {C f : Addr} (X : K.In h) (G : h.Ns mainGlobals mg) (a : PySem.W.nsIn K mainGlobals c = some (some (.ref C))) (i : PySem.W.findIn K (.ref C) "__init__" = some (some (.ref f))) (mk : PySem.W.makesIn K C = true) (fn : PySem.W.isFn K (.ref f) = true) (kp : PySem.W.keepIn K (.ref C) = true) : MkC K mg c :=
  ⟨C, f, PySem.W.mg_of X G a, ⟨mk, i, fn, kp⟩⟩
end
end Kw

/-! Kw28: how many unlike texts a list has; things taken out of a list; a dict of rows. -/
namespace Kw
open PySem PySem.Spec PyProof.Rows L2
/-! ### sets of texts -/
def metS (acc : List Str) (x : Str) : List Str := if x ∈ acc then acc else acc ++ [x]
/-- the texts, each once -/
def onceS (xs : List Str) : List Str := xs.foldl metS []
theorem onceS_snoc (xs : List Str) (x : Str) : onceS (xs ++ [x]) = metS (onceS xs) x := by
  unfold onceS; rw [List.foldl_append]; rfl
theorem metS_len (acc : List Str) (x : Str) : (metS acc x).length ≤ acc.length + 1 := by
  unfold metS; split <;> simp
theorem onceS_acc : ∀ (xs acc : List Str), (xs.foldl metS acc).length ≤ acc.length + xs.length
  | [], acc => Nat.le_refl _
  | x :: xs, acc => by
    have h1 := onceS_acc xs (metS acc x)
    have h2 := metS_len acc x
    show (xs.foldl metS (metS acc x)).length ≤ acc.length + (xs.length + 1)
    omega
theorem onceS_le (xs : List Str) : (onceS xs).length ≤ xs.length := by
  have := onceS_acc xs []
  rwa [List.length_nil, Nat.zero_add] at this
abbrev memS (acc : List Str) : Str → Bool := fun k => decide (k ∈ acc)
theorem memS_met (acc : List Str) (x k : Str) : memS (metS acc x) k = (memS acc k || decide (k = x)) := by
  unfold memS metS
  by_cases h : x ∈ acc
  · rw [if_pos h]
    by_cases e : k = x
    · subst e; simp [h]
    · simp [e]
  · rw [if_neg h, Bool.eq_iff_iff]; simp
theorem lenS_met (acc : List Str) (x : Str) : (metS acc x).length = if memS acc x = true then acc.length else acc.length + 1 := by
  unfold memS metS
  by_cases h : x ∈ acc
  · rw [if_pos h, if_pos (decide_eq_true h)]
  · rw [if_neg h, if_neg (by simpa using h), List.length_append]; rfl
section
variable {P : Program} {w : World} {A : Around} {R : Result → Shared → Prop} {it : Addr} {fp wr : List Addr} {G : Array GenState → Array GenState → Prop} {n : Nat} {Pv : Nat → Value → Prop} {St : Nat → Shared → Prop}
/-- the set is filled, text by text -/
theorem fillS (W : WalksS P w A.in1 it fp wr G n Pv St) (B : Addr) (hB : B ∉ fp) (xs : List Str) (hn : xs.length = n) (hc : n + 1 < scanBound) (hv : ∀ i v, Pv i v → ∃ tk, v = Value.str (xs.getD i Str.empty) tk) :
    ∀ (m i : Nat) (s : Shared), i + m = n → St i s → s.heap.SetOf (strKind P w) B (memS (onceS (xs.take i))) (onceS (xs.take i)).length →
      (∀ t, Moved (B :: wr) G s t → t.heap.SetOf (strKind P w) B (memS (onceS xs)) (onceS xs).length → R (.ok (.ret .none)) t) → codeAny (model P w) A (.builtin "set.update.loop" ⟨[.ref B, .ref it], []⟩) R s := by
  have hBw : B ∉ wr := fun z => hB (W.sub _ z)
  have up : ∀ b ∈ wr, b ∈ B :: wr := fun b z => List.mem_cons_of_mem _ z
  have carry : ∀ {s t : Shared} {S : Str → Bool} {c : Nat}, Moved wr G s t → s.heap.SetOf (strKind P w) B S c → t.heap.SetOf (strKind P w) B S c := by
    rintro s t S c mv ⟨o, es, ep, tb, e, r⟩
    exact ⟨o, es, ep, tb, mv.heap B _ hBw e, r⟩
  intro m
  induction m with
  | zero =>
    intro i s him hst hset fin
    have hi : i = n := by omega
    refine codeAny_builtin F.entry_set_update_loop ?_
    rw [Around.under_plainId F.plain_set_update_loop _]
    show wpAny _ A.in1 (pyNext (.ref it) >>= _) _ _ s
    refine wpAny_bind (W.done s _ _ (hi ▸ hst) fun t mv => ?_)
    refine (show wpAny _ A.in1 (ret Value.none) _ _ t from wpAny_pure (fin t (mv.mono up) ?_))
    have := carry mv hset
    rw [hi, ← hn, List.take_length] at this
    exact this
  | succ m ih =>
    intro i s him hst hset fin
    have hlt : i < n := by omega
    have hx : xs[i]? = some (xs.getD i Str.empty) := by
      rw [List.getD_eq_getElem?_getD, List.getElem?_eq_getElem (by omega)]; rfl
    generalize xs.getD i Str.empty = x at hx hv
    refine codeAny_builtin F.entry_set_update_loop ?_
    rw [Around.under_plainId F.plain_set_update_loop _]
    show wpAny _ A.in1 (pyNext (.ref it) >>= _) _ _ s
    refine wpAny_bind (W.item i s _ _ hlt hst fun v t hp hst1 mv => ?_)
    obtain ⟨tk, ev⟩ := hv i v hp
    have ev : v = Value.str x tk := by
      rw [ev, List.getD_eq_getElem?_getD, hx]; rfl
    subst ev
    have key : (strKind P w).is x (Value.str x tk) = true := strKind_is _ _ _ _
    have le : (onceS (xs.take i)).length ≤ i := by
      have := onceS_le (xs.take i)
      rw [List.length_take] at this
      omega
    show wpAny _ A.in1 (holding [Value.str x tk] (setAdd B (.str x tk)) >>= _) _ _ t
    unfold setAdd
    refine wpAny_bind (wpAny_holding (wpAny_holding (wpAny_bind ((strKind P w).pyHash key ?_))))
    refine wpAny_setAddHashed_of (s := { t with toks := t.toks + 1 }) key rfl (show Heap.SetOf (strKind P w) t.heap B _ _ from carry mv hset) (by omega) fun h' same hset1 => ?_
    have hset2 : h'.SetOf (strKind P w) B (memS (onceS (xs.take (i + 1)))) (onceS (xs.take (i + 1))).length := by
      have e : xs.take (i + 1) = xs.take i ++ [x] := by rw [List.take_succ, hx]; rfl
      rw [e, onceS_snoc, lenS_met]
      have e2 : memS (metS (onceS (xs.take i)) x) = fun k => memS (onceS (xs.take i)) k || decide (k = x) := funext fun k => memS_met _ _ k
      rw [e2]; exact hset1
    refine wpAny_pure ⟨plainId_quiet F.plain_set_update_loop _, ih (i + 1) _ (by omega) (W.frame _ t _ _ hst1 (Nat.le_succ _) fun b hb o e => ?_) hset2 fun u mv1 hset3 => fin u ?_ hset3⟩
    · rw [same.2 b fun z => hB (z ▸ hb)]; exact e
    · refine Moved.trans W.gtrans ((mv.mono up).then_heap (Nat.le_succ _) fun b o hb e => ?_) mv1
      rw [same.2 b fun z => hb (z ▸ List.mem_cons_self)]; exact e
end
section
variable {P : Program} {w : World} {A : Around} {E : Value → Shared → Prop} {s : Shared}
theorem strs_nth : ∀ {us : List Value} {xs : List Str}, StrsAre us xs → ∀ (i : Nat) v, us[i]? = some v → ∃ tk, v = Value.str (xs.getD i Str.empty) tk
  | _, _, .nil, i, v, e => by simp at e
  | _, _, .cons x tk r, 0, v, e => ⟨tk, by simpa using e.symm⟩
  | _, _, .cons x tk r, i + 1, v, e => by
    obtain ⟨tk', e'⟩ := strs_nth r i v (by simpa using e)
    exact ⟨tk', by rw [e']; rfl⟩
abbrev newSet (b : Bool) : Obj := { cls := .type "set", dict := none, data := .set #[] 0 (.fresh 0 0 b) }
set_option maxHeartbeats 6400000 in
/-- set(xs) of a list of texts -/
theorem set_texts {a : Addr} {us : Array Value} {xs : List Str} {Q : Value → Shared → Prop} (calm : A.handled = none) (la : s.heap.IsList a us) (tx : StrsAre us.toList xs) (few : xs.length + 1 < scanBound)
    (k : ∀ (h' : Heap) (tk : Nat), h'.SetOf (strKind P w) s.heap.objs.size (memS (onceS xs)) (onceS xs).length → (∀ b o, b < s.heap.objs.size → s.heap.get? b = some o → h'.get? b = some o) → Q (.ref s.heap.objs.size) { s with heap := h', toks := tk }) :
    wpAny (model P w) A (call (.type "set") [.ref a]) Q E s := by
  have fm := PySem.F.called_set.made
  have fs := PySem.F.called_set.sub
  have f1 := PySem.F.called_set.notType
  have f2 := PySem.F.called_set.canCreate
  have f3 := PySem.F.typeCall_set_1 (.ref a)
  have f4 := PySem.F.called_set.init.lookup
  obtain ⟨mc, mt, fmro⟩ := PySem.F.called_set.mro
  refine wpAny_call (codeAny_of_tree ?_)
  refine (show wpAny _ _ (callAny (.type "set") _) _ _ _ from wpAny_pure ⟨Code.quiet_builtin _ (by decide +kernel), codeAny_builtin PySem.F.entry_type_call ?_⟩)
  rw [Around.under_plain (weight_type_call_type "set" [.ref a] []) rfl]
  repeat (any_goals (first | assumption | wp_step))
  refine codeAny_mono (code_set_new_1 (.ref a) (E := E) (Q₁ := fun v t => ∃ b : Bool, v = .ref s.heap.objs.size ∧ t = { s with heap := s.heap.push (newSet b) }) fun b => ⟨b, rfl, rfl⟩) fun r t hr => ?_
  match r, hr with
  | .error e, hr => exact hr
  | .ok .next, hr => exact hr.elim
  | .ok .brk, hr => exact hr.elim
  | .ok .cont, hr => exact hr.elim
  | .ok (.ret v), hr =>
    obtain ⟨b, rfl, rfl⟩ := hr
    have at0 : (s.heap.push (newSet b)).get? s.heap.objs.size = some (newSet b) := Heap.get?_push_size _ rfl
    have ty0 : Shared.TypeIs { s with heap := s.heap.push (newSet b) } (.ref s.heap.objs.size) "set" := ⟨_, at0, rfl⟩
    have f5 := PySem.F.called_set.init.bind (.ref s.heap.objs.size)
    repeat (any_goals (first | assumption | wp_step))
    refine codeAny_mono (codeAny_call_builtin (R := wants (fun v t => v = .none ∧ ∃ h' tk, t = { s with heap := h', toks := tk } ∧ h'.SetOf (strKind P w) s.heap.objs.size (memS (onceS xs)) (onceS xs).length ∧
      (∀ b o, b < s.heap.objs.size → s.heap.get? b = some o → h'.get? b = some o)) E) PySem.F.called_set.init.plain PySem.F.entry_set_init (check_set_init_1 ty0 ?_)) fun r t hr => ?_
    · obtain ⟨⟨oc, od, ox, os⟩, oat, ocl, on, oda⟩ := la
      simp only at ocl oda
      subst ocl; subst oda
      have oat1 : (s.heap.push (newSet b)).get? a = some { cls := .type "list", dict := od, data := .seq us on, slots := os } := Heap.get?_push_of_some _ oat
      have la1 : (s.heap.push (newSet b)).IsList a us := ⟨_, oat1, rfl, on, rfl⟩
      have g1 := PySem.F.sub_list_set
      have g2 := PySem.F.sub_list_frozenset
      have g3 : (Value.type "list" == Value.type "dict") = false := by decide
      unfold Builtin.«set.__init__» noKeywords Builtin.Frozenset.updateFrom
      generalize hp : pyIter = walkOf
      wp_walk
      subst hp
      refine wpAny_pyIter_list la1 ?_
      refine wpAny_bind (wpAny_runValue ?_)
      have a_lt : a < s.heap.objs.size := Heap.lt_size oat
      have sz1 : (s.heap.push (newSet b)).objs.size = s.heap.objs.size + 1 := Heap.size_push _ _
      have calm3 : A.in1.in1.in1.handled = none := by simp [calm]
      have ne1 : a ≠ (s.heap.push (newSet b)).objs.size := by rw [sz1]; exact Nat.ne_of_lt (Nat.lt_succ_of_lt a_lt)
      have off : s.heap.objs.size ∉ [(s.heap.push (newSet b)).objs.size, a] := by
        rw [sz1]; simp only [List.mem_cons, List.not_mem_nil, or_false, not_or]; exact ⟨Nat.ne_of_lt (Nat.lt_succ_self _), Nat.ne_of_gt a_lt⟩
      have nx : xs.length = us.size := by rw [← Array.length_toList]; exact (StrsAre.len_eq tx).symm
      refine fillS ((Walks.list calm3 _ a ne1 us).toS) s.heap.objs.size off xs nx (by omega) (fun i v e => strs_nth tx i v (by rw [Array.getElem?_toList]; exact e)) us.size 0 _ (by omega) ⟨⟨_, Heap.get?_push_size _ rfl, rfl, rfl⟩, la1.push _⟩ ?start ?finish
      case start =>
        have at1 : ((s.heap.push (newSet b)).push { cls := .type "list_iterator", data := .fields #[.ref a, .int 0 0] }).get? s.heap.objs.size = some (newSet b) := Heap.get?_push_of_some _ at0
        exact SetOf_congr ((setObjOf_fresh (knd := strKind P w) b).setOf at1 (by unfold scanBound; omega)) (fun _ => rfl) rfl
      case finish =>
        intro t mv hset
        obtain ⟨h', g', d', tk', os'⟩ := t
        have q1 : g' = s.gens := mv.gens
        have q2 : d' = s.drawn := mv.drawn
        have q3 : os' = s.os := mv.os
        subst q1 q2 q3
        refine (show wpAny _ _ _ _ _ _ from wpAny_pure (show wpAny _ _ (ret Value.none) _ _ _ from wpAny_pure ⟨rfl, h', tk', rfl, hset, fun c o hc e => ?_⟩))
        refine mv.heap c o ?_ (Heap.get?_push_of_some _ (Heap.get?_push_of_some _ e))
        rw [sz1]; simp only [List.mem_cons, List.not_mem_nil, or_false, not_or]; exact ⟨Nat.ne_of_lt hc, Nat.ne_of_lt (Nat.lt_succ_of_lt hc)⟩
    · match r, hr with
      | .error e, hr => exact hr
      | .ok .next, hr => exact hr.elim
      | .ok .brk, hr => exact hr.elim
      | .ok .cont, hr => exact hr.elim
      | .ok (.ret v), hr =>
        obtain ⟨rfl, h', tk, rfl, hset, keep⟩ := hr
        repeat (any_goals (first | assumption | wp_step))
        exact k h' tk hset keep
end
/-! ### len(set(xs)) -/
def textsOf : List D → Option (List Str)
  | [] => some []
  | .str x :: r => (textsOf r).map (x :: ·)
  | _ => none
def gLenSet (d : D) (S : Store) : RE D := match seqL S d with
  | some ds => (match textsOf ds with
    | some xs => if xs.length ≤ 1000 then .ok (.int ((onceS xs).length : Int)) S else .no
    | none => .no)
  | none => .no
theorem texts_at {K : PySem.W.Frag} {mg : Str → Option Value} {w : Wd} {H : Hp} : ∀ {ds : List D} {vs : List V} {xs : List Str}, RpL K mg w H ds vs → textsOf ds = some xs → vs = xs.map V.str
  | [], vs, xs, r, h => by
    unfold RpL at r
    simp only [textsOf] at h
    cases h; rw [r]; rfl
  | d :: ds, vs, xs, r, h => by
    cases d <;> simp only [textsOf] at h <;> try (cases h; done)
    obtain ⟨ys, h1, h2⟩ := Option.map_eq_some_iff.mp h
    unfold RpL at r
    obtain ⟨v, r', e, r1, r2⟩ := r
    rw [e, ← h2, rp_str r1, texts_at r2 h1]; rfl
theorem vals_texts : ∀ {xs : List Str} {us : List Value}, Vals (xs.map V.str) us → StrsAre us xs
  | [], us, r => by
    rw [List.map_nil] at r
    cases r; exact .nil
  | x :: xs, us, r => by
    rw [List.map_cons] at r
    cases r with
    | cons h t =>
      obtain ⟨tk, rfl⟩ := h
      exact .cons x tk (vals_texts t)
section
variable {X : Cx} {W : WX} {a : Expr} {fa : FE} {p p2 q pos : Pos}
theorem q_lenSet (hc : X.calm = true) (hg : Gl X "len") (hm : X.mg "len" = none) (hg2 : Gl X "set") (hm2 : X.mg "set" = none) (ha : PE X a (tF X W fa)) (na : starEach [a] X.env = (false, eval a X.env) :: starEach [] X.env := by rfl) :
    PE X (.Call (.Name "len" p) [.Call (.Name "set" p2) [a] [] q] [] pos) (tF X W (f1 gLenSet fa)) := by
  refine ⟨fun pins s σ H Q I ⟨w, ρ, S, s0, en, h⟩ => ?_⟩
  have h1 : tF X W fa σ H (fun v H1 => ∃ (l : Addr) (xs : List Str), v = V.ref l ∧ SqL X.K H1 l (xs.map V.str) ∧ xs.length ≤ 1000 ∧ Q (.int ((onceS xs).length : Int)) H1) := by
    refine ⟨w, ρ, S, s0, en, (End.bind (R := fun w H => Rp X.K X.mg w H) h).imp ?_ (fun _ _ _ z => z)⟩
    rintro v H1 ⟨w1, S1, d, e1, s1, r1, h1⟩
    unfold gLenSet at h1
    split at h1
    · rename_i ds hd
      split at h1
      · rename_i xs hx
        split at h1
        · rename_i hl
          obtain ⟨l, vs, ev, sq, rl⟩ := seqL_at s1 r1 hd
          rw [texts_at rl hx] at sq
          exact ⟨l, xs, ev, sq, hl, h1.ret s1 rp_i⟩
        · exact h1.elim
      · exact h1.elim
    · exact h1.elim
  refine Call_ (ld_blt I hg hm PySem.boot_len (callWith_builtin1 (args_cons (Call_ (ld_blt I hg2 hm2 boot_set ?_)) rfl) rfl rfl))
  refine callWith_type1 (args_cons (thn (ha.run pins s σ H _ I h1) fun v s1 ⟨x, H1, I1, r1, l, xs, ex, sq, hl, q1⟩ => args_nil ?_) na) na rfl
  subst ex
  cases r1
  obtain ⟨its, r, pl, hz⟩ := I1.list sq
  refine set_texts (I1.ok.hd hc) pl.isList (by simpa using vals_texts r) (by unfold scanBound; omega) fun h' tk hset keep => args_nil ?_
  obtain ⟨o, es, ep, t, ho, hex, hd, _, _, _, hf, hn⟩ := hset
  have I2 : Inv X pins σ H1 { s1 with heap := h', toks := tk } := I1.kept fun b o e => keep b o (Heap.lt_size e) e
  have le := onceS_le xs
  exact call_len_set ho hex hd hf (by rw [hn]; omega) ⟨.int ((onceS xs).length : Int), H1, I2.tok _, ⟨_, by rw [hn]⟩, q1⟩
end
/-! ### xs.remove(x), where it is in -/
def gRem (x : D) (ds : List D) (S : Store) : RE D := match x, ds with
  | .loc n, [y] => (match cellM S n with
    | some zs => (match pySL S zs, pyS S y with
      | some ps, some d => if PyData.canLayAll0 ps && d.canLay0 && decide (min (PyData.depthAll ps) d.depth ≤ 190) && decide (zs.length ≤ sizeLine) then (match ps.findIdx? (fun z => PyData.eqv z d) with
        | some j => .ok .non (S.set n (.lst (zs.eraseIdx j)))
        | none => .no) else .no
      | _, _ => .no)
    | none => .no)
  | _, _ => .no
def rRemD (K : PySem.W.Frag) : V → List V → Hp → VK → Prop := fun x xs H Q => ∃ (a : Addr) (y : V) (d : PyData) (vs : List V) (ps : List PyData) (j : Nat), x = .ref a ∧ xs = [y] ∧ H a = some (.lst vs) ∧ DpAll K H vs ps ∧ Dp K H y d ∧ PyData.canLayAll0 ps = true ∧ d.canLay0 = true ∧ min (PyData.depthAll ps) d.depth ≤ 190 ∧
  ps.findIdx? (fun z => PyData.eqv z d) = some j ∧ Q .non (upd H a (.lst (vs.eraseIdx j)))
section
variable {X : Cx}
theorem mt_remD (hu : X.A.units + 200 < cLine) : MtR X "list.remove" (rRemD X.K) := by
  intro pins s σ H x xs v us Q I rx rxs h
  obtain ⟨a, y, d, vs, ps, j, rfl, rfl, hH, hl, hy, c1, c2, c3, hj, q⟩ := h
  cases rx
  obtain ⟨uy, rfl, ry⟩ := rxs.one
  obtain ⟨bs, r1⟩ := Dp.reads I d y uy hy ry
  obtain ⟨z, its, n, r, hl1, e0⟩ := I.lstM hH
  obtain ⟨as, h4⟩ := Dp.readsAll I ps _ its hl r
  have hmap : its.map (SeqAt.readOf s.heap) = ps := SeqAt.readsAll_map ps its as c1 h4
  have eqs := SeqAt.items_eqAt (A := X.A) (vs := its.toArray) (show ReadsAll s.heap its.toArray.toList ps as from h4) r1 c1 c2 (by omega)
  obtain ⟨jl, jp, jn⟩ := List.findIdx?_eq_some_iff_getElem.mp hj
  have il : its.length = ps.length := by rw [← hmap, List.length_map]
  have at_ : ∀ (i : Nat) (hi : i < its.length), SeqAt.readOf s.heap its[i] = ps[i]'(by omega) := fun i hi => by
    have : (its.map (SeqAt.readOf s.heap))[i]'(by simpa using hi) = ps[i]'(by omega) := by
      have e : (its.map (SeqAt.readOf s.heap))[i]? = ps[i]? := by rw [hmap]
      rw [List.getElem?_eq_getElem (by simpa using hi), List.getElem?_eq_getElem (by omega)] at e
      exact Option.some.inj e
    rwa [List.getElem_map] at this
  have hz : its.toArray.size ≤ sizeLine := by rw [List.size_toArray, ← hl1]; exact z
  have hjl : j < its.length := by omega
  have rm := SeqAt.list_removeAt a its.toArray n none #[] uy (fun u => PyData.eqv (SeqAt.readOf s.heap u) d) j (by simpa using hjl) (by
    show PyData.eqv (SeqAt.readOf s.heap its[j]) d = true
    rw [at_ j hjl]; exact jp) (fun i hi hlt => by
    have hi' : i < its.length := by simpa using hi
    show PyData.eqv (SeqAt.readOf s.heap its[i]) d = false
    rw [at_ i hi']
    have := jn i hlt
    simpa using this) hz
  refine call_meets PySem.F.slot_list_remove ⟨_, e0, rfl⟩ PySem.F.entry_list_remove (PySem.F.args_list_remove_2 _ _) rm ⟨e0, eqs, ?_⟩
  refine ⟨.non, _, I.lset (its' := its.eraseIdx j) hH e0 (by show its.toArray.eraseIdxIfInBounds j = _; rw [List.eraseIdxIfInBounds_toArray]) (r.eraseIdx j) ?_, rfl, q⟩
  have := List.length_eraseIdx_le vs j
  omega
variable {K : PySem.W.Frag} {mg : Str → Option Value}
theorem rem_v : MtV K mg (rRemD K) gRem := by
  intro w S H x xs d ds Q E s r1 r2 h
  unfold gRem at h
  split at h
  · rename_i n y
    split at h
    · rename_i zs hz
      split at h
      · rename_i ps p h1 h2
        split at h
        · rename_i hk
          simp only [Bool.and_eq_true, decide_eq_true_eq] at hk
          split at h
          · rename_i j hj
            obtain ⟨v, rfl, r3⟩ := r2.one_inv
            obtain ⟨l, vs, e1, t1, q1⟩ := seqM_at (S := S) (d := .loc n) s r1 hz
            exact ⟨l, v, p, vs, ps, j, e1, rfl, t1, pySL_at s zs vs ps q1 h1, pyS_at s y v p r3 h2, hk.1.1.1, hk.1.1.2, hk.1.2, hj, wrote s r1 hz (q1.erase j) rp_n h l e1⟩
          · exact h.elim
        · exact h.elim
      · exact h.elim
    · exact h.elim
  · exact h.elim
end
/-! ### dict(rows), unlike names ahead -/
def rowsOf : List D → Option (List (Str × D))
  | [] => some []
  | .tup [.str x, d] :: r => (rowsOf r).map ((x, d) :: ·)
  | _ => none
def gDict : List D → Store → RE D
  | [d], S => (match seqL S d with
    | some ds => (match rowsOf ds with
      | some rs => if (rs.map Prod.fst).Nodup then .ok (.dic (rs.map fun r => Sum.inr r.1) (rs.map Prod.snd)) S else .no
      | none => .no)
    | none => .no)
  | _, _ => .no
section
variable {X : Cx} {K : PySem.W.Frag} {mg : Str → Option Value} {w : Wd} {H : Hp}
theorem merge_new : ∀ (more acc : List (Key × V)), (more.map Prod.fst).Nodup → (∀ k ∈ more.map Prod.fst, k ∉ acc.map Prod.fst) → mergeK acc more = acc ++ more
  | [], acc, _, _ => by simp [mergeK]
  | kv :: more, acc, nd, hn => by
    obtain ⟨n1, n2⟩ := List.nodup_cons.mp (show (kv.1 :: more.map Prod.fst).Nodup from nd)
    have h0 : (acc.any fun p => decide (p.1 = kv.1)) = false := by
      rw [List.any_eq_false]
      intro p hp e
      exact hn kv.1 (by simp) (List.mem_map.mpr ⟨p, hp, of_decide_eq_true e⟩)
    have h1 : putK acc kv.1 kv.2 = acc ++ [kv] := by unfold putK; rw [if_neg (by rw [h0]; exact Bool.false_ne_true)]
    show mergeK (putK acc kv.1 kv.2) more = _
    rw [h1, merge_new more (acc ++ [kv]) n2 (fun k hk => ?_)]
    · simp
    · rw [List.map_append, List.mem_append]
      rintro (h | h)
      · exact hn k (by simp only [List.map_cons, List.mem_cons]; exact .inr hk) h
      · have : k = kv.1 := by simpa using h
        exact n1 (this ▸ hk)
theorem rows_at : ∀ {ds : List D} {vs : List V} {rs : List (Str × D)}, RpL K mg w H ds vs → rowsOf ds = some rs → ∃ (ps : List Addr) (kvs : List (Key × V)), vs = ps.map V.ref ∧ Paired (fun p kv => SqT K H p [kV kv.1, kv.2]) ps kvs ∧ kvs.map Prod.fst = rs.map (fun r => Sum.inr r.1) ∧ RpL K mg w H (rs.map Prod.snd) (kvs.map Prod.snd)
  | [], vs, rs, r, h => by
    unfold RpL at r
    simp only [rowsOf] at h
    cases h
    exact ⟨[], [], r, .nil, rfl, RpL.nil⟩
  | d :: ds, vs, rs, r, h => by
    unfold rowsOf at h
    split at h
    · rename_i e; cases e
    · rename_i x d' r' e
      cases e
      obtain ⟨rs', h1, h2⟩ := Option.map_eq_some_iff.mp h
      unfold RpL at r
      obtain ⟨v, vs', e1, r1, r2⟩ := r
      obtain ⟨ps, kvs, e2, p2, e3, r3⟩ := rows_at r2 h1
      obtain ⟨a, xs, e4, t4, q4⟩ := tup_at r1
      unfold RpL at q4
      obtain ⟨v1, xs1, e5, r5, q5⟩ := q4
      obtain ⟨v2, e6, r6⟩ := q5.one_inv
      rw [e5, e6, rp_str r5] at t4
      refine ⟨a :: ps, (Sum.inr x, v2) :: kvs, by rw [e1, e4, e2]; rfl, .cons t4 p2, by rw [← h2]; simp [e3], ?_⟩
      rw [← h2]
      exact RpL.cons r6 r3
    · cases h
theorem dict_v : CallV K mg (fun xs H Q => ∃ (a : Addr) (ps : List Addr) (kvs : List (Key × V)), xs = [.ref a] ∧ SqL K H a (ps.map V.ref) ∧ Paired (fun p kv => SqT K H p [kV kv.1, kv.2]) ps kvs ∧ ∀ p, H p = none → Q (.ref p) (upd H p (.dK (mergeK [] kvs)))) gDict := by
  intro w S H xs ds Q E s r h
  unfold gDict at h
  split at h
  · rename_i d S'
    split at h
    · rename_i es he
      split at h
      · rename_i rs hr
        split at h
        · rename_i nd
          obtain ⟨v, rfl, r1⟩ := r.one_inv
          obtain ⟨a, vs, ev, sq, rl⟩ := seqL_at s r1 he
          obtain ⟨ps, kvs, e2, p2, e3, r3⟩ := rows_at rl hr
          rw [e2] at sq
          refine ⟨a, ps, kvs, by rw [ev], sq, p2, fun p np => ?_⟩
          have nd2 : (kvs.map Prod.fst).Nodup := by
            rw [e3]
            have : (rs.map fun r => (Sum.inr r.1 : Key)) = (rs.map Prod.fst).map Sum.inr := by rw [List.map_map]; rfl
            rw [this]
            exact List.Pairwise.map _ (fun a b hab => fun e => hab (Sum.inr.inj e)) nd
          rw [merge_new kvs [] nd2 (by simp), List.nil_append]
          have ez : kvs = (rs.map fun r => (Sum.inr r.1 : Key)).zip (kvs.map Prod.snd) := by
            rw [← e3]
            exact (List.zip_of_prod rfl rfl)
          have ll : (rs.map fun r => (Sum.inr r.1 : Key)).length = (kvs.map Prod.snd).length := by
            rw [← e3, List.length_map, List.length_map]
          rw [ez]
          have ez2 : ((rs.map fun r => (Sum.inr r.1 : Key)).zip (kvs.map Prod.snd)) = ((rs.map fun r => (Sum.inr r.1 : Key)).zip (kvs.map Prod.snd)) := rfl
          refine h w _ _ (Ext.new np) (s.beside np) ?_
          show Rp _ _ _ _ _ _
          unfold Rp
          exact ⟨p, kvs.map Prod.snd, rfl, upd_same, s.new np, ll, RpL.ext (Ext.new np) _ _ r3⟩
        · exact h.elim
      · exact h.elim
    · exact h.elim
  · exact h.elim
end
end Kw

/-! Kw29: xs.insert(i, y). -/
namespace Kw
open PySem PySem.Spec PyProof.Rows L2
def gIns (x : D) (ds : List D) (S : Store) : RE D := match x, ds with
  | .loc n, [.int i, y] => (match cellM S n with
    | some xs => if xs.length < sizeLine ∧ 0 ≤ i ∧ i < 2 ^ 63 then .ok .non (S.set n (.lst (xs.take i.toNat ++ [y] ++ xs.drop i.toNat))) else .no
    | none => .no)
  | _, _ => .no
theorem ins_v {K : PySem.W.Frag} {mg : Str → Option Value} : MtV K mg (fun x vs H Q => ∃ (l : Addr) (xs : List V) (i : Int) (y : V), x = .ref l ∧ vs = [.int i, y] ∧ H l = some (.lst xs) ∧ xs.length < sizeLine ∧ 0 ≤ i ∧ i < 2 ^ 63 ∧
    Q .non (upd H l (.lst (xs.take i.toNat ++ [y] ++ xs.drop i.toNat)))) gIns := by
  intro w S H x xs d ds Q E s r1 r2 h
  unfold gIns at h
  split at h
  · rename_i n i y
    split at h
    · rename_i zs hz
      split at h
      · rename_i hk
        unfold RpL at r2
        obtain ⟨v, vs, ev, rv, r3⟩ := r2
        obtain ⟨u, rfl, ru⟩ := r3.one_inv
        have e1 := rp_int rv
        obtain ⟨l, us, e2, t1, q1⟩ := seqM_at (S := S) (d := .loc n) s r1 hz
        have hl := q1.length
        refine ⟨l, us, i, u, e2, by rw [ev, e1], t1, by omega, hk.2.1, hk.2.2, ?_⟩
        exact wrote s r1 hz (((q1.take i.toNat).append (RpL.one ru)).append (q1.drop i.toNat)) rp_n h l e2
      · exact h.elim
    · exact h.elim
  · exact h.elim
section
variable {S : Store} {n : Nat} {xs : List D} {y : D}
theorem gIns_loc {i : Nat} (h : cellM S n = some xs) (hl : xs.length < sizeLine) (hi : i ≤ 1000000) : gIns (.loc n) [.int (i : Int), y] S = .ok .non (S.set n (.lst (xs.take i ++ [y] ++ xs.drop i))) := by
  have h2 : (0 : Int) ≤ (i : Int) ∧ ((i : Int) < 2 ^ 63) := ⟨by omega, by
    have : (2 : Int) ^ 63 = 9223372036854775808 := by decide
    rw [this]; omega⟩
  unfold gIns
  simp only [h]
  rw [if_pos ⟨hl, h2.1, h2.2⟩, Int.toNat_natCast]
end
end Kw

/-! Kw30: except clauses that name two classes. -/
namespace Kw
open PySem PySem.Spec PyProof.Rows L2
/-- a tuple more on the heap -/
theorem flying_push {B g : Heap} {l : List Env} {a : Addr} {Z : Obj → Prop} (o : Obj) (fl : HandSPX.FlyingZ B l a Z g) : HandSPX.FlyingZ B l a Z (g.push o) := by
  obtain ⟨f1, f2, f3, oe, vs, T, oT, ts, he, hz, hd, h1, hnT, hTe, hT, hdT, h3⟩ := fl
  exact ⟨fun b o e => Heap.get?_push_of_some _ (f1 b o e), f2, f3.of_keeps fun b o e _ => ⟨o, Heap.get?_push_of_some _ e, rfl⟩, oe, vs, T, oT, ts, Heap.get?_push_of_some _ he, hz, hd, h1, hnT, hTe, Heap.get?_push_of_some _ hT, hdT, h3⟩
abbrev Cl2 := List Value × Option Nat × (Addr → Value → Option Addr → TS)
def wCls2 (K : PySem.W.Frag) (Wout : WX) (D : Ends) : List Cl2 → WX
  | [] => Wout
  | (cs, o, ts) :: r => fun cls d σ H => ∃ b, PySem.W.exmAny K cls cs = some b ∧ (b = true → ∀ a, H a = none → hit o (ts a cls d) D a σ H) ∧ (b = false → wCls2 K Wout D r cls d σ H)
inductive ClsOk2 (X : Cx) : List ExceptHandler → List Cl2 → Prop
  | nil : ClsOk2 X [] []
  | plain {x : Str} {c : Value} {ts : Addr → Value → Option Addr → TS} {b₀ : Stmt} {su : List Stmt} {np q : Pos} {hds : List ExceptHandler} {l : List Cl2} (nm : Names X x c) (k : SuOk X (b₀ :: su) ts) (r : ClsOk2 X hds l) :
      ClsOk2 X (.ExceptHandler (some (.Name x np)) none (b₀ :: su) q :: hds) (([c], none, ts) :: l)
  | two {x y : Str} {c d : Value} {ts : Addr → Value → Option Addr → TS} {b₀ : Stmt} {su : List Stmt} {np np2 tp q : Pos} {kk : Nat} {hds : List ExceptHandler} {l : List Cl2} (nm : Names X x c) (nm2 : Names X y d) (k : SuOk X (b₀ :: su) ts) (r : ClsOk2 X hds l) :
      ClsOk2 X (.ExceptHandler (some (.Tuple [.Name x np, .Name y np2] kk tp)) none (b₀ :: su) q :: hds) (([c, d], none, ts) :: l)
section
variable {X : Cx} {body : List Stmt} {h₀ : ExceptHandler} {hds : List ExceptHandler} {l : List Cl2} {pos : Pos} {tb : WX → TS} {Wout : WX}
theorem try_cls2 (stk : X.stack = X.env :: X.outer) (frm : X.env.frame = some X.env.locals) (hN : X.N.Nodup) (tk : Takes X Wout)
    (hb : ∀ (W' : WX) (pn : List (Addr × Obj)) (xe : Value → Shared → Prop), Takes (X.tr pn xe) W' → PassesOwn (model X.prog X.w) X.A X.env xe → PSs (X.tr pn xe) body (tb W'))
    (hh : ClsOk2 X (h₀ :: hds) l) : PS X (.Try body (h₀ :: hds) [] [] pos) (fun D σ H => tb (wCls2 X.K Wout D l) D σ H) := by
  refine ⟨fun pins s σ H D I pre => ?_⟩
  have ok := I.ok
  have frs0 : X.A.frames = some (X.env :: X.outer) := ok.frames.trans (congrArg some stk)
  let XE0 : Value → Shared → Prop := fun e s₁ => wpAny (model X.prog X.w) X.A (noteFrame e X.env) (fun _ s₂ => wpAny (model X.prog X.w) X.A (setFlight e none) (fun _ s₃ => wpAny (model X.prog X.w) X.A (handleBy e X.env (h₀ :: hds)) (SP X pins D) X.xe s₃) X.xe s₂) X.xe s₁
  have caught : Takes (X.tr (X.pn ++ pins) XE0) (wCls2 X.K Wout D l) := by
    rintro u s' ⟨a, B, sI, pins', σ', H', cls, d, rfl, J', nb, up, sky, na, os, ag, w⟩
    have J : Inv X pins σ' H' sI := J'.ofTry ok
    have sky' : Sky B (X.env :: X.outer) a (Zc cls d) X.env.locals s'.heap := stk ▸ sky
    show wpAny (model X.prog X.w) X.A (noteFrame (.ref a) X.env) _ _ _
    refine Sky.land Zc.steady frs0 frm sky' fun g3 fl3 u3 => ?_
    have u3 := up.trans u3
    have away : ∀ (g : Heap) (o : Obj) (vs : Array Value), g.FunFrames B (X.env :: X.outer) → g.get? a = some o → o.data = .fields vs → a ∉ frs (X.env :: X.outer) ∧ a ≠ X.env.locals ∧ a ∉ X.fs := by
      intro g o vs ff at_ dd
      have n0 : a ∉ frs (X.env :: X.outer) := by
        intro hm
        obtain ⟨_, o', at', nd⟩ := ff.mem hm
        cases at_.symm.trans at'
        exact nd _ dd
      refine ⟨n0, ?_, ?_⟩
      · rintro rfl
        exact n0 (List.mem_filterMap.mpr ⟨X.env, List.mem_cons_self, frm⟩)
      · intro hm
        obtain ⟨e, he, q⟩ := List.mem_filterMap.mp hm
        exact n0 (List.mem_filterMap.mpr ⟨e, .tail _ he, q⟩)
    have go : ∀ {hs' : List ExceptHandler} {l' : List Cl2}, ClsOk2 X hs' l' → ∀ g3 : Heap, HandSPX.FlyingZ B (X.env :: X.outer) a (Zc cls d) g3 → sI.heap.UpToSlots g3 → wCls2 X.K Wout D l' cls d σ' H' → wpAny (model X.prog X.w) X.A (handleBy (.ref a) X.env hs') (SP X pins D) X.xe { s' with heap := g3 } := by
      intro hs' l' hk
      induction hk with
      | nil =>
        intro g3 fl3 u3 w
        have J3 : Inv X pins σ' H' { s' with heap := g3 } := J.landed nb fl3.1 u3 os ag
        refine wpAny_handleBy_nil ?_
        obtain ⟨_, _, _, oe, vs, T, oT, ts', he, hz, hd, h1, hr⟩ := id fl3
        unfold PySem.passOn
        refine wpAny_bind (wpAny_field he hd h1 ?_)
        rw [if_neg (by simp)]
        have up4 : wpAny (model X.prog X.w) X.A (setFlight (.ref a) X.env.frame) (fun _ s4 => wpAny (model X.prog X.w) X.A (throw (.ref a) : Sem Flow) (SP X pins D) X.xe s4) X.xe { s' with heap := g3 } := by
          rw [frm]
          exact HandSPX.setFlight_upZ fl3 fun g4 hg4 u4 => wpAny_throw (tk _ _ ⟨a, B, sI, pins, σ', H', cls, d, rfl, J, nb, u3.trans u4, .inr (.inr (stk.symm ▸ hg4)), na, os, ag, w⟩)
        first
          | exact wpAny_bind (wpAny_pure (wpAny_bind up4))
          | exact wpAny_bind up4
      | @plain x c ts b₀ su np q hds2 l2 nm k r ih =>
        intro g3 fl3 u3
        rintro ⟨b, hb1, yes, no⟩
        have J3 : Inv X pins σ' H' { s' with heap := g3 } := J.landed nb fl3.1 u3 os ag
        obtain ⟨o3, v3, at3, z3, d3⟩ := fl3.there
        obtain ⟨n0, n1, n2⟩ := away g3 o3 v3 fl3.2.2.1 at3 d3
        have S3 := J3.suite at3 d3 na n1 n2
        have LT : PySem.W.Looks (model X.prog X.w) g3 (typeOf (.ref a)) cls := fun A Q E s k q => wpAny_typeOf_ref (k _ _ at3) (z3.1.symm ▸ q)
        have ask : ∀ {x : Str} {c : Value} {np : Pos}, Names X x c → ∀ {Q E : Value → Shared → Prop}, Q c { s' with heap := g3 } → wpAny (model X.prog X.w) (X.A.mark (some (.ref a))) (eval (.Name x np) X.env) (fun v s => Q v s) E { s' with heap := g3 } := by
          rintro x c np ⟨hg, hdb, hm | ⟨hm, hv, hnn⟩⟩ Q E q
          · exact ld_glob (X := X.suite a ((a, o3) :: (X.pn ++ pins))) S3 hg hm q hdb
          · exact ld_blt (X := X.suite a ((a, o3) :: (X.pn ++ pins))) S3 hg hm hv q hnn hdb
        obtain ⟨b', d', hb2, hb3, hbe⟩ := PySem.W.exmAny_cons hb1
        have hb4 : some false = some d' := hb3
        cases hb4
        rw [Bool.or_false] at hbe
        subst hbe
        refine wpAny_handleBy_cons (codeAny_handlers_test ?_) (by intro z; cases z)
        refine ask nm ((PySem.W.exm_one (M := model X.prog X.w) J3.kIn LT hb2).here ?_)
        cases b with
        | false => exact ih g3 fl3 u3 (no rfl)
        | true =>
          refine codeAny_handlers_suite (HandSPX.lands_againZ fl3 fun g4 fl4 u4 => ?_)
          have J4 : Inv X pins σ' H' { s' with heap := g4 } := J.landed nb fl4.1 (u3.trans u4) os ag
          obtain ⟨o4, v4, at4, z4, d4⟩ := fl4.there
          obtain ⟨m0, m1, m2⟩ := away g4 o4 v4 fl4.2.2.1 at4 d4
          have S4 := J4.suite at4 d4 na m1 m2
          refine wpAny_mono ((k a o4 cls d (X.pn ++ pins) z4 ⟨_, d4⟩).run [] _ _ H' _ S4 (yes rfl a na)) (fun f s6 hsp => ?_) (fun _ _ z => False.elim z)
          cases f with
          | ret u => obtain ⟨v6, σ6, H6, S6, r6, q6⟩ := hsp; exact ⟨_, _, _, S6.unsuite ok, r6, q6⟩
          | _ => obtain ⟨σ6, H6, S6, q6⟩ := hsp; exact ⟨_, _, S6.unsuite ok, q6⟩
      | @two x y c d2 ts b₀ su np np2 tp q kk hds2 l2 nm nm2 k r ih =>
        intro g3 fl3 u3
        rintro ⟨b, hb1, yes, no⟩
        have J3 : Inv X pins σ' H' { s' with heap := g3 } := J.landed nb fl3.1 u3 os ag
        obtain ⟨o3, v3, at3, z3, d3⟩ := fl3.there
        obtain ⟨n0, n1, n2⟩ := away g3 o3 v3 fl3.2.2.1 at3 d3
        have S3 := J3.suite at3 d3 na n1 n2
        have LT : PySem.W.Looks (model X.prog X.w) g3 (typeOf (.ref a)) cls := fun A Q E s k q => wpAny_typeOf_ref (k _ _ at3) (z3.1.symm ▸ q)
        have ask : ∀ {x : Str} {c : Value} {np : Pos}, Names X x c → ∀ {Q E : Value → Shared → Prop}, Q c { s' with heap := g3 } → wpAny (model X.prog X.w) (X.A.mark (some (.ref a))) (eval (.Name x np) X.env) (fun v s => Q v s) E { s' with heap := g3 } := by
          rintro x c np ⟨hg, hdb, hm | ⟨hm, hv, hnn⟩⟩ Q E q
          · exact ld_glob (X := X.suite a ((a, o3) :: (X.pn ++ pins))) S3 hg hm q hdb
          · exact ld_blt (X := X.suite a ((a, o3) :: (X.pn ++ pins))) S3 hg hm hv q hnn hdb
        refine wpAny_handleBy_cons (codeAny_handlers_test ?_) (by intro z; cases z)
        refine wpAny_Tuple ?_
        refine wpAny_items_cons (ask nm ?_)
        refine wpAny_items_cons (ask nm2 ?_)
        refine wpAny_items_nil ⟨by size_fits, ?_⟩
        have kp : ∀ q o, g3.get? q = some o → (g3.push { cls := .type "tuple", data := .seq [c, d2].toArray }).get? q = some o := fun _ _ z => Heap.get?_push_of_some _ z
        have flp := flying_push { cls := .type "tuple", data := .seq [c, d2].toArray } fl3
        have u5 : sI.heap.UpToSlots (g3.push { cls := .type "tuple", data := .seq [c, d2].toArray }) := u3.trans (Heap.UpToSlots.of_keeps kp)
        have J5 : Inv X pins σ' H' { s' with heap := g3.push { cls := .type "tuple", data := .seq [c, d2].toArray } } := J.landed nb flp.1 u5 os ag
        refine (PySem.W.exm_tup2 J5.kIn (LT.keeps kp) (Heap.get?_push_size g3 rfl) hb1).here ?_
        cases b with
        | false => exact ih _ flp u5 (no rfl)
        | true =>
          refine codeAny_handlers_suite (HandSPX.lands_againZ flp fun g4 fl4 u4 => ?_)
          have J4 : Inv X pins σ' H' { s' with heap := g4 } := J.landed nb fl4.1 (u5.trans u4) os ag
          obtain ⟨o4, v4, at4, z4, d4⟩ := fl4.there
          obtain ⟨m0, m1, m2⟩ := away g4 o4 v4 fl4.2.2.1 at4 d4
          have S4 := J4.suite at4 d4 na m1 m2
          refine wpAny_mono ((k a o4 cls d (X.pn ++ pins) z4 ⟨_, d4⟩).run [] _ _ H' _ S4 (yes rfl a na)) (fun f s6 hsp => ?_) (fun _ _ z => False.elim z)
          cases f with
          | ret u => obtain ⟨v6, σ6, H6, S6, r6, q6⟩ := hsp; exact ⟨_, _, _, S6.unsuite ok, r6, q6⟩
          | _ => obtain ⟨σ6, H6, S6, q6⟩ := hsp; exact ⟨_, _, S6.unsuite ok, q6⟩
    exact go hh g3 fl3 u3 w
  refine wpAny_Try_except (wpAny_mono ((hb _ (X.pn ++ pins) XE0 caught PassesOwn.looking).run [] s σ H D (I.toTry _) pre) (fun f s1 hsp => ?_) (fun e s1 he => he))
  cases f with
  | next => obtain ⟨σ', H', J', q⟩ := hsp; exact wpAny_execs_nil ⟨σ', H', J'.ofTry ok, q⟩
  | ret u => obtain ⟨v, σ', H', J', r, q⟩ := hsp; exact ⟨v, σ', H', J'.ofTry ok, r, q⟩
  | _ => obtain ⟨σ', H', J', q⟩ := hsp; exact ⟨σ', H', J'.ofTry ok, q⟩
end
/-! ### over trees -/
inductive ClsF2 (X : Cx) (es : List Str) : List ExceptHandler → List ClF → Prop
  | nil : ClsF2 X es [] []
  | plain {x : Str} {sub : Str → Bool} {c : Str → Addr → FS} {b₀ : Stmt} {su : List Stmt} {np q : Pos} {hds : List ExceptHandler} {l : List ClF} (h : CatF X.K X.mg es x sub) (hg : Gl X x) (k : SuF X es (b₀ :: su) c) (r : ClsF2 X es hds l) (hd : (x == ("__debug__" : Str)) = false := by decide) :
      ClsF2 X es (.ExceptHandler (some (.Name x np)) none (b₀ :: su) q :: hds) ((sub, none, c) :: l)
  | two {x y : Str} {sub sub2 : Str → Bool} {c : Str → Addr → FS} {b₀ : Stmt} {su : List Stmt} {np np2 tp q : Pos} {kk : Nat} {hds : List ExceptHandler} {l : List ClF} (h : CatF X.K X.mg es x sub) (h2 : CatF X.K X.mg es y sub2) (hg : Gl X x) (hg2 : Gl X y) (k : SuF X es (b₀ :: su) c) (r : ClsF2 X es hds l) (hd : (x == ("__debug__" : Str)) = false := by decide) (hd2 : (y == ("__debug__" : Str)) = false := by decide) :
      ClsF2 X es (.ExceptHandler (some (.Tuple [.Name x np, .Name y np2] kk tp)) none (b₀ :: su) q :: hds) ((fun z => sub z || sub2 z, none, c) :: l)
section
variable {X : Cx} {W : WX} {es : List Str}
theorem exmAny_one {K : PySem.W.Frag} {cls c : Value} {b : Bool} (h : PySem.W.exmOne K cls c = some b) : PySem.W.exmAny K cls [c] = some b := by
  simp [PySem.W.exmAny, h]
theorem exmAny_two {K : PySem.W.Frag} {cls c d : Value} {b b2 : Bool} (h : PySem.W.exmOne K cls c = some b) (h2 : PySem.W.exmOne K cls d = some b2) : PySem.W.exmAny K cls [c, d] = some (b || b2) := by
  simp [PySem.W.exmAny, h, h2]
theorem ClsF2.go {hds : List ExceptHandler} {cs : List ClF} (h : ClsF2 X es hds cs) (hk : ∀ y ∈ es, ExcK X.K X.mg y) : ∃ l, ClsOk2 X hds l ∧ ∀ (D : Ends) (w : Wd) (x : Ex) (ρ : FEnv) (S : Store) (σ : L2.St) (H : Hp) (cy : Value) (od : Option Addr), x.cls ∈ es → x.ns = [] → Sto X.K X.mg w S H → EnvR X.K X.mg w H ρ σ → ExR X.K X.mg w H x cy od →
    EndS X.K X.mg w H (clsR x ρ S cs) D W → wCls2 X.K W D l cy od σ H := by
  have ex0 : ∀ {w : Wd} {H : Hp} {x : Ex} {cy : Value} {od : Option Addr}, x.cls ∈ es → x.ns = [] → ExR X.K X.mg w H x cy od → ∃ C, X.mg x.cls = some (.ref C) ∧ cy = .ref C ∧ od = none := by
    intro w H x cy od hx hn ex
    obtain ⟨gy, hr⟩ := ex
    obtain ⟨C, gC, _⟩ := hk _ hx
    cases gC.symm.trans gy
    refine ⟨C, gC, rfl, ?_⟩
    rcases hr with ⟨_, _, z⟩ | ⟨d, vs, z, _⟩
    · exact z
    · exact absurd hn z
  have yes : ∀ {sub : Str → Bool} {c : Str → Addr → FS} {l : List ClF} {D : Ends} {w : Wd} {x : Ex} {ρ : FEnv} {S : Store} {σ : L2.St} {H : Hp} {C : Addr}, x.cls ∈ es → X.mg x.cls = some (.ref C) → Sto X.K X.mg w S H → EnvR X.K X.mg w H ρ σ → EndS X.K X.mg w H (clsR x ρ S ((sub, none, c) :: l)) D W → sub x.cls = true → ∀ a, H a = none → hit none (tsOf X es c a (.ref C) none) D a σ H := by
    intro sub c l D w x ρ S σ H C hx gC s en h hs a na
    have h2 : EndS X.K X.mg w H (aInd (clRun none (c x.cls) ρ S)) D W := by
      have h' := h
      unfold clsR at h'
      rw [if_pos hs] at h'
      exact h'
    by_cases hno : aInd (clRun none (c x.cls) ρ S) = .no
    · rw [hno] at h2; exact h2.elim
    · rw [← aInd_at a rfl hno] at h2
      exact ⟨x.cls, C, hx, gC, rfl, rfl, w, ρ, S, s, en, h2.nox⟩
  have noo : ∀ {sub : Str → Bool} {c : Str → Addr → FS} {l : List ClF} {D : Ends} {w : Wd} {x : Ex} {ρ : FEnv} {S : Store} {H : Hp}, EndS X.K X.mg w H (clsR x ρ S ((sub, none, c) :: l)) D W → sub x.cls = false → EndS X.K X.mg w H (clsR x ρ S l) D W := by
    intro sub c l D w x ρ S H h hs
    have h' := h
    unfold clsR at h'
    rw [if_neg (by rw [hs]; decide)] at h'
    exact h'
  induction h with
  | nil =>
    refine ⟨[], .nil, fun D w x ρ S σ H cy od hx hn s en ex h => ?_⟩
    exact h w H σ cy od Ext.refl s en ex
  | @plain x sub c b₀ su np q hds l hc hg k r hd ih =>
    obtain ⟨cv, nm, hx1⟩ := hc.names hg hd
    obtain ⟨l', ok', go'⟩ := ih
    refine ⟨([cv], none, tsOf X es c) :: l', .plain nm k.su ok', fun D w x ρ S σ H cy od hx hn s en ex h => ?_⟩
    obtain ⟨C, gC, rfl, rfl⟩ := ex0 hx hn ex
    exact ⟨sub x.cls, exmAny_one (hx1 _ hx _ gC), fun hs a na => yes hx gC s en h hs a na, fun hs => go' D w x ρ S σ H _ _ hx hn s en ex (noo h hs)⟩
  | @two x y sub sub2 c b₀ su np np2 tp q kk hds l hc hc2 hg hg2 k r hd hd2 ih =>
    obtain ⟨cv, nm, hx1⟩ := hc.names hg hd
    obtain ⟨cv2, nm2, hx2⟩ := hc2.names hg2 hd2
    obtain ⟨l', ok', go'⟩ := ih
    refine ⟨([cv, cv2], none, tsOf X es c) :: l', .two nm nm2 k.su ok', fun D w x ρ S σ H cy od hx hn s en ex h => ?_⟩
    obtain ⟨C, gC, rfl, rfl⟩ := ex0 hx hn ex
    exact ⟨sub x.cls || sub2 x.cls, exmAny_two (hx1 _ hx _ gC) (hx2 _ hx _ gC), fun hs a na => yes hx gC s en h hs a na, fun hs => go' D w x ρ S σ H _ _ hx hn s en ex (noo h hs)⟩
theorem q_tryC2 {body : List Stmt} {h₀ : ExceptHandler} {hds : List ExceptHandler} {cs : List ClF} {pos : Pos} {fb : FS} (stk : X.stack = X.env :: X.outer) (frm : X.env.frame = some X.env.locals) (hN : X.N.Nodup) (tk : Takes X W) (hk : ∀ y ∈ es, ExcK X.K X.mg y)
    (hb : ∀ (W' : WX) (pn : List (Addr × Obj)) (xe : Value → Shared → Prop), Takes (X.tr pn xe) W' → PassesOwn (model X.prog X.w) X.A X.env xe → PSs (X.tr pn xe) body (tS (X.tr pn xe) W' fb))
    (hc : ClsF2 X es (h₀ :: hds) cs) : PS X (.Try body (h₀ :: hds) [] [] pos) (tS X W (sTryC es cs fb)) := by
  obtain ⟨l, okl, go⟩ := hc.go (W := W) hk
  refine PS.wk (try_cls2 (tb := fun W' => tS X W' fb) stk frm hN tk (fun W' pn xe t o => hb W' pn xe t o) okl) fun D σ H ⟨w, ρ, S, s, en, h⟩ => ?_
  refine ⟨w, ρ, S, s, en, ?_⟩
  unfold sTryC at h
  cases hbb : fb ρ S with
  | ex y ρ' S' =>
    rw [hbb] at h
    simp only at h
    split at h
    · rename_i hm
      intro w' H' σ' cy od e s' en' ex
      exact go D w' y ρ' S' σ' H' cy od hm.1 hm.2 s' en' ex (h.on e)
    · exact h.elim
  | _ => rw [hbb] at h; exact h
end
end Kw

/-! Kw31: an exception that is made and kept; isinstance of it. -/
namespace Kw
open PySem PySem.Spec PyProof.Rows L2
def gExo (c : Str) (x : D) (S : Store) : RE D := .ok (.exo c [] []) S
/-- the classes that may come; those that are of the one asked for -/
def gIsO (ys : List Str) (sub : Str → Bool) (x : D) (S : Store) : RE D := match x with
  | .exo c ns _ => if c ∈ ys ∧ ns = [] then .ok (.bl (sub c)) S else .no
  | _ => .no
def rIsO (K : PySem.W.Frag) : List V → Hp → VK → Prop := fun xs H Q => ∃ (a C : Addr) (c : V) (cv : Value) (b : Bool), xs = [.ref a, c] ∧ H a = some (ExOd (.ref C) none a) ∧ ExcC K C ∧ (∀ u, RelV c u → u = cv) ∧ PySem.W.kitOne K (.ref C) cv = some b ∧ Q (.bl b) H
theorem inst_exo {h : Heap} {a C : Addr} {oe : Obj} {vs : Array Value} (hg : h.get? a = some oe) (hz : Zc (.ref C) none oe) (hv : oe.data = .fields vs) : PySem.W.InstAt h a oe C none := by
  obtain ⟨oc, od, oda, osl⟩ := oe
  obtain ⟨h1, h2⟩ := hz
  dsimp only at h1 h2 hv
  subst h1 h2 hv
  exact ⟨hg, rfl, rfl, trivial⟩
theorem call_isO {X : Cx} : CallR X (.builtin "isinstance") (rIsO X.K) := by
  intro pins s σ H xs us Q I r h
  obtain ⟨a, C, c, cv, b, rfl, ha, F, hcv, e, q⟩ := h
  obtain ⟨u1, u2, rfl, r1, r2⟩ := vals2 r
  cases (show u1 = Value.ref a from r1)
  have ec := hcv _ r2
  subst ec
  obtain ⟨⟨oe, vs, hg, hz, hv, _⟩, _, _⟩ := I.hok a _ ha
  exact PySem.W.kia_one (PySem.W.handS_kitx_exc F.hg F.hk F.hs F.hd F.ha F.hn F.ht F.hm) I.kIn (inst_exo hg hz hv) e (fun z => nomatch z) fun tk => ⟨.bl b, H, I.kept (t' := tk) fun _ _ z => z, rfl, q⟩
def rIsOT (K : PySem.W.Frag) : List V → Hp → VK → Prop := fun xs H Q => ∃ (a C tp : Addr) (cs : List V) (us : List Value) (b : Bool), xs = [.ref a, .ref tp] ∧ H a = some (ExOd (.ref C) none a) ∧ ExcC K C ∧ H tp = some (.tup cs) ∧ Paired ClsV cs us ∧ PySem.W.kitAny K (.ref C) us = some b ∧ Q (.bl b) H
theorem call_isOT {X : Cx} : CallR X (.builtin "isinstance") (rIsOT X.K) := by
  intro pins s σ H xs us Q I r h
  obtain ⟨a, C, tp, cs, ws, b, rfl, ha, F, hT, k, e, q⟩ := h
  obtain ⟨u1, u2, rfl, r1, r2⟩ := vals2 r
  cases (show u2 = Value.ref tp from r2)
  cases (show u1 = Value.ref a from r1)
  obtain ⟨⟨oe, vs, hg, hz, hv, _⟩, _, _⟩ := I.hok a _ ha
  obtain ⟨_, its, rv, o, h1, h2, n, h3⟩ := (show ObjOk X.prog X.w H s.heap tp (.tup cs) from I.hok tp _ hT)
  have e3 := ClsV.all k rv
  subst e3
  obtain ⟨oc, od, dt, sl⟩ := o
  dsimp only at h2 h3
  subst h2 h3
  exact PySem.W.kia_tup (PySem.W.handS_kitx_exc F.hg F.hk F.hs F.hd F.ha F.hn F.ht F.hm) I.kIn (inst_exo hg hz hv) h1 e (fun z => nomatch z) fun tk => ⟨.bl b, H, I.kept (t' := tk) fun _ _ z => z, rfl, q⟩
/-- classes that are asked for, by their names -/
inductive IsL (X : Cx) (ys : List Str) : List Expr → (Str → Bool) → Prop
  | nil : IsL X ys [] fun _ => false
  | cons {x : Str} {p : Pos} {es : List Expr} {sub sub2 : Str → Bool} (hg : Gl X x) (h : ∀ y ∈ ys, IsxO X.K X.mg y x (sub y)) (t : IsL X ys es sub2) (hd : (x == ("__debug__" : Str)) = false := by decide)
      (hs : starEach (.Name x p :: es) X.env = (false, eval (.Name x p) X.env) :: starEach es X.env := by rfl) : IsL X ys (.Name x p :: es) fun y => sub y || sub2 y
theorem IsL.get {X : Cx} {ys : List Str} {es : List Expr} {sub : Str → Bool} (h : IsL X ys es sub) (hne : ys ≠ []) : ∃ Bs : List Addr, es.length = Bs.length ∧ PA X es (fun _ H Q => Q (Bs.map V.ref) H) ∧ Paired ClsV (Bs.map V.ref) (Bs.map Value.ref) ∧ ∀ y ∈ ys, ∀ C, X.mg y = some (.ref C) → PySem.W.kitAny X.K (.ref C) (Bs.map Value.ref) = some (sub y) := by
  induction h with
  | nil => exact ⟨[], rfl, pa_nil, .nil, fun _ _ _ _ => rfl⟩
  | @cons x p es sub sub2 hg h t hd hs ih =>
    obtain ⟨Bs, l, pa, pr, k⟩ := ih
    obtain ⟨y0, hy0⟩ := List.exists_mem_of_ne_nil ys hne
    obtain ⟨C0, B, _, mB, _⟩ := h y0 hy0
    have n1 : PE X (.Name x p) (tC (.ref B)) := pe_glob hg mB rfl hd
    refine ⟨B :: Bs, by simp [l], pa_cons n1 pa hs, .cons (.own B) pr, fun y hy C hC => ?_⟩
    obtain ⟨C1, B1, m1, m2, e⟩ := h y hy
    cases hC.symm.trans m1
    cases mB.symm.trans m2
    have := k y hy C hC
    show PySem.W.kitAny X.K (.ref C) (.ref B :: Bs.map Value.ref) = _
    unfold PySem.W.kitAny
    rw [e]
    cases hs2 : sub y with
    | true => simp [hs2]
    | false => simpa [hs2] using this
section
variable {X : Cx} {W : WX} {o e : Expr} {fe : FE} {c x : Str} {ys : List Str} {sub : Str → Bool} {p q pos tpos : Pos} {kk : Nat}
theorem q_exo (h : ExcF X.K X.mg c) (hg : Gl X c) (he : PE X e (tF X W fe)) (hs : starEach [e] X.env = (false, eval e X.env) :: starEach [] X.env := by rfl) (hdb : (c == ("__debug__" : Str)) = false := by decide) :
    PE X (.Call (.Name c p) [e] [] pos) (tF X W (f1 (gExo c) fe)) := by
  obtain ⟨C, gC, xC, kC, bC, tC⟩ := h
  refine PE.wk (pe_exc1 PySem.F.excBase_ValueError xC gC kC hg he hs hdb) fun σ H Q ⟨w, ρ, S, s, en, h⟩ => ?_
  refine ⟨w, ρ, S, s, en, (End.bind (R := fun w H => Rp X.K X.mg w H) h).imp ?_ (fun _ _ _ z => z)⟩
  rintro v H1 ⟨w1, S1, d, e1, s1, r1, h1⟩ a na
  refine h1 w1 _ _ (Ext.new na) (s1.beside na) ?_
  show Rp _ _ _ _ (.exo c [] []) _
  unfold Rp
  exact ⟨a, C, none, [], rfl, gC, upd_same, s1.new na, ⟨fun _ => rfl, fun _ => rfl⟩, (fun d hd => by cases hd), rfl, RpL.nil⟩
theorem exo_at {K : PySem.W.Frag} {mg : Str → Option Value} {w : Wd} {H : Hp} {S : Store} {Q : VK} {E : Value → Option Addr → Hp → Prop} {d : D} {v : V} (r : Rp K mg w H d v) (s : Sto K mg w S H) (h : End K mg (fun w H => Rp K mg w H) w H (gIsO ys sub d S) Q E) : ∃ a C y, v = .ref a ∧ y ∈ ys ∧ mg y = some (.ref C) ∧ H a = some (ExOd (.ref C) none a) ∧ Q (.bl (sub y)) H := by
  cases d <;> simp only [gIsO] at h <;> try exact h.elim
  rename_i c ns ds
  split at h
  · rename_i hh
    unfold Rp at r
    obtain ⟨a, C, od, vs, e1, m, t, n, z, q, l, r⟩ := r
    have := z.mpr hh.2
    subst this
    exact ⟨a, C, c, e1, hh.1, m, t, h.ret s rp_b⟩
  · exact h.elim
theorem q_isO (hk : ∀ y ∈ ys, ExcK X.K X.mg y) (hi : ∀ y ∈ ys, IsxO X.K X.mg y x (sub y)) (hne : ys ≠ []) (hg : Gl X "isinstance") (hm : X.mg "isinstance" = none) (hgx : Gl X x) (ho : PE X o (tF X W fe)) (hd : (x == ("__debug__" : Str)) = false := by decide)
    (h1 : starEach [o, .Name x q] X.env = (false, eval o X.env) :: starEach [.Name x q] X.env := by rfl) (h2 : starEach [.Name x q] X.env = (false, eval (.Name x q) X.env) :: starEach [] X.env := by rfl) (hpl : (backTo pos (starEach [.Name x q] X.env)).any (·.1) = false := by rfl) :
    PE X (.Call (.Name "isinstance" p) [o, .Name x q] [] pos) (tF X W (f1 (gIsO ys sub) fe)) := by
  obtain ⟨y0, hy0⟩ := List.exists_mem_of_ne_nil ys hne
  obtain ⟨C0, B, _, mB, _⟩ := hi y0 hy0
  have n1 : PE X (.Name x q) (tC (.ref B)) := pe_glob hgx mB rfl hd
  refine PE.wk (pe_callB call_isO hg hm (by decide +kernel) (pa_cons ho (pa_cons n1 pa_nil h2) h1) (by decide) (by decide) h1 hpl) fun σ H Q ⟨w, ρ, S, s, en, h⟩ => ?_
  refine ⟨w, ρ, S, s, en, (End.bind (R := fun w H => Rp X.K X.mg w H) h).imp ?_ (fun _ _ _ z => z)⟩
  rintro v H1 ⟨w1, S1, d, e1, s1, r1, h3⟩
  obtain ⟨a, C, y, ev, hy, m, t, qq⟩ := exo_at r1 s1 h3
  obtain ⟨C1, m1, k1⟩ := hk y hy
  obtain ⟨C2, B2, m2, m3, k2⟩ := hi y hy
  cases m.symm.trans m1
  cases m.symm.trans m2
  cases mB.symm.trans m3
  exact ⟨a, C, .ref B, .ref B, sub y, by rw [ev], t, k1, fun u r => r, k2, qq⟩
theorem q_isOT {es : List Expr} (hk : ∀ y ∈ ys, ExcK X.K X.mg y) (hi : IsL X ys es sub) (hne : ys ≠ []) (hl : es.length ≤ sizeLine) (hg : Gl X "isinstance") (hm : X.mg "isinstance" = none) (ho : PE X o (tF X W fe))
    (h1 : starEach [o, .Tuple es kk tpos] X.env = (false, eval o X.env) :: starEach [.Tuple es kk tpos] X.env := by rfl) (h2 : starEach [.Tuple es kk tpos] X.env = (false, eval (.Tuple es kk tpos) X.env) :: starEach [] X.env := by rfl) (hpl : (backTo pos (starEach [.Tuple es kk tpos] X.env)).any (·.1) = false := by rfl) :
    PE X (.Call (.Name "isinstance" p) [o, .Tuple es kk tpos] [] pos) (tF X W (f1 (gIsO ys sub) fe)) := by
  obtain ⟨Bs, lB, pa, pr, kB⟩ := hi.get hne
  have tup := pe_tup (x1 := kk) (pos := tpos) pa
  refine PE.wk (pe_callB call_isOT hg hm (by decide +kernel) (pa_cons ho (pa_cons tup pa_nil h2) h1) (by decide) (by decide) h1 hpl) fun σ H Q ⟨w, ρ, S, s, en, h⟩ => ?_
  refine ⟨w, ρ, S, s, en, (End.bind (R := fun w H => Rp X.K X.mg w H) h).imp ?_ (fun _ _ _ z => z)⟩
  rintro v H1 ⟨w1, S1, d, e1, s1, r1, h3⟩
  refine ⟨by rw [List.length_map, ← lB]; exact hl, fun tp np => ?_⟩
  have h4 := h3.on (Ext.new (o := .tup (Bs.map V.ref)) np)
  obtain ⟨a, C, y, ev, hy, m, t, qq⟩ := exo_at (Rp.ext (Ext.new (o := .tup (Bs.map V.ref)) np) _ _ r1) (s1.beside np) h4
  obtain ⟨C1, m1, k1⟩ := hk y hy
  cases m.symm.trans m1
  exact ⟨a, C, tp, Bs.map V.ref, Bs.map Value.ref, sub y, by rw [ev], t, k1, upd_same, pr, kB y hy C m, qq⟩
end
section
variable {ys : List Str} {sub : Str → Bool} {c : Str} {S : Store}
theorem gIsO_exo (h : c ∈ ys) : gIsO ys sub (.exo c [] []) S = .ok (.bl (sub c)) S := by
  simp [gIsO, h]
end
end Kw

/-! Kw32: max of one list of whole numbers. -/
namespace Kw
open PySem PySem.Spec PyProof.Rows L2
/-- the greatest -/
def mxI : Int → List Int → Int
  | i, [] => i
  | i, j :: js => mxI (if j > i then j else i) js
theorem mxI_ge : ∀ (js : List Int) (i : Int), i ≤ mxI i js
  | [], i => Int.le_refl _
  | j :: js, i => by
    have := mxI_ge js (if j > i then j else i)
    unfold mxI
    split at this <;> rename_i h <;> simp only [h, if_true, if_false] <;> omega
theorem mxI_all : ∀ (js : List Int) (i : Int), ∀ y ∈ js, y ≤ mxI i js
  | j :: js, i, y, h => by
    unfold mxI
    rcases List.mem_cons.mp h with rfl | h
    · have := mxI_ge js (if y > i then y else i)
      split at this <;> rename_i h <;> simp only [h, if_true, if_false] <;> omega
    · exact mxI_all js _ y h
theorem mxI_mem : ∀ (js : List Int) (i : Int), mxI i js = i ∨ mxI i js ∈ js
  | [], i => .inl rfl
  | j :: js, i => by
    unfold mxI
    rcases mxI_mem js (if j > i then j else i) with h | h
    · rw [h]
      split
      · exact .inr List.mem_cons_self
      · exact .inl rfl
    · exact .inr (List.mem_cons_of_mem _ h)
def gMaxL : List D → Store → RE D := fun ds S => match ds with
  | [d] => (match (seqL S d).bind intsOf with
    | some (i :: js) => .ok (.int (mxI i js)) S
    | _ => .no)
  | _ => .no
section
variable {K : PySem.W.Frag} {mg : Str → Option Value}
theorem maxL_v : CallV K mg (rMax K) gMaxL := by
  intro w S H xs ds Q E s r h
  unfold gMaxL at h
  split at h
  · split at h
    · rename_i i js h1
      obtain ⟨v, rfl, r1⟩ := r.one_inv
      simp only [Option.bind_eq_some_iff] at h1
      obtain ⟨ys, h2, h3⟩ := h1
      obtain ⟨a, vs, e1, t1, q1⟩ := seqL_at s r1 h2
      refine ⟨a, i :: js, by rw [e1], by rw [← intsOf_at q1 h3]; exact t1, by simp, fun m hm hy => ?_⟩
      have em : m = mxI i js := by
        have hin : mxI i js ∈ i :: js := by
          rcases mxI_mem js i with e | e
          · rw [e]; exact List.mem_cons_self
          · exact List.mem_cons_of_mem _ e
        have h0 := hy _ hin
        rcases List.mem_cons.mp hm with rfl | hm
        · have := mxI_ge js m; omega
        · have := mxI_all js i m hm; omega
      rw [em]
      exact h.ret s rp_i
    · exact h.elim
  · exact h.elim
end
end Kw

/-! Kw33: an exception class with its own __init__ (a text handed on to the base, one field stored), made and kept; its field. -/
namespace PySem
namespace HandSPX
open Builtin PySem.W PySem.Calls PyProof.Rows
section
variable {M : Model} {A : Around} {E : Value → Shared → Prop} {h : Heap} {g : Array GenState} {d : Drawn} {t : Nat} {os : OsState}
variable {nm q : Str} {C N : Addr} {bs bm bmB : List Value} {hdct : Bool} {sn : List Str} {sub : List Value} {ab : Bool} {col : Option Bool} {dd : Option Addr} {k0 k1 k2 k3 k5 : Option Value} {B newId initId : String} {kw : List (Str × Value)}
theorem check_new_ownK (F : ExcBaseFacts B newId initId bmB) (hT : ∀ X : String, bm.contains (.type X) = bmB.contains (.type X)) {rest : List Value} {Q : Unit → Shared → Prop}
    (hC : h.get? C = some (excClassObj nm q C N bs bm hdct sn sub ab col dd k0 k1 k2 k3 k5 newId)) (hq : Q () ⟨h, g, d, t, os⟩) : wpAny M A (checkBuiltinCall newId ⟨.ref C :: rest, kw⟩) Q E ⟨h, g, d, t, os⟩ := by
  have hcont : (Value.ref C :: bm).contains (.type B) = true := by rw [List.contains_cons, hT, F.hasB, Bool.or_true]
  have hstar := F.noStar
  simp only [checkBuiltinCall, F.newKind, F.newSplit, F.newRow]
  repeat (first | refine wpAny_loadPart_at hC ?_ | (refine wpAny_isSubtype_exc hC ?_; rw [hcont]) | refine wpAny_staticBase_exc hC ?_ | refine wpAny_madeBy_exc hC ?_ | simp only [bne_self_eq_false, Bool.false_eq_true, if_false] | wp_step)
  exact hq
end
section
variable {prog : Program} {w : World} {A : Around} {E : Value → Shared → Prop} {R : Result → Shared → Prop} {h : Heap} {g : Array GenState} {d : Drawn} {t : Nat} {os : OsState}
variable {nm q : Str} {C N : Addr} {bs bm bmB : List Value} {hdct : Bool} {sn : List Str} {sub : List Value} {ab : Bool} {col : Option Bool} {dd : Option Addr} {k0 k1 k2 k3 k5 : Option Value} {B newId initId : String}

theorem new_ownK (F : ExcBaseFacts B newId initId bmB) (hT : ∀ X : String, bm.contains (.type X) = bmB.contains (.type X)) {rest : List Value}
    (hC : h.get? C = some (excClassObj nm q C N bs bm hdct sn sub ab col dd k0 k1 k2 k3 k5 newId))
    (hq : R (.ok (.ret (.ref (h.objs.size + 1)))) ⟨(h.push { cls := .type "tuple", data := .seq rest.toArray }).push
      { cls := .ref C, data := .fields #[.ref h.objs.size, .none, .none, .none, .bool false, .none] }, g, d, t, os⟩) (hrest : rest.length ≤ sizeLine) :
    codeAny (model prog w) A (.builtin newId ⟨.ref C :: rest, kw⟩) R ⟨h, g, d, t, os⟩ := by
  have hends := F.ends
  have hcB : (Value.ref C :: bm).contains (.type B) = true := by rw [List.contains_cons, hT, F.hasB, Bool.or_true]
  have hcA : (Value.ref C :: bm).contains (.type "AttributeError") = false := by rw [List.contains_cons, hT, F.noAttr]; rfl
  have hcN : (Value.ref C :: bm).contains (.type "NameError") = false := by rw [List.contains_cons, hT, F.noName]; rfl
  refine codeAny_builtinAt F.entry ?_
  unfold Builtin.«BaseException.__new__»
  refine wpAt_bind ?_
  show wpAt _ _ _ (stack >>= _) _ _ _
  refine wpAt_bind (wpAt_stack fun p below => wpAt_of_wpAny ?_)
  wp_walk
  refine wpAt_of_wpAny ?_
  rw [F.owner]
  repeat (first | with_reducible refine wpAny_madeHere_exc F.canon hC ?_ | with_reducible refine wpAny_loadPart_at hC ?_ | (with_reducible refine wpAny_isSubtype_exc hC ?_; first | rw [hcB] | rw [hcA] | rw [hcN]) | wp_step)
  show R _ _
  rw [Heap.size_push]
  exact hq

theorem type_call_ownK (F : ExcBaseFacts B newId initId bmB) (hT : ∀ X : String, bm.contains (.type X) = bmB.contains (.type X)) {rest : List Value} {fI : Addr} {Q : Fin → Shared → Prop}
    (hC : h.get? C = some (excClassObj nm q C N bs bm hdct sn sub ab col dd k0 k1 k2 k3 k5 newId))
    (hi : W.Looks (model prog w) h (typeLookup (.ref C) "__init__") (some (.ref fI))) (hb : ∀ self, W.Looks (model prog w) h (bindSpecial (.ref fI) self) (.ref fI, [self])) (hrest : rest.length ≤ sizeLine)
    (hq : codeAny (model prog w) A (.call (.ref fI) ⟨.ref (h.objs.size + 1) :: rest, kw⟩)
      (fun r s' => match r with | .ok (.ret v) => v = .none ∧ Q (.done (.ret (.ref (h.objs.size + 1)))) s' | .ok _ => False | .error e => E e s')
      ⟨(h.push (W.kdv_tup rest)).push (excO C h.objs.size), g, d, t, os⟩) :
    wpAny (model prog w) A (Builtin.«type.__call__» ⟨.ref C :: rest, kw⟩) Q E ⟨h, g, d, t, os⟩ := by
  repeat (first | with_reducible refine wpAny_loadPart_at hC ?_ | with_reducible refine wpAny_madeBy_exc hC ?_ | wp_step)
  refine codeAny_call_builtin_code (Code.quiet_builtin _ F.quiet) (check_new_ownK F hT hC ?_)
  refine new_ownK F hT hC ?_ hrest
  show wpAny _ _ _ _ _ _
  have k : ∀ b o, h.get? b = some o → ((h.push (W.kdv_tup rest)).push (excO C h.objs.size)).get? b = some o := fun b o e => Heap.get?_push_of_some _ (Heap.get?_push_of_some _ e)
  have hC₁ := k _ _ hC
  have hget : ((h.push (W.kdv_tup rest)).push (excO C h.objs.size)).get? (h.objs.size + 1) = some (excO C h.objs.size) := by heap_get
  have hcC : (Value.ref C :: bm).contains (.ref C) = true := by simp
  have i1 := hi.keeps k
  have b1 := (hb (.ref (h.objs.size + 1))).keeps k
  unfold isInstance
  repeat (first | with_reducible refine wpAny_loadPart_at hget ?_ | (with_reducible refine wpAny_isSubtype_exc hC₁ ?_; rw [hcC]) | wp_step)
  show wpAny _ _ (typeLookup (.ref C) _) _ _ _
  refine i1.at ?_
  refine wpAny_holding (wpAny_bind (b1.at ?_))
  refine wpAny_bind (wpAny_call (codeAny_mono hq fun r s' z => ?_))
  rcases r with e | (v | _ | _ | _) <;> first | exact z | exact z.elim | skip
  obtain ⟨rfl, z⟩ := z
  first
    | exact wpAny_pure (wpAny_pure z)
    | (wp_walk; exact z)

theorem call_ownK (F : ExcBaseFacts B newId initId bmB) (hT : ∀ X : String, bm.contains (.type X) = bmB.contains (.type X)) {rest : List Value} {fI : Addr}
    (hC : h.get? C = some (excClassObj nm q C N bs bm hdct sn sub ab col dd k0 k1 k2 k3 k5 newId))
    (hi : W.Looks (model prog w) h (typeLookup (.ref C) "__init__") (some (.ref fI))) (hb : ∀ self, W.Looks (model prog w) h (bindSpecial (.ref fI) self) (.ref fI, [self])) (hrest : rest.length ≤ sizeLine)
    (hq : codeAny (model prog w) (A.under (.builtin "type.__call__" ⟨.ref C :: rest, kw⟩)) (.call (.ref fI) ⟨.ref (h.objs.size + 1) :: rest, kw⟩) (W.InitBack (h.objs.size + 1) R)
      ⟨(h.push (W.kdv_tup rest)).push (excO C h.objs.size), g, d, t, os⟩) :
    codeAny (model prog w) A (.call (.ref C) ⟨rest, kw⟩) R ⟨h, g, d, t, os⟩ := by
  have f1 := tc_lookup
  have f2 := tc_bind (.ref C)
  have hTy : (⟨h, g, d, t, os⟩ : Shared).TypeIs (.ref C) "type" := ⟨_, hC, rfl⟩
  refine codeAny_of_tree ?_
  show wpAny _ _ (callAny (.ref C) _) _ _ _
  repeat (any_goals (first | assumption | with_reducible refine wpAny_loadPart_at hC ?_ | wp_step))
  refine ⟨rfl, ?_⟩
  refine codeAny_call_builtin_at (Code.quiet_builtin _ (by decide +kernel)) entry_typeCall (wpAny_check_type_call_sub hC (type_call_ownK F hT hC hi hb hrest ?_))
  refine codeAny_mono hq fun r s' z => ?_
  rcases r with e | (v | _ | _ | _) <;> exact z

end
end HandSPX
end PySem

namespace PySem.W
open PySem PySem.Spec PySem.Calls PyProof.Rows
section
variable {prog : Program} {w : World} {A : Around} {E : Value → Shared → Prop} {s : Shared} {K : Frag} {x D : Addr} {ox : Obj} {od : Option Obj}
theorem findObj_dataO {C : Addr} {name : Str} {a g : Value} (hc : (clsIn K C).isSome = true) (ha : findIn K (.ref C) name = some (some a)) (hg : specialIn K a "__get__" = some (some g)) (ht : takesIn K a = some true) : findObj K C od name = some (.bind g a) := by
  obtain ⟨cd, hc⟩ := Option.isSome_iff_exists.mp hc
  unfold findObj
  rw [hc, Option.bind_some, ha, Option.bind_some]
  simp [hg, ht]
theorem kin_classO {Q : Option Value → Shared → Prop} (hga : findIn K (.ref D) "__getattribute__" = some (some (.builtin "BaseException.__getattribute__"))) (hgt : findIn K (.ref D) "__getattr__" = some none) (hsub : subIn K (.ref D) (.type "BaseException") = some true)
    (hdct : hasDictIn K D = true) (ha : findIn K (.ref D) "__class__" = some (some (.builtin "object.__class__")))
    (hn : specialIn K (.builtin "object.__class__") "__get__" = some (some (.builtin "getset_descriptor.__get__"))) (htk : takesIn K (.builtin "object.__class__") = some true) (hm : mroIn K D (.type "object") = some true)
    (X : K.In s.heap) (I : InstAt s.heap x ox D od) (h : Q (some (.ref D)) { s with toks := s.toks + 1 }) : wpAny (model prog w) A (getAttr? (.ref x) "__class__") Q E s := by
  have hf : findObj K D od "__class__" = some (.bind (.builtin "getset_descriptor.__get__") (.builtin "object.__class__")) := findObj_dataO (by obtain ⟨cd, hc, _⟩ := any_some hdct; rw [hc]; rfl) ha hn htk
  obtain ⟨hp, g, d, t, os⟩ := s
  have L0 := I.type (M := model prog w)
  have L1 := looks_findIn (M := model prog w) X hga
  have L2 := looks_findIn (M := model prog w) X hgt
  have L3 := looks_find (M := model prog w) X I hf
  have sub : Looks (model prog w) hp (isInstance (.ref x) (.type "BaseException")) true := L0.andThen (looks_subIn X hsub)
  have hx0 : (false && onTheHeap (Value.builtin "BaseException.__getattribute__")) = false := rfl
  have hx2 : (Value.builtin "BaseException.__getattribute__" == Value.builtin "object.__getattribute__") = false := by decide +kernel
  have hx1 : (onTheHeap (Value.ref D) && Value.builtin "BaseException.__getattribute__" == Value.builtin "object.__getattribute__") = false := by rw [hx2]; rfl
  unfold getAttr? getAttrBy? getAttrBy
  refine wpAny_bind (wpAny_mkText (wpAny_bind (wpAny_attempt (wpAny_holding (wpAny_bind (L0.at (wpAny_bind (L1.at ?_))))))))
  show wpAny _ _ (if (onTheHeap (Value.ref D) && Value.builtin "BaseException.__getattribute__" == Value.builtin "object.__getattribute__") = true then _ else _) _ _ _
  rw [hx1, if_neg Bool.false_ne_true]
  unfold getAttrByItsOwn hookBefore
  refine wpAny_bind ?_
  rw [if_pos (show onTheHeap (Value.ref D) = true from rfl)]
  refine L2.at ?_
  refine wpAny_bind (wpAny_attempt (wpAny_holding ?_))
  unfold callGetattribute
  rw [hx0, if_neg Bool.false_ne_true]
  unfold boundAndCalled
  rw [PySem.F.excAttr_ValueError.ga.bind (.ref x)]
  refine wpAny_bind (wpAny_pure ?_)
  show wpAny _ _ (call (.builtin "BaseException.__getattribute__") [.ref x, .str "__class__" t]) _ _ _
  refine wpAny_call (codeAny_call_builtin PySem.F.excAttr_ValueError.ga.plain PySem.F.entry_bexc_ga ?_)
  refine @check_slot (model prog w) _ _ ⟨hp, g, d, t + 1, os⟩ "BaseException.__getattribute__" "BaseException" "__getattribute__" (.ref x) [.str "__class__" t] [] _ (by decide +kernel) (by decide +kernel) sub (PySem.F.args_bexc_ga (.ref x) (.str "__class__" t)) ?_
  unfold Builtin.«object.__getattribute__»
  refine wpAny_bind (wpAny_of_eq (a := ((Value.ref x : Value), [Value.str "__class__" t])) (by first | rfl | (simp only [slotArgs]; rfl)) ?_)
  refine wpAny_bind (wpAny_pure (wpAny_bind (L0.at (wpAny_bind (L3.at ?_)))))
  show wpAny _ _ (holding [Value.builtin "object.__class__"] (call (.builtin "getset_descriptor.__get__") [.builtin "object.__class__", .ref x, .ref D]) >>= ret) _ _ _
  refine wpAny_bind (wpAny_holding (wpAny_call (class_get (s := ⟨hp, g, d, t + 1, os⟩) (ox := ox) (od := od) X I hm ?_)))
  refine wpAny_pure ?_
  show wpAny _ _ (handedOut (.ref D)) _ _ _
  rw [handedOut_of (v := .ref D) rfl]
  first
    | exact wpAny_pure (wpAny_pure h)
    | exact wpAny_pure h
    | exact wpAny_pure (wpAny_bind (wpAny_pure (wpAny_pure h)))
theorem kitx_exO (hga : findIn K (.ref D) "__getattribute__" = some (some (.builtin "BaseException.__getattribute__"))) (hgt : findIn K (.ref D) "__getattr__" = some none) (hsub : subIn K (.ref D) (.type "BaseException") = some true) (hdct : hasDictIn K D = true) (ha : findIn K (.ref D) "__class__" = some (some (.builtin "object.__class__")))
    (hn : specialIn K (.builtin "object.__class__") "__get__" = some (some (.builtin "getset_descriptor.__get__"))) (htk : takesIn K (.builtin "object.__class__") = some true) (hm : mroIn K D (.type "object") = some true) :
    KitX K (.ref x) (.ref D) (fun h => InstAt h x ox D od) where
  ty := fun _ _ _ I => I.type
  it := fun _ _ X _ => by
    obtain ⟨cdD, hcD, _⟩ := any_some hdct
    unfold clsIn at hcD
    split at hcD
    · rename_i c' d' cd' sl' ho
      intro A' Q' E' s' k q
      unfold isType loadHead
      exact wpAny_bind (wpAny_loadPart (k _ _ (X _ _ ho)) (wpAny_pure q))
    · cases hcD
  ne := fun h tp dd its n sl X htp => by
    obtain ⟨cdD, hcD, _⟩ := any_some hdct
    refine Bool.eq_false_iff.mpr fun q => ?_
    have e : D = tp := Value.ref.inj (beq_iff_eq.mp q)
    subst e
    unfold clsIn at hcD
    split at hcD
    · rename_i c' d' cd' sl' ho
      have z := (X _ _ ho).symm.trans htp
      cases z
    · cases hcD
  ca := fun X I k => kin_classO hga hgt hsub hdct ha hn htk hm X I k
end
end PySem.W
namespace Kw
open PySem PySem.Spec PySem.Calls PyProof.Rows L2
section
variable {X : Cx} {e : Expr} {es : List Expr} {ta : TA} {p1 p2 pos : Pos} {b : Str} {B : Addr} {mc : Value}
/-- B.__init__(self, ..), B an own class that has ValueError's -/
theorem pe_oinit {pl : Sem Bool} (hg : Gl X b) (hm : X.mg b = some (.ref B)) (rd : ClX.CRead X.K B mc) (v : PySem.W.findCls X.K (.ref B) mc "__init__" = some (.val (.builtin "ValueError.__init__"))) (ha : PA X (e :: es) ta) (hdb : (b == ("__debug__" : Str)) = false := by decide)
    (hc : eval (.Call (.Attribute (.Name b p1) "__init__" p2) (e :: es) [] pos) X.env = (do
      let ov ← eval (.Name b p1) X.env
      standAt p2.atName
      let (f, first) ← holding [ov] (getMethod ov "__init__" pl)
      callWith pos f first (backTo pos (starEach (e :: es) X.env)) (backToKw pos (keywordEach [] X.env))) := by rfl)
    (he : starEach (e :: es) X.env = (false, eval e X.env) :: starEach es X.env := by rfl) (hpl : (backTo pos (starEach es X.env)).any (·.1) = false := by rfl) :
    PE X (.Call (.Attribute (.Name b p1) "__init__" p2) (e :: es) [] pos) (tVeI X.K ta) := by
  refine ⟨fun pins s σ H Q I h => ?_⟩
  refine PySem.W.methodCall_KW (ld_glob I hg hm ?_ hdb) hc
  refine PySem.W.method_cls I.kIn rd.ga (PySem.W.cls_value I.kIn rd.rd v (by decide +kernel) ?_)
  show wpAny _ _ (callWith pos (Value.builtin "ValueError.__init__") [] (backTo pos (starEach (e :: es) X.env)) []) _ _ _
  refine PyProof.Rows.callWith_method1 (thn (ha.run pos pins _ σ H _ (I.tok _) h) fun us s1 ⟨vs, H1, I1, r1, a, C, ws, ev, hl, T, ea, q⟩ => ?_) he hpl
  subst ev
  cases r1 with
  | @cons _ u0 _ ur ra rw' =>
    obtain rfl : u0 = Value.ref a := ra
    have hlen : ur.length ≤ sizeLine := by
      rw [← Paired.length rw', sizeLine_eq]
      omega
    exact oinit_ok T I1 ea hlen fun s' J => ⟨.non, H1, J, rfl, q⟩
end
/-- what such an __init__ does -/
def spU (K : PySem.W.Frag) (f : Str) : Sp := fun vs H Q _ => ∃ a C y, vs = [.ref a, y] ∧ OexC K C ∧ PySem.W.findIn K (.ref C) f = some none ∧ H a = some (exo a C none) ∧ ∀ dx, H dx = none → dx ≠ a → Q .non (upd (upd H dx (exd dx [(f, y)])) a (exo a C (some dx)))
/-- the text of such an __init__ -/
structure UnlText (st : Stmt) : Prop where
  sc : FnScope ["self", "apart"] ["self", "apart"] (defScope st)
  v0 : Vis (defScope st) "self"
  v1 : Vis (defScope st) "apart"
  bd : ∃ (m : Str) (kc : Nat) (p1 p2 p3 p4 p5 p6 p7 p8 p9 p10 : Pos), defBody st = [.Expr (.Call (.Attribute (.Name "SwapError" p1) "__init__" p2) [.Name "self" p3, .Constant (.str m) kc p4] [] p5) p6, .Assign [.Attribute (.Name "self" p7) "apart" p8] (.Name "apart" p9) p10] ∧
    ∀ (o fI : Addr) (cdv : Value), (envOfC "Unlike.__init__" (defScope st) o fI cdv).kindOf "SwapError" = some .globalImplicit ∧
      (∃ pl : Sem Bool, eval (.Call (.Attribute (.Name "SwapError" p1) "__init__" p2) [.Name "self" p3, .Constant (.str m) kc p4] [] p5) (envOfC "Unlike.__init__" (defScope st) o fI cdv) = (do
        let ov ← eval (.Name "SwapError" p1) (envOfC "Unlike.__init__" (defScope st) o fI cdv)
        standAt p2.atName
        let (f, first) ← holding [ov] (getMethod ov "__init__" pl)
        callWith p5 f first (backTo p5 (starEach [.Name "self" p3, .Constant (.str m) kc p4] (envOfC "Unlike.__init__" (defScope st) o fI cdv))) (backToKw p5 (keywordEach [] (envOfC "Unlike.__init__" (defScope st) o fI cdv))))) ∧
      swapsWith (.Call (.Attribute (.Name "SwapError" p1) "__init__" p2) [.Name "self" p3, .Constant (.str m) kc p4] [] p5) none p6.line (envOfC "Unlike.__init__" (defScope st) o fI cdv) = pure false ∧
      swapsWith (.Name "apart" p9) (some (.Attribute (.Name "self" p7) "apart" p8)) p10.line (envOfC "Unlike.__init__" (defScope st) o fI cdv) = pure false
  b2 : ∀ (kV doc pm : Value) (an : Option Addr) (cdv ct : Value) (us : List Value), us.length = 2 → bindArgs (PySem.W.fnOf "__init__" "Unlike.__init__" (defArgs st) (defBody st) (defScope st) .none kV doc pm an cdv ct) ⟨us, []⟩ = pure ((["self", "apart"] : List Str).zip us)
  bk : ∀ (kV doc pm : Value) (an : Option Addr) (cdv ct : Value) (u v : Value), bindArgs (PySem.W.fnOf "__init__" "Unlike.__init__" (defArgs st) (defBody st) (defScope st) .none kV doc pm an cdv ct) ⟨[u], [("apart", v)]⟩ = pure ((["self", "apart"] : List Str).zip [u, v])
section
variable {P : Program} {w : World} {K : PySem.W.Frag} {mg : Str → Option Value} {base : Heap}
theorem fn_unl {st : Stmt} {fI : Addr} {fd : FuncData} {k : Nat} {B : Addr} {mc : Value} (F : Fun K "__init__" "Unlike.__init__" st fI fd) (U : UnlText st) (hm : mg "SwapError" = some (.ref B)) (rd : ClX.CRead K B mc) (v : PySem.W.findCls K (.ref B) mc "__init__" = some (.val (.builtin "ValueError.__init__"))) :
    FnG P w K mg base (k + 1) fI fd ["self", "apart"] (spU K "apart") := by
  refine fn_g F U.sc (fun vs H Q E ⟨a, C, y, e, _⟩ => by rw [e]; rfl) fun cdv A stk s H vs Q E hr ⟨a', C, y, ev, T, hno, ha, h⟩ => ?_
  obtain ⟨m, kc, p1, p2, p3, p4, p5, p6, p7, p8, p9, p10, hbody, hx⟩ := U.bd
  obtain ⟨hgl, ⟨pl, hc⟩, hs1, hs2⟩ := hx s.heap.objs.size fI cdv
  rw [hbody]
  refine ⟨_, pss_cons (ps_expr (pe_oinit (B := B) (mc := mc) hgl hm rd v (pa_cons (pe_var (i := 0) rfl U.v0) (pa_cons pe_str pa_nil)) (hc := hc)) hs1) (pss_one (ps_ost (pe_var (i := 0) rfl U.v0) (pe_var (i := 1) rfl U.v1) hs2)), ?_⟩
  subst ev
  refine ⟨.ref a', rfl, ⟨a', C, [.str m], rfl, by simp, T, ha, ?_⟩⟩
  refine ⟨y, rfl, ⟨.ref a', rfl, ⟨a', C, rfl, T, hno, .inl ⟨ha, fun dx hd hne => h dx hd hne⟩⟩⟩⟩
end

def gExoF (c f : Str) (ds : List D) (S : Store) : RE D := match ds with
  | [x] => .ok (.exo c [f] [x]) S
  | _ => .no
def fUn (c f : Str) (fs : FA) : FE := fun ρ S => (fs ρ S).bnd (gExoF c f)
/-- the exception class c, made of its one field f -/
def CalU (P : Program) (w : World) (K : PySem.W.Frag) (mg : Str → Option Value) (base : Heap) (k : Nat) (c f : Str) : Prop :=
  ∃ C fI fd ps, mg c = some (.ref C) ∧ OexC K C ∧ PySem.W.findIn K (.ref C) f = some none ∧ PySem.W.findIn K (.ref C) "__init__" = some (some (.ref fI)) ∧ PySem.W.typeIn K (.ref fI) = some (.type "function") ∧
    FnG P w K mg base k fI fd ps (spU K f) ∧ ps.length = 2 ∧ Binds K fd ps [] ∧ ∀ u v : Value, bindArgs fd ⟨[u], [(f, v)]⟩ = pure (ps.zip [u, v])
section
variable {X : Cx} {pins : List (Addr × Obj)} {σ : L2.St} {H H' H1 : Hp} {s s1 : Shared} {W : WX}
theorem recast (I : Inv X pins σ H s) (hok : HOk X.prog X.w H' s.heap) (hn : ∀ b o, s.heap.get? b = some o → H b = none → H' b = none) (ht : ∀ b xs, H b = some (.tup xs) → H' b = some (.tup xs)) (hf : ∀ b o u, H b = some (.frz o u) → H' b = some (.frz o u)) (hb : ∀ b ps, H b = some (.tbl ps) → H' b = some (.tbl ps)) : Inv X pins σ H' s := by
  obtain ⟨hp, g, d, t, os⟩ := s
  have U : Un X.fs [] H H' hp hp := {
    keep := fun b o q n _ _ => q
    slot := fun b o q n _ _ => ⟨o.slots, q⟩
    free := fun b o q n _ => hn b o q n
    there := fun b o q _ => ⟨o, q⟩
    tups := ht
    frzs := hf
    tbls := fun b ps q => ⟨#[], by rw [hb b ps q]; simp⟩ }
  exact I.un (t' := t) U hok
theorem exOd_ok {P : Program} {w : World} {H : Hp} {h : Heap} {e C t1 : Addr} {d : Option Addr} (he : h.get? e = some ({ cls := .ref C, dict := d, data := .fields #[.ref t1, .none, .none, .none, .bool false, .none] } : Obj)) : ObjOk P w H h e (ExOd (.ref C) d e) :=
  ⟨⟨_, _, he, ⟨rfl, rfl⟩, rfl, rfl, rfl, (show 4 < 6 by decide)⟩, ⟨_, he⟩, fun _ _ ⟨o, v, q, r⟩ k => ⟨o, v, k o q, r⟩⟩
theorem run_unl {C fI : Addr} {fd : FuncData} {ps : List Str} {f : Str} {k : Nat} {Q : VK} {us : List Value} {kw : List (Str × Value)} {u : Value} {y : V} (T : OexC X.K C) (hno : PySem.W.findIn X.K (.ref C) f = some none) (iC : PySem.W.findIn X.K (.ref C) "__init__" = some (some (.ref fI))) (tI : PySem.W.typeIn X.K (.ref fI) = some (.type "function"))
    (F : FnG X.prog X.w X.K X.mg X.base k fI fd ps (spU X.K f)) (hr : RoomG (k + 1) X.A) (tk : Takes X W) (hb : ∀ (a : Addr) (s : Shared), X.K.In s.heap → BindsTo s fd ⟨.ref a :: us, kw⟩ (ps.zip [.ref a, u])) (hus : us.length ≤ sizeLine) (I1 : Inv X pins σ H1 s1) (ry : RelV y u)
    (q : ∀ a dx, H1 a = none → H1 dx = none → dx ≠ a → Q (.ref a) (upd (upd H1 dx (.xd [(f, y)])) a (ExOd (.ref C) (some dx) a))) : wpAny (model X.prog X.w) X.A (call (.ref C) us kw) (EP X pins σ Q) X.xe s1 := by
  obtain ⟨nm, qn, N, bs, bm, sn, sub, ab, col, dd, k0, k1, k2, k3, k5, hC, hbm⟩ := T.cls
  obtain ⟨hp, g, dr, tk0, os⟩ := s1
  have hsz : hp.objs.size ≤ hp.objs.size + 1 := Nat.le_succ _
  have hn : H1 (hp.objs.size + 1) = none := I1.hok.fresh hsz
  have kk : ∀ b o, hp.get? b = some o → ((hp.push (PySem.W.kdv_tup us)).push (PySem.HandSPX.excO C hp.objs.size)).get? b = some o := fun b o e => Heap.get?_push_of_some _ (Heap.get?_push_of_some _ e)
  have hget : ((hp.push (PySem.W.kdv_tup us)).push (PySem.HandSPX.excO C hp.objs.size)).get? (hp.objs.size + 1) = some (PySem.HandSPX.excO C hp.objs.size) := by heap_get
  have I2 : Inv X pins σ (upd H1 (hp.objs.size + 1) (exo (hp.objs.size + 1) C none)) ⟨(hp.push (PySem.W.kdv_tup us)).push (PySem.HandSPX.excO C hp.objs.size), g, dr, tk0, os⟩ :=
    I1.laid (t' := tk0) (a := hp.objs.size + 1) (o := exo (hp.objs.size + 1) C none) (h' := (hp.push (PySem.W.kdv_tup us)).push (PySem.HandSPX.excO C hp.objs.size)) kk hsz (exo_ok hget)
  have r2 : Vals [V.ref (hp.objs.size + 1), y] [Value.ref (hp.objs.size + 1), u] := .cons rfl (.cons ry .nil)
  have hrm : RoomG k (X.A.under (.builtin "type.__call__" ⟨.ref C :: us, kw⟩)) := ⟨hr.rm.make C us kw, hr.gd⟩
  have hsp : spU X.K f [V.ref (hp.objs.size + 1), y] (upd H1 (hp.objs.size + 1) (exo (hp.objs.size + 1) C none)) (fun v H' => v = .non ∧ ∃ dx, H1 dx = none ∧ dx ≠ hp.objs.size + 1 ∧ H' = upd (upd (upd H1 (hp.objs.size + 1) (exo (hp.objs.size + 1) C none)) dx (exd dx [(f, y)])) (hp.objs.size + 1) (exo (hp.objs.size + 1) C (some dx))) (WE W σ) := by
    refine ⟨hp.objs.size + 1, C, y, rfl, T, hno, upd_same, fun dx hd hne => ⟨rfl, dx, ?_, hne, rfl⟩⟩
    rwa [upd_ne hne] at hd
  refine wpAny_call (PySem.HandSPX.call_ownK PySem.F.excBase_ValueError (fun Y => PySem.HandSPX.refsVE_contains Y bm hbm) (I1.kIn _ _ hC) (PySem.W.looks_findIn I1.kIn iC) (fun self => PySem.W.bind_fn I1.kIn self tI) hus
    (codeAny_mono (F.runs _ X.stack _ _ ⟨Value.ref (hp.objs.size + 1) :: us, kw⟩ [Value.ref (hp.objs.size + 1), u] _ _ (WE W σ) hrm (I2.env0.make C us kw) (hb _ _ I2.kIn) r2 hsp) fun r s' hq' => ?_))
  cases r with
  | error er => exact passAt tk σ pins _ _ er s' I2 hq'
  | ok fl =>
    cases fl with
    | ret u2 =>
      obtain ⟨v, H', I3, rv, ev, dx, hd, hne, eH⟩ := I2.after hq'
      subst eH
      subst ev
      refine ⟨rv, ?_⟩
      have at1 : (upd (upd (upd H1 (hp.objs.size + 1) (exo (hp.objs.size + 1) C none)) dx (exd dx [(f, y)])) (hp.objs.size + 1) (exo (hp.objs.size + 1) C (some dx))) (hp.objs.size + 1) = some (exo (hp.objs.size + 1) C (some dx)) := upd_same
      have at2 : (upd (upd (upd H1 (hp.objs.size + 1) (exo (hp.objs.size + 1) C none)) dx (exd dx [(f, y)])) (hp.objs.size + 1) (exo (hp.objs.size + 1) C (some dx))) dx = some (exd dx [(f, y)]) := by rw [upd_ne hne, upd_same]
      obtain ⟨t1, he⟩ := L2.exo_at I3.hok at1
      obtain ⟨mA, hns, rel⟩ := L2.exd_at I3.hok at2
      have oth : ∀ b, b ≠ hp.objs.size + 1 → b ≠ dx → (upd (upd (upd H1 (hp.objs.size + 1) (exo (hp.objs.size + 1) C none)) dx (exd dx [(f, y)])) (hp.objs.size + 1) (exo (hp.objs.size + 1) C (some dx))) b = H1 b := fun b h1 h2 => by rw [upd_ne h1, upd_ne h2, upd_ne h1]
      have oth2 : ∀ b, b ≠ hp.objs.size + 1 → b ≠ dx → (upd (upd H1 dx (.xd [(f, y)])) (hp.objs.size + 1) (ExOd (.ref C) (some dx) (hp.objs.size + 1))) b = H1 b := fun b h1 h2 => by rw [upd_ne h1, upd_ne h2]
      have nk : ∀ {b : Addr} {o : HO}, (upd (upd (upd H1 (hp.objs.size + 1) (exo (hp.objs.size + 1) C none)) dx (exd dx [(f, y)])) (hp.objs.size + 1) (exo (hp.objs.size + 1) C (some dx))) b = some o → (∀ φ, o ≠ .ext φ) → (upd (upd H1 dx (.xd [(f, y)])) (hp.objs.size + 1) (ExOd (.ref C) (some dx) (hp.objs.size + 1))) b = some o := fun {b o} e ne => by
        by_cases h1 : b = hp.objs.size + 1
        · subst h1
          rw [at1] at e
          cases e
          exact absurd rfl (ne _)
        · by_cases h2 : b = dx
          · subst h2
            rw [at2] at e
            cases e
            exact absurd rfl (ne _)
          · rw [oth b h1 h2] at e
            rw [oth2 b h1 h2]; exact e
      refine ⟨.ref (hp.objs.size + 1), upd (upd H1 dx (.xd [(f, y)])) (hp.objs.size + 1) (ExOd (.ref C) (some dx) (hp.objs.size + 1)), recast I3 ?_ ?_ (fun b xs e => nk e fun φ z => by cases z) (fun b o u e => nk e fun φ z => by cases z) (fun b ps e => nk e fun φ z => by cases z), rfl, q _ dx hn hd hne⟩
      · intro b o e
        by_cases h1 : b = hp.objs.size + 1
        · subst h1
          rw [upd_same] at e
          cases e
          exact exOd_ok he
        · by_cases h2 : b = dx
          · subst h2
            rw [upd_ne hne, upd_same] at e
            cases e
            exact ⟨mA, hns, rel⟩
          · rw [oth2 b h1 h2] at e
            exact (I3.hok b o (by rw [oth b h1 h2]; exact e)).stay (fun c v hc z => z) (fun c hc => nk hc fun φ z => by cases z) (fun c xs hc => nk hc fun φ z => by cases z)
      · intro b o e n
        by_cases h1 : b = hp.objs.size + 1
        · subst h1
          rw [at1] at n; cases n
        · by_cases h2 : b = dx
          · subst h2
            rw [at2] at n; cases n
          · rw [oth b h1 h2] at n
            rw [oth2 b h1 h2]; exact n
    | next => exact False.elim hq'
    | brk => exact False.elim hq'
    | cont => exact False.elim hq'
end

section
variable {X : Cx} {W : WX} {e : Expr} {es : List Expr} {kws : List Keyword} {fs : FA} {fe : FE} {c f x : Str} {p q pos : Pos} {k : Nat} {K : PySem.W.Frag} {mg : Str → Option Value} {w : Wd} {H1 : Hp} {S1 : Store} {ds : List D} {vs : List V} {Q : VK} {E : Value → Option Addr → Hp → Prop} {C : Addr}
theorem unl_end (st : Sto K mg w S1 H1) (r : RpL K mg w H1 ds vs) (gC : mg c = some (.ref C)) (h : End K mg (fun w H => Rp K mg w H) w H1 (gExoF c f ds S1) Q E) :
    ∃ y, vs = [y] ∧ ∀ a dx, H1 a = none → H1 dx = none → dx ≠ a → Q (.ref a) (upd (upd H1 dx (.xd [(f, y)])) a (ExOd (.ref C) (some dx) a)) := by
  match ds, h with
  | [], h => exact h.elim
  | _ :: _ :: _, h => exact h.elim
  | [d], h =>
    obtain ⟨y, vs', e1, r1, r2⟩ := (show ∃ v r, vs = v :: r ∧ Rp K mg w H1 d v ∧ RpL K mg w H1 [] r by unfold RpL at r; exact r)
    have e2 : vs' = [] := by unfold RpL at r2; exact r2
    subst e2 e1
    refine ⟨y, rfl, fun a dx na nd hne => ?_⟩
    have na' : upd H1 dx (.xd [(f, y)]) a = none := by rw [upd_ne (Ne.symm hne)]; exact na
    have s1 := st.beside (o := .xd [(f, y)]) nd
    have x1 : Ext w H1 w (upd H1 dx (.xd [(f, y)])) := Ext.new nd
    have x2 : Ext w (upd H1 dx (.xd [(f, y)])) w (upd (upd H1 dx (.xd [(f, y)])) a (ExOd (.ref C) (some dx) a)) := Ext.new na'
    refine h w _ _ (x1.trans x2) (s1.beside na') ?_
    show Rp _ _ _ _ (.exo c [f] [d]) _
    unfold Rp
    refine ⟨a, C, some dx, [y], rfl, gC, upd_same, s1.new na', ⟨fun z => (by cases z), fun z => (by cases z)⟩, fun d' hd => ?_, rfl, RpL.one (Rp.ext (x1.trans x2) _ _ r1)⟩
    cases hd
    exact ⟨by rw [upd_ne hne, upd_same]; rfl, st.new nd⟩
theorem q_unl (Cu : CalU X.prog X.w X.K X.mg X.base k c f) (hr : RoomG (k + 1) X.A) (tk : Takes X W) (hg : Gl X c) (ha : PA X (e :: es) (tA X W fs)) (hdb : (c == ("__debug__" : Str)) = false := by decide)
    (he : starEach (e :: es) X.env = (false, eval e X.env) :: starEach es X.env := by rfl) (hpl : (backTo pos (starEach es X.env)).any (·.1) = false := by rfl) : PE X (.Call (.Name c p) (e :: es) [] pos) (tF X W (fUn c f fs)) := by
  obtain ⟨C, fI, fd, ps, gC, T, hno, iC, tI, F, hl, hb, hbk⟩ := Cu
  refine ⟨fun pins s σ H Q I ⟨w, ρ, S, s0, en, h⟩ => wpAny_Call_Name_kw (ld_glob I hg gC ?_ hdb)⟩
  refine PySem.W.callWith_K (h₀ := X.base) I.ok.mod.kin T.kC (thn (ha.run pos pins s σ H (fun vs H1 => ∃ y, vs = [y] ∧ ∀ a dx, H1 a = none → H1 dx = none → dx ≠ a → Q (.ref a) (upd (upd H1 dx (.xd [(f, y)])) a (ExOd (.ref C) (some dx) a))) I
    ⟨w, ρ, S, s0, en, (End.bind (R := fun w H => RpL X.K X.mg w H) h).imp ?_ (fun _ _ _ z => z)⟩) fun us s1 ⟨vs, H1, I1, r, y, ev, q⟩ => ⟨I1.kIn, ?_⟩) he hpl
  · rintro vs H1 ⟨w1, S1, ds, e1, s1, r1, h1⟩
    exact unl_end s1 r1 gC h1
  · subst ev
    obtain ⟨u, us', rfl, ru, rn⟩ : ∃ u us', us = u :: us' ∧ RelV y u ∧ us' = [] := by
      cases r with
      | cons a b => cases b; exact ⟨_, _, rfl, a, rfl⟩
    subst rn
    exact run_unl (us := [u]) (kw := []) T hno iC tI F hr tk (fun a s kin => binds0 (us := [.ref a, u]) hb kin hl.symm) (by rw [sizeLine_eq]; simp) I1 ru q
theorem q_unlK (Cu : CalU X.prog X.w X.K X.mg X.base k c f) (hr : RoomG (k + 1) X.A) (tk : Takes X W) (hg : Gl X c) (ha : PK X kws (tA X W fs)) (hdb : (c == ("__debug__" : Str)) = false := by decide)
    (hall : (backToKw pos (keywordEach kws X.env)).all (·.1.isSome) = true := by rfl) (hks : (backToKw pos (keywordEach kws X.env)).filterMap (·.1) = [f] := by rfl)
    (hpl : ((backTo pos (starEach [] X.env)).any (·.1) || (backToKw pos (keywordEach kws X.env)).any (·.1.isNone)) = false := by rfl) : PE X (.Call (.Name c p) [] kws pos) (tF X W (fUn c f fs)) := by
  obtain ⟨C, fI, fd, ps, gC, T, hno, iC, tI, F, hl, hb, hbk⟩ := Cu
  refine ⟨fun pins s σ H Q I ⟨w, ρ, S, s0, en, h⟩ => wpAny_Call_Name_kw (ld_glob I hg gC ?_ hdb)⟩
  refine PySem.W.callWith_KW0 (h₀ := X.base) I.ok.mod.kin T.kC hall (thn (ha.run pos pins s σ H (fun vs H1 => ∃ y, vs = [y] ∧ ∀ a dx, H1 a = none → H1 dx = none → dx ≠ a → Q (.ref a) (upd (upd H1 dx (.xd [(f, y)])) a (ExOd (.ref C) (some dx) a))) I
    ⟨w, ρ, S, s0, en, (End.bind (R := fun w H => RpL X.K X.mg w H) h).imp ?_ (fun _ _ _ z => z)⟩) fun us s1 ⟨vs, H1, I1, r, y, ev, q⟩ => ⟨I1.kIn, ?_⟩) hpl
  · rintro vs H1 ⟨w1, S1, ds, e1, s1, r1, h1⟩
    exact unl_end s1 r1 gC h1
  · subst ev
    obtain ⟨u, us', rfl, ru, rn⟩ : ∃ u us', us = u :: us' ∧ RelV y u ∧ us' = [] := by
      cases r with
      | cons a b => cases b; exact ⟨_, _, rfl, a, rfl⟩
    subst rn
    rw [hks]
    exact run_unl (us := []) (kw := [(f, u)]) T hno iC tI F hr tk (fun a s kin => .of_eq (hbk (.ref a) u)) (by rw [sizeLine_eq]; simp) I1 ru q
/-! ### its field -/
def gXF (cs : List Str) (f : Str) (x : D) (S : Store) : RE D := match x with
  | .exo c ns ds => if c ∈ cs then (match lookF f ns ds with
    | some d => .ok d S
    | none => .no) else .no
  | _ => .no
def XfK (K : PySem.W.Frag) (mg : Str → Option Value) (c f : Str) : Prop := ∃ C, mg c = some (.ref C) ∧ XfC K C ∧ PySem.W.findIn K (.ref C) f = some none
theorem q_xfl {cs : List Str} (he : PE X e (tF X W fe)) (hc : ∀ c ∈ cs, XfK X.K X.mg c f) (hb : attributeBase e f X.env (eval e X.env) = eval e X.env := by rfl) : PE X (.Attribute e f pos) (tF X W (f1 (gXF cs f) fe)) := by
  refine ⟨fun pins s σ H Q I ⟨w, ρ, S, s0, en, h⟩ => ?_⟩
  refine attr_of hb (thn (he.run pins s σ H _ I ⟨w, ρ, S, s0, en, (End.bind (R := fun w H => Rp X.K X.mg w H) h).imp (fun v H1 z => z) (fun _ _ _ z => z)⟩) fun u s1 ⟨v, H1, I1, rv, w1, S1, d, e1, s1', r1, h1⟩ => ?_)
  cases d <;> simp only [gXF] at h1 <;> try exact h1.elim
  rename_i c ns ds
  split at h1
  case isFalse => exact h1.elim
  rename_i hcc
  split at h1
  case h_2 => exact h1.elim
  rename_i d' hl
  obtain ⟨C, gC, T, hno⟩ := hc c hcc
  unfold Rp at r1
  obtain ⟨a, C', od, vs, ev, gC', ha, off, iff, hd, l, rl⟩ := r1
  rw [gC] at gC'; cases gC'
  subst ev
  obtain rfl : u = Value.ref a := rv
  obtain ⟨v', hv', rv'⟩ := lookF_at l rl hl
  cases od with
  | none =>
    have : ns = [] := iff.mp rfl
    subst this
    simp [lookF] at hl
  | some dd =>
    obtain ⟨hx, _⟩ := hd dd rfl
    obtain ⟨⟨oe, vs', hg, hz, hv, _⟩, _, _⟩ := I1.hok a _ ha
    obtain ⟨mA, hns, hr⟩ := (show ∃ mA, s1.heap.Ns1 dd mA ∧ ∀ f, RelO ((ns.zip vs).lookup f) (mA f) from I1.hok dd _ hx)
    obtain ⟨odo, ho, hlk⟩ := lookIn_ns hns
    obtain ⟨u, hu, ru⟩ := RelO.some_of (v := v') (o := mA f) (by rw [← hv']; exact hr f)
    have J : PySem.W.InstAt s1.heap a oe C (some odo) := ⟨hg, hz.1, by unfold PySem.W.notCls; rw [hv] <;> rfl, by rw [hz.2]; exact ho⟩
    exact HandSPX.exc_get I1.kIn J T.ga T.gg T.exC (PySem.W.findObj_own T.hdC hno rfl (by rw [hlk, hu])) (handed_of ru) ⟨v', H1, I1.tok _, ru, h1.ret s1' rv'⟩
/-! ### isinstance of it -/
def gIsP (ys : List Str) (sub : Str → Bool) (x : D) (S : Store) : RE D := match x with
  | .exo c _ _ => if c ∈ ys then .ok (.bl (sub c)) S else .no
  | _ => .no
def rIsP (K : PySem.W.Frag) : List V → Hp → VK → Prop := fun xs H Q => ∃ (a C : Addr) (od : Option Addr) (c : V) (cv : Value) (b : Bool), xs = [.ref a, c] ∧ H a = some (ExOd (.ref C) od a) ∧ (∀ d, od = some d → ∃ fs, H d = some (.xd fs)) ∧ ExcC K C ∧ (∀ u, RelV c u → u = cv) ∧ PySem.W.kitOne K (.ref C) cv = some b ∧ Q (.bl b) H
theorem call_isP {X : Cx} : CallR X (.builtin "isinstance") (rIsP X.K) := by
  intro pins s σ H xs us Q I r h
  obtain ⟨a, C, od, c, cv, b, rfl, ha, hd, F, hcv, e, q⟩ := h
  obtain ⟨u1, u2, rfl, r1, r2⟩ := vals2 r
  cases (show u1 = Value.ref a from r1)
  have ec := hcv _ r2
  subst ec
  obtain ⟨⟨oe, vs, hg, hz, hv, _⟩, _, _⟩ := I.hok a _ ha
  have J : ∃ odo, PySem.W.InstAt s.heap a oe C odo := by
    cases od with
    | none => exact ⟨none, hg, hz.1, by unfold PySem.W.notCls; rw [hv] <;> rfl, by rw [hz.2]; trivial⟩
    | some dd =>
      obtain ⟨fs, hx⟩ := hd dd rfl
      obtain ⟨mA, hns, hr⟩ := (show ∃ mA, s.heap.Ns1 dd mA ∧ ∀ f, RelO (fs.lookup f) (mA f) from I.hok dd _ hx)
      obtain ⟨odo, ho, hlk⟩ := lookIn_ns hns
      exact ⟨some odo, hg, hz.1, by unfold PySem.W.notCls; rw [hv] <;> rfl, by rw [hz.2]; exact ho⟩
  obtain ⟨odo, J⟩ := J
  exact PySem.W.kia_one (PySem.W.kitx_exO F.hg F.hk F.hs F.hd F.ha F.hn F.ht F.hm) I.kIn J e (fun z => nomatch z) fun tk => ⟨.bl b, H, I.kept (t' := tk) fun _ _ z => z, rfl, q⟩
theorem exoP_at {ys : List Str} {sub : Str → Bool} {d : D} {v : V} (r : Rp K mg w H1 d v) (s : Sto K mg w S1 H1) (h : End K mg (fun w H => Rp K mg w H) w H1 (gIsP ys sub d S1) Q E) : ∃ a C y od, v = .ref a ∧ y ∈ ys ∧ mg y = some (.ref C) ∧ H1 a = some (ExOd (.ref C) od a) ∧ (∀ d, od = some d → ∃ fs, H1 d = some (.xd fs)) ∧ Q (.bl (sub y)) H1 := by
  cases d <;> simp only [gIsP] at h <;> try exact h.elim
  rename_i c ns ds
  split at h
  · rename_i hh
    unfold Rp at r
    obtain ⟨a, C, od, vs, e1, m, t, n, z, q, l, r⟩ := r
    exact ⟨a, C, c, od, e1, hh, m, t, fun d hd => ⟨_, (q d hd).1⟩, h.ret s rp_b⟩
  · exact h.elim
theorem q_isP {ys : List Str} {sub : Str → Bool} {o : Expr} (hk : ∀ y ∈ ys, ExcK X.K X.mg y) (hi : ∀ y ∈ ys, IsxO X.K X.mg y x (sub y)) (hne : ys ≠ []) (hg : Gl X "isinstance") (hm : X.mg "isinstance" = none) (hgx : Gl X x) (ho : PE X o (tF X W fe)) (hd : (x == ("__debug__" : Str)) = false := by decide)
    (h1 : starEach [o, .Name x q] X.env = (false, eval o X.env) :: starEach [.Name x q] X.env := by rfl) (h2 : starEach [.Name x q] X.env = (false, eval (.Name x q) X.env) :: starEach [] X.env := by rfl) (hpl : (backTo pos (starEach [.Name x q] X.env)).any (·.1) = false := by rfl) :
    PE X (.Call (.Name "isinstance" p) [o, .Name x q] [] pos) (tF X W (f1 (gIsP ys sub) fe)) := by
  obtain ⟨y0, hy0⟩ := List.exists_mem_of_ne_nil ys hne
  obtain ⟨C0, B, _, mB, _⟩ := hi y0 hy0
  have n1 : PE X (.Name x q) (tC (.ref B)) := pe_glob hgx mB rfl hd
  refine PE.wk (pe_callB call_isP hg hm (by decide +kernel) (pa_cons ho (pa_cons n1 pa_nil h2) h1) (by decide) (by decide) h1 hpl) fun σ H Q ⟨w, ρ, S, s, en, h⟩ => ?_
  refine ⟨w, ρ, S, s, en, (End.bind (R := fun w H => Rp X.K X.mg w H) h).imp ?_ (fun _ _ _ z => z)⟩
  rintro v H1 ⟨w1, S1, d, e1, s1, r1, h3⟩
  obtain ⟨a, C, y, od, ev, hy, m, t, tx, qq⟩ := exoP_at r1 s1 h3
  obtain ⟨C1, m1, k1⟩ := hk y hy
  obtain ⟨C2, B2, m2, m3, k2⟩ := hi y hy
  cases m.symm.trans m1
  cases m.symm.trans m2
  cases mB.symm.trans m3
  exact ⟨a, C, od, .ref B, .ref B, sub y, by rw [ev], t, tx, k1, fun u r => r, k2, qq⟩
/-- asked for ValueError -/
theorem q_isPV {ys : List Str} {sub : Str → Bool} {o : Expr} (hk : ∀ y ∈ ys, ExcK X.K X.mg y) (hi : ∀ y ∈ ys, IsxB X.K X.mg y "ValueError" (sub y)) (hg : Gl X "isinstance") (hm : X.mg "isinstance" = none) (hgx : Gl X "ValueError") (hmx : X.mg "ValueError" = none) (ho : PE X o (tF X W fe))
    (h1 : starEach [o, .Name "ValueError" q] X.env = (false, eval o X.env) :: starEach [.Name "ValueError" q] X.env := by rfl) (h2 : starEach [.Name "ValueError" q] X.env = (false, eval (.Name "ValueError" q) X.env) :: starEach [] X.env := by rfl) (hpl : (backTo pos (starEach [.Name "ValueError" q] X.env)).any (·.1) = false := by rfl) :
    PE X (.Call (.Name "isinstance" p) [o, .Name "ValueError" q] [] pos) (tF X W (f1 (gIsP ys sub) fe)) := by
  have n1 : PE X (.Name "ValueError" q) (tC (.ty "ValueError")) := ⟨fun pins s σ H Q I h => ld_blt I hgx hmx PyProof.Rows.Boot.«ValueError» ⟨.ty "ValueError", H, I, rfl, h⟩ (by decide) (by decide)⟩
  refine PE.wk (pe_callB call_isP hg hm (by decide +kernel) (pa_cons ho (pa_cons n1 pa_nil h2) h1) (by decide) (by decide) h1 hpl) fun σ H Q ⟨w, ρ, S, s, en, h⟩ => ?_
  refine ⟨w, ρ, S, s, en, (End.bind (R := fun w H => Rp X.K X.mg w H) h).imp ?_ (fun _ _ _ z => z)⟩
  rintro v H1 ⟨w1, S1, d, e1, s1, r1, h3⟩
  obtain ⟨a, C, y, od, ev, hy, m, t, tx, qq⟩ := exoP_at r1 s1 h3
  obtain ⟨C1, m1, k1⟩ := hk y hy
  obtain ⟨C2, m2, k2⟩ := hi y hy
  cases m.symm.trans m1
  cases m.symm.trans m2
  exact ⟨a, C, od, .ty "ValueError", .type "ValueError", sub y, by rw [ev], t, tx, k1, fun u r => r, k2, qq⟩
end

/-! ### the facts of the text -/
def TU (K : PySem.W.Frag) (mg : Str → Option Value) : Prop := ∀ (P : Program) (w : World) (base : Heap) (k : Nat), CalU P w K mg base (k + 1) "Unlike" "apart"
section
variable {K : PySem.W.Frag} {mg : Str → Option Value} {h : Heap}
theorem tu_mk {st : Stmt} {C fI B N : Addr} {nm q : Str} {bs bm sub : List Value} {sn : List Str} {ab : Bool} {col : Option Bool} {dd : Option Addr} {m0 m1 m2 m3 m5 : Option Value} {oc : Value} {od an : Option Addr} {osl : Array (Option Value)} {kV doc pm cdv ct mB : Value} (U : UnlText st) (X : K.In h) (G : h.Ns mainGlobals mg)
    (aC : PySem.W.nsIn K mainGlobals "Unlike" = some (some (.ref C))) (xL : K.lookup C = some (excClassObj nm q C N bs bm true sn sub ab col dd m0 m1 m2 m3 m5 "ValueError.__new__")) (rv : PySem.HandSPX.refsVE bm = true) (sa : PySem.W.findIn K (.ref C) "__setattr__" = some (some (.builtin "object.__setattr__")))
    (eC : PySem.W.subIn K (.ref C) (.type "BaseException") = some true) (tC : PySem.W.typeIn K (.ref C) = some (.type "type")) (kC : PySem.W.keepIn K (.ref C) = true) (nf : PySem.W.findIn K (.ref C) "apart" = some none)
    (iC : PySem.W.findIn K (.ref C) "__init__" = some (some (.ref fI))) (tI : PySem.W.typeIn K (.ref fI) = some (.type "function")) (l : K.lookup fI = some ⟨oc, od, .func (PySem.W.fnOf "__init__" "Unlike.__init__" (defArgs st) (defBody st) (defScope st) .none kV doc pm an cdv ct), osl⟩)
    (cc : PySem.W.codeIn K cdv "Unlike.__init__" = true) (k : PySem.W.keepIn K (.ref fI) = true) (aB : PySem.W.nsIn K mainGlobals "SwapError" = some (some (.ref B))) (rd : PySem.W.readsIn K B mB = true) (sg : PySem.W.specialIn K (.ref B) "__getattribute__" = some (some (.builtin "type.__getattribute__")))
    (v : PySem.W.findCls K (.ref B) mB "__init__" = some (.val (.builtin "ValueError.__init__"))) : TU K mg := fun P w base kk =>
  ⟨C, fI, _, ["self", "apart"], PySem.W.mg_of X G aC, ⟨⟨nm, q, N, bs, bm, sn, sub, ab, col, dd, m0, m1, m2, m3, m5, xL, rv⟩, sa, eC, tC, kC⟩, nf, iC, tI, fn_unl (fun_mk l cc k) U (PySem.W.mg_of X G aB) ⟨rd, sg⟩ v, rfl, (fun_mk l cc k).binds U.b2, U.bk _ _ _ _ _ _⟩
theorem xfk_mk {c f : Str} {C : Addr} (X : K.In h) (G : h.Ns mainGlobals mg) (aC : PySem.W.nsIn K mainGlobals c = some (some (.ref C))) (ga : PySem.W.findIn K (.ref C) "__getattribute__" = some (some (.builtin "BaseException.__getattribute__"))) (gg : PySem.W.findIn K (.ref C) "__getattr__" = some none)
    (eC : PySem.W.subIn K (.ref C) (.type "BaseException") = some true) (hC : PySem.W.hasDictIn K C = true) (nf : PySem.W.findIn K (.ref C) f = some none) : XfK K mg c f := ⟨C, PySem.W.mg_of X G aC, ⟨ga, gg, eC, hC⟩, nf⟩
end
end Kw

namespace Kz
open PySem PySem.Spec PyProof.Rows L2 Kw
def topS (i : Nat) : Stmt := PySem.Challenge.pw_kindswap_k16_refusals_apart.main.body.getD i (.Pass ⟨0, 0, 0, 0⟩)
inductive Fn where
  | f__law_cell_at
  | f__law_digit
  | f__law_made
  | f__law_marks
  | f_law
def methS (i j : Nat) : Stmt := match topS i with
  | .ClassDef _ _ _ body _ _ _ _ _ _ _ => body.getD j (.Pass ⟨0, 0, 0, 0⟩)
  | s => s
abbrev s__law_cell_at : Stmt := topS 14
theorem sc__law_cell_at : FnScope ["_law_script", "_law_k"] ["_law_script", "_law_k"] (defScope s__law_cell_at) := ⟨rfl, rfl, rfl, by decide +kernel, rfl, by decide +kernel, by decide +kernel⟩
abbrev s__law_digit : Stmt := topS 15
theorem sc__law_digit : FnScope ["_law_state", "_law_base", "_law_number", "_law_cell", "_law_found"] ["_law_state", "_law_base"] (defScope s__law_digit) := ⟨rfl, rfl, rfl, by decide +kernel, rfl, by decide +kernel, by decide +kernel⟩
abbrev s__law_made : Stmt := topS 16
theorem sc__law_made : FnScope ["_law_word", "_law_thing", "_law_found"] ["_law_word", "_law_thing"] (defScope s__law_made) := ⟨rfl, rfl, rfl, by decide +kernel, rfl, by decide +kernel, by decide +kernel⟩
abbrev s__law_marks : Stmt := topS 17
theorem sc__law_marks : FnScope ["_law_one", "_law_found"] ["_law_one"] (defScope s__law_marks) := ⟨rfl, rfl, rfl, by decide +kernel, rfl, by decide +kernel, by decide +kernel⟩
abbrev s_law : Stmt := topS 18
theorem sc_law : FnScope ["_law_script", "_law_k", "_law_state", "_law_thing", "_law_word", "_law_number", "_law_one", "_law_marks_here"] ["_law_script"] (defScope s_law) := ⟨rfl, rfl, rfl, by decide +kernel, rfl, by decide +kernel, by decide +kernel⟩
abbrev s_Unlike___init__ : Stmt := methS 10 0
theorem un_Unlike : UnlText s_Unlike___init__ := ⟨⟨rfl, rfl, rfl, by decide +kernel, rfl, by decide +kernel, by decide +kernel⟩, Or.inl rfl, Or.inl rfl, ⟨_, _, _, _, _, _, _, _, _, _, _, _, rfl, fun _ _ _ => ⟨rfl, ⟨_, rfl⟩, rfl, rfl⟩⟩, fun _ _ _ _ _ _ us hl => match us, hl with | [_, _], _ => rfl, fun _ _ _ _ _ _ _ _ => rfl⟩
def excs : List Str := ["NoDivisor", "NoForm", "NoKind", "NoLibrary", "NoName", "NoSizes", "NoTerm", "NoText", "NoWorth", "TooMany", "Unlike"]
def isxT : List (Str × Str) := ([("NoDivisor", "NoDivisor"), ("NoDivisor", "SwapError"), ("NoDivisor", "ValueError"), ("NoForm", "NoForm"), ("NoForm", "SwapError"), ("NoForm", "ValueError"), ("NoKind", "NoKind"), ("NoKind", "SwapError"), ("NoKind", "ValueError"), ("NoLibrary", "NoLibrary"), ("NoLibrary", "SwapError"), ("NoLibrary", "ValueError"), ("NoName", "NoName"), ("NoName", "SwapError"), ("NoName", "ValueError"), ("NoSizes", "NoSizes"), ("NoSizes", "SwapError"), ("NoSizes", "ValueError"), ("NoTerm", "NoTerm"), ("NoTerm", "SwapError"), ("NoTerm", "ValueError"), ("NoText", "NoText"), ("NoText", "SwapError"), ("NoText", "ValueError"), ("NoWorth", "NoWorth"), ("NoWorth", "SwapError"), ("NoWorth", "ValueError"), ("TooMany", "SwapError"), ("TooMany", "TooMany"), ("TooMany", "ValueError")] : List (Str × Str)) ++ ([("Unlike", "SwapError"), ("Unlike", "Unlike"), ("Unlike", "ValueError")] : List (Str × Str))
def isx (y x : Str) : Bool := isxT.any fun p => p.1 == y && p.2 == x
noncomputable def b__law_cell_at (cl : Fn → FF) : FS :=
  (sSeq (sIf (fB (f2 (gCmp fun i j => decide (i < j)) (fVar 1) (fArg gLen (fCons (fVar 0) fNil)))) (sRet (f2 gIx (fVar 0) (fVar 1))) sNil)
  (sRet (fC (.int 0))))
noncomputable def b__law_digit (cl : Fn → FF) : FS :=
  (sSeq (sIf (fB (f2 gEq (fArg gLen (fCons (fVar 0) fNil)) (fC (.int 1)))) (sSeq (sSet 3 (f2 gIx (fVar 0) (fC (.int 0))))
  (sSeq (sAsg (f2 gIx (fArg mkLst (fCons (fC (.int 0)) (fCons (fVar 3) fNil))) (fArg gInt (fCons (f2 (gCmp fun i j => decide (j ≤ i)) (fVar 3) (f2 gPow (fC (.int 10)) (fC (.int 18)))) fNil))) (gSb (fVar 0) (fC (.int 0))))
  (sExp (fMth gExtend (fVar 0) (fCons (fArg mkLst (fCons (f2 gMod (fVar 3) (fC (.int 2147483647))) (fCons (fC (.int 0)) fNil))) fNil))))) sNil)
  (sSeq (sIf (fB (f2 (gCmp fun i j => decide (j < i)) (f2 gIx (fVar 0) (fC (.int 0))) (fC (.int 0)))) (sSeq (sSet 4 (f2 gMod (f2 gIx (fVar 0) (fC (.int 0))) (fVar 1)))
  (sSeq (sAsg (f2 gDiv (f2 gIx (fVar 0) (fC (.int 0))) (fVar 1)) (gSb (fVar 0) (fC (.int 0))))
  (sRet (fVar 4)))) sNil)
  (sSeq (sAsg (f2 (gAdd false) (f2 gIx (fVar 0) (fC (.int 2))) (fC (.int 1))) (gSb (fVar 0) (fC (.int 2))))
  (sSeq (sSet 2 (f2 gMod (f2 (gMul false) (f2 (gAdd false) (f2 (gAdd false) (f2 gIx (fVar 0) (fC (.int 1))) (f2 (gMul false) (fC (.int 7919)) (f2 gIx (fVar 0) (fC (.int 2))))) (fC (.int 1))) (fC (.int 48271))) (fC (.int 2147483647))))
  (sSeq (sSet 2 (f2 gMod (f2 (gMul false) (fVar 2) (f2 (gAdd false) (f2 gDiv (fVar 2) (fC (.int 1009))) (fC (.int 69621)))) (fC (.int 2147483647))))
  (sRet (f2 gMod (f2 gMod (f2 (gMul false) (fVar 2) (f2 (gAdd false) (f2 gDiv (fVar 2) (fC (.int 2003))) (fC (.int 40692)))) (fC (.int 2147483399))) (fVar 1))))))))
noncomputable def b__law_made (cl cl2 : Fn → FF) : FS :=
  (sSeq (sSet 2 (fArg mkLst (fCons (f1 (gExo "NoText") (fVar 0)) (fCons (f1 (gExo "NoKind") (fVar 0)) (fCons (f1 (gExo "NoForm") (fVar 0)) (fCons (f1 (gExo "NoSizes") (fVar 0)) (fCons (f1 (gExo "TooMany") (fVar 0)) (fCons (f1 (gExo "NoDivisor") (fVar 0)) fNil))))))))
  (sRet (f2 (gAdd false) (fVar 2) (fArg mkLst (fCons (f1 (gExo "NoWorth") (fVar 0)) (fCons (f1 (gExo "NoTerm") (fVar 0)) (fCons (f1 (gExo "NoLibrary") (fVar 0)) (fCons (f1 (gExo "NoName") (fVar 0)) (fCons (fUn "Unlike" "apart" (fCons (fVar 1) fNil)) fNil)))))))))
noncomputable def b__law_marks (cl : Fn → FF) : FS :=
  (sSeq (sSet 1 (fArg mkLst (fCons (f1 (gIsP excs (fun y => isx y "NoText")) (fVar 0)) (fCons (f1 (gIsP excs (fun y => isx y "NoKind")) (fVar 0)) (fCons (f1 (gIsP excs (fun y => isx y "NoForm")) (fVar 0)) (fCons (f1 (gIsP excs (fun y => isx y "NoSizes")) (fVar 0)) fNil))))))
  (sSeq (sSet 1 (f2 (gAdd false) (fVar 1) (fArg mkLst (fCons (f1 (gIsP excs (fun y => isx y "TooMany")) (fVar 0)) (fCons (f1 (gIsP excs (fun y => isx y "NoDivisor")) (fVar 0)) (fCons (f1 (gIsP excs (fun y => isx y "NoWorth")) (fVar 0)) fNil))))))
  (sSeq (sSet 1 (f2 (gAdd false) (fVar 1) (fArg mkLst (fCons (f1 (gIsP excs (fun y => isx y "NoTerm")) (fVar 0)) (fCons (f1 (gIsP excs (fun y => isx y "NoLibrary")) (fVar 0)) (fCons (f1 (gIsP excs (fun y => isx y "NoName")) (fVar 0)) fNil))))))
  (sRet (f2 (gAdd false) (fVar 1) (fArg mkLst (fCons (f1 (gIsP excs (fun y => isx y "Unlike")) (fVar 0)) fNil)))))))
noncomputable def l_law_0 (cl cl2 : Fn → FF) : FS :=
  (sSeq (sSet 7 (fArg (cl .f__law_marks) (fCons (fVar 6) fNil)))
  (sSeq (sIf (fOr (fNot (fTru (f1 (gIsP excs (fun y => isx y "SwapError")) (fVar 6)))) (fNot (fTru (f1 (gIsP excs (fun y => isx y "ValueError")) (fVar 6))))) (sRet (fC (.bl false))) sNil)
  (sIf (fOr (fB (f2 gNe (fMth gCnt (fVar 7) (fCons (fC (.bl true)) fNil)) (fC (.int 1)))) (fNot (fTru (f2 gIx (fVar 7) (fVar 5))))) (sRet (fC (.bl false))) sNil)))
noncomputable def l_law_1 (cl cl2 : Fn → FF) : FS :=
  (sSeq (sSet 2 (fArg mkCel (fCons (f2 (gAdd false) (fArg (cl .f__law_cell_at) (fCons (fVar 0) (fCons (fVar 1) fNil))) (f2 (gMul false) (fC (.int 61)) (fVar 1))) fNil)))
  (sSeq (sSet 3 (f2 gIx (fArg mkLst (fCons (fC .non) (fCons (fArg mkTup (fCons (f2 (gMul false) (fArg mkLst (fCons (fC (.int 2)) fNil)) (fC (.int 8))) (fCons (fC (.int 7)) fNil))) (fCons (fC (.int 0)) (fCons (fC (.str "apart")) (fCons (fArg mkTup fNil) (fCons (fArg (cl .f__law_digit) (fCons (fVar 2) (fCons (fC (.int 99)) fNil))) fNil))))))) (fArg (cl .f__law_digit) (fCons (fVar 2) (fCons (fC (.int 6)) fNil)))))
  (sSeq (sSet 4 (f2 gIx (fArg mkLst (fCons (fC (.str "")) (fCons (fC (.str "none")) (fCons (fC (.str "no such thing")) fNil)))) (fArg (cl .f__law_digit) (fCons (fVar 2) (fCons (fC (.int 3)) fNil)))))
  (sSeq (sFor (fiE (fCons (fArg (cl .f__law_made) (fCons (fVar 4) (fCons (fVar 3) fNil))) fNil)) (gTu 2 (gsCons (gN 5) (gsCons (gN 6) gsNil))) (l_law_0 cl cl2))
  (sIf (fOr (fB (f2 gNe (f1 (gXF ["Unlike"] "apart") (fUn "Unlike" "apart" (fCons (fVar 3) fNil))) (fVar 3))) (fB (f2 gNe (f1 (gXF ["Unlike"] "apart") (fUn "Unlike" "apart" (fCons (fVar 3) fNil))) (fVar 3)))) (sRet (fC (.bl false))) sNil)))))
noncomputable def b_law (cl cl2 : Fn → FF) : FS :=
  (sSeq (sFor (fiR1 (fCons (fArg gMax (fCons (fC (.int 1)) (fCons (fArg gMin (fCons (fC (.int 8)) (fCons (fArg gLen (fCons (fVar 0) fNil)) fNil))) fNil))) fNil)) (gN 1) (l_law_1 cl cl2))
  (sRet (fC (.bl true))))
noncomputable def ev : Nat → Fn → FF
  | 0, _ => fun _ _ => .no
  | n + 1, .f__law_cell_at => fnB 2 2 (b__law_cell_at (ev n))
  | n + 1, .f__law_digit => fnB 2 5 (b__law_digit (ev n))
  | 1, .f__law_made => fun _ _ => .no
  | 2, .f__law_made => fun _ _ => .no
  | n + 3, .f__law_made => fnB 2 3 (b__law_made (ev (n + 2)) (ev n))
  | n + 1, .f__law_marks => fnB 1 2 (b__law_marks (ev n))
  | 1, .f_law => fun _ _ => .no
  | 2, .f_law => fun _ _ => .no
  | n + 3, .f_law => fnB 1 8 (b_law (ev (n + 2)) (ev n))
@[reducible] def calOf (P : Program) (w : World) (K : PySem.W.Frag) (mg : Str → Option Value) (base : Heap) (k : Nat) (g : Fn) (f : FF) : Prop := match g with
  | .f__law_cell_at => Cal P w K mg base k "_law_cell_at" f
  | .f__law_digit => Cal P w K mg base k "_law_digit" f
  | .f__law_made => Cal P w K mg base k "_law_made" f
  | .f__law_marks => Cal P w K mg base k "_law_marks" f
  | .f_law => Cal P w K mg base k "law" f
structure Txt (K : PySem.W.Frag) (P : Params) (mg : Str → Option Value) : Prop where
  t__law_cell_at : TF K mg "_law_cell_at" s__law_cell_at ["_law_script", "_law_k"]
  t__law_digit : TF K mg "_law_digit" s__law_digit ["_law_state", "_law_base"]
  t__law_made : TF K mg "_law_made" s__law_made ["_law_word", "_law_thing"]
  t__law_marks : TF K mg "_law_marks" s__law_marks ["_law_one"]
  m_ValueError : mg "ValueError" = none
  m_enumerate : mg "enumerate" = none
  m_int : mg "int" = none
  m_isinstance : mg "isinstance" = none
  m_len : mg "len" = none
  m_max : mg "max" = none
  m_min : mg "min" = none
  m_range : mg "range" = none
  x_NoDivisor : ExcF K mg "NoDivisor"
  x_NoForm : ExcF K mg "NoForm"
  x_NoKind : ExcF K mg "NoKind"
  x_NoLibrary : ExcF K mg "NoLibrary"
  x_NoName : ExcF K mg "NoName"
  x_NoSizes : ExcF K mg "NoSizes"
  x_NoTerm : ExcF K mg "NoTerm"
  x_NoText : ExcF K mg "NoText"
  x_NoWorth : ExcF K mg "NoWorth"
  x_TooMany : ExcF K mg "TooMany"
  u_Unlike : TU K mg
  gx_Unlike : ∀ c ∈ (["Unlike"] : List Str), XfK K mg c "apart"
  xk : ∀ y ∈ excs, ExcK K mg y
  i_NoDivisor : ∀ y ∈ excs, IsxO K mg y "NoDivisor" (isx y "NoDivisor")
  i_NoForm : ∀ y ∈ excs, IsxO K mg y "NoForm" (isx y "NoForm")
  i_NoKind : ∀ y ∈ excs, IsxO K mg y "NoKind" (isx y "NoKind")
  i_NoLibrary : ∀ y ∈ excs, IsxO K mg y "NoLibrary" (isx y "NoLibrary")
  i_NoName : ∀ y ∈ excs, IsxO K mg y "NoName" (isx y "NoName")
  i_NoSizes : ∀ y ∈ excs, IsxO K mg y "NoSizes" (isx y "NoSizes")
  i_NoTerm : ∀ y ∈ excs, IsxO K mg y "NoTerm" (isx y "NoTerm")
  i_NoText : ∀ y ∈ excs, IsxO K mg y "NoText" (isx y "NoText")
  i_NoWorth : ∀ y ∈ excs, IsxO K mg y "NoWorth" (isx y "NoWorth")
  i_SwapError : ∀ y ∈ excs, IsxO K mg y "SwapError" (isx y "SwapError")
  i_TooMany : ∀ y ∈ excs, IsxO K mg y "TooMany" (isx y "TooMany")
  i_Unlike : ∀ y ∈ excs, IsxO K mg y "Unlike" (isx y "Unlike")
  i_ValueError : ∀ y ∈ excs, IsxB K mg y "ValueError" (isx y "ValueError")
section
variable {P : Program} {w : World} {K : PySem.W.Frag} {mg : Str → Option Value} {base : Heap}
theorem ok__law_cell_at {k : Nat} {cl : Fn → FF} (T : Txt K w.params mg) (C : ∀ g : Fn, g ≠ .f_law → calOf P w K mg base k g (cl g)) (f : Addr) (cdv : Value) (A : Around) (outer : List Env) (s : Shared) (H : Hp) (E : XK) (hr : RoomG k (A.deeper (envOfC "_law_cell_at" (defScope s__law_cell_at) s.heap.objs.size f cdv))) :
    PSs (cxOf (L2.CX P w) P w K mg base ["_law_script", "_law_k"] "_law_cell_at" (defScope s__law_cell_at) f cdv A outer s H E) (defBody s__law_cell_at) (tS (cxOf (L2.CX P w) P w K mg base ["_law_script", "_law_k"] "_law_cell_at" (defScope s__law_cell_at) f cdv A outer s H E) (fun c d _ H => E c d H) (b__law_cell_at cl)) := by
  have tk : Takes (cxOf (L2.CX P w) P w K mg base ["_law_script", "_law_k"] "_law_cell_at" (defScope s__law_cell_at) f cdv A outer s H E) (fun c d _ H => E c d H) := takes_of rfl rfl rfl rfl
  have nd := sc__law_cell_at.nd
  exact (q_seq (q_ifS (qt_cmp op_lt (cmp_v _) (q_var 1) (q_callB call_len len_v rfl T.m_len PySem.boot_len (q_cons (q_var 0) q_nil)) (nomark _)) (q_last (q_ret (q_ix (q_var 0) (q_var 1)))) q_snil)
    (q_last (q_ret q_int)))
theorem ok__law_digit {k : Nat} {cl : Fn → FF} (T : Txt K w.params mg) (C : ∀ g : Fn, g ≠ .f_law → calOf P w K mg base k g (cl g)) (f : Addr) (cdv : Value) (A : Around) (outer : List Env) (s : Shared) (H : Hp) (E : XK) (hr : RoomG k (A.deeper (envOfC "_law_digit" (defScope s__law_digit) s.heap.objs.size f cdv))) :
    PSs (cxOf (L2.CX P w) P w K mg base ["_law_state", "_law_base", "_law_number", "_law_cell", "_law_found"] "_law_digit" (defScope s__law_digit) f cdv A outer s H E) (defBody s__law_digit) (tS (cxOf (L2.CX P w) P w K mg base ["_law_state", "_law_base", "_law_number", "_law_cell", "_law_found"] "_law_digit" (defScope s__law_digit) f cdv A outer s H E) (fun c d _ H => E c d H) (b__law_digit cl)) := by
  have tk : Takes (cxOf (L2.CX P w) P w K mg base ["_law_state", "_law_base", "_law_number", "_law_cell", "_law_found"] "_law_digit" (defScope s__law_digit) f cdv A outer s H E) (fun c d _ H => E c d H) := takes_of rfl rfl rfl rfl
  have nd := sc__law_digit.nd
  exact (q_seq (q_ifS (qt_cmp (op_eqU (by have z := hu2 hr; exact z)) eqP_v (q_callB call_len len_v rfl T.m_len PySem.boot_len (q_cons (q_var 0) q_nil)) q_int (nomark _)) (q_seq (q_set (i := 3) nd rfl (by first | exact Or.inl rfl | exact Or.inr rfl) (q_ix (q_var 0) q_int))
    (q_seq (q_asg (q_ix (q_lst (q_cons q_int (q_cons (q_var 3) q_nil))) (q_callTy call_int1 int_v rfl T.m_int (by decide +kernel) (q_cons (q_cmp op_ge (cmp_v _) (q_var 3) (q_op op_pow pow_v q_int q_int) (nomark _)) q_nil))) (q_gsb (W := W0) (q_var 0) q_int))
    (q_last (q_expr (q_mth PySem.F.slot_list_extend PySem.F.type_list_extend mt_extend extend_v (q_var 0) (q_cons (q_lst (q_cons (q_op op_mod mod_v (q_var 3) q_int) (q_cons q_int q_nil))) q_nil)))))) q_snil)
    (q_seq (q_ifS (qt_cmp op_gt (cmp_v _) (q_ix (q_var 0) q_int) q_int (nomark _)) (q_seq (q_set (i := 4) nd rfl (by first | exact Or.inl rfl | exact Or.inr rfl) (q_op op_mod mod_v (q_ix (q_var 0) q_int) (q_var 1)))
    (q_seq (q_asg (q_op op_fdivW div_v (q_ix (q_var 0) q_int) (q_var 1)) (q_gsb (W := W0) (q_var 0) q_int))
    (q_last (q_ret (q_var 4))))) q_snil)
    (q_seq (q_asg (q_op op_addU addU_v (q_ix (q_var 0) q_int) q_int) (q_gsb (W := W0) (q_var 0) q_int))
    (q_seq (q_set (i := 2) nd rfl (by first | exact Or.inl rfl | exact Or.inr rfl) (q_op op_mod mod_v (q_op op_mulU mulU_v (q_op op_addU addU_v (q_op op_addU addU_v (q_ix (q_var 0) q_int) (q_op op_mulU mulU_v q_int (q_ix (q_var 0) q_int))) q_int) q_int) q_int))
    (q_seq (q_set (i := 2) nd rfl (by first | exact Or.inl rfl | exact Or.inr rfl) (q_op op_mod mod_v (q_op op_mulU mulU_v (q_var 2) (q_op op_addU addU_v (q_op op_fdivW div_v (q_var 2) q_int) q_int)) q_int))
    (q_last (q_ret (q_op op_mod mod_v (q_op op_mod mod_v (q_op op_mulU mulU_v (q_var 2) (q_op op_addU addU_v (q_op op_fdivW div_v (q_var 2) q_int) q_int)) q_int) (q_var 1)))))))))
theorem ok__law_made {k : Nat} {cl cl2 : Fn → FF} (T : Txt K w.params mg) (C : ∀ g : Fn, g ≠ .f_law → calOf P w K mg base (k + 2) g (cl g)) (C2 : ∀ g : Fn, g ≠ .f_law → calOf P w K mg base k g (cl2 g)) (f : Addr) (cdv : Value) (A : Around) (outer : List Env) (s : Shared) (H : Hp) (E : XK) (hr : RoomG (k + 2) (A.deeper (envOfC "_law_made" (defScope s__law_made) s.heap.objs.size f cdv))) :
    PSs (cxOf (L2.CX P w) P w K mg base ["_law_word", "_law_thing", "_law_found"] "_law_made" (defScope s__law_made) f cdv A outer s H E) (defBody s__law_made) (tS (cxOf (L2.CX P w) P w K mg base ["_law_word", "_law_thing", "_law_found"] "_law_made" (defScope s__law_made) f cdv A outer s H E) (fun c d _ H => E c d H) (b__law_made cl cl2)) := by
  have tk : Takes (cxOf (L2.CX P w) P w K mg base ["_law_word", "_law_thing", "_law_found"] "_law_made" (defScope s__law_made) f cdv A outer s H E) (fun c d _ H => E c d H) := takes_of rfl rfl rfl rfl
  have nd := sc__law_made.nd
  exact (q_seq (q_set (i := 2) nd rfl (by first | exact Or.inl rfl | exact Or.inr rfl) (q_lst (q_cons (q_exo T.x_NoText rfl (q_var 0)) (q_cons (q_exo T.x_NoKind rfl (q_var 0)) (q_cons (q_exo T.x_NoForm rfl (q_var 0)) (q_cons (q_exo T.x_NoSizes rfl (q_var 0)) (q_cons (q_exo T.x_TooMany rfl (q_var 0)) (q_cons (q_exo T.x_NoDivisor rfl (q_var 0)) q_nil))))))))
    (q_last (q_ret (q_op op_addU addU_v (q_var 2) (q_lst (q_cons (q_exo T.x_NoWorth rfl (q_var 0)) (q_cons (q_exo T.x_NoTerm rfl (q_var 0)) (q_cons (q_exo T.x_NoLibrary rfl (q_var 0)) (q_cons (q_exo T.x_NoName rfl (q_var 0)) (q_cons (q_unl (T.u_Unlike _ _ _ _) hr tk rfl (q_cons (q_var 1) q_nil)) q_nil))))))))))
theorem ok__law_marks {k : Nat} {cl : Fn → FF} (T : Txt K w.params mg) (C : ∀ g : Fn, g ≠ .f_law → calOf P w K mg base k g (cl g)) (f : Addr) (cdv : Value) (A : Around) (outer : List Env) (s : Shared) (H : Hp) (E : XK) (hr : RoomG k (A.deeper (envOfC "_law_marks" (defScope s__law_marks) s.heap.objs.size f cdv))) :
    PSs (cxOf (L2.CX P w) P w K mg base ["_law_one", "_law_found"] "_law_marks" (defScope s__law_marks) f cdv A outer s H E) (defBody s__law_marks) (tS (cxOf (L2.CX P w) P w K mg base ["_law_one", "_law_found"] "_law_marks" (defScope s__law_marks) f cdv A outer s H E) (fun c d _ H => E c d H) (b__law_marks cl)) := by
  have tk : Takes (cxOf (L2.CX P w) P w K mg base ["_law_one", "_law_found"] "_law_marks" (defScope s__law_marks) f cdv A outer s H E) (fun c d _ H => E c d H) := takes_of rfl rfl rfl rfl
  have nd := sc__law_marks.nd
  exact (q_seq (q_set (i := 1) nd rfl (by first | exact Or.inl rfl | exact Or.inr rfl) (q_lst (q_cons (q_isP T.xk T.i_NoText (by simp [excs]) rfl T.m_isinstance rfl (q_var 0)) (q_cons (q_isP T.xk T.i_NoKind (by simp [excs]) rfl T.m_isinstance rfl (q_var 0)) (q_cons (q_isP T.xk T.i_NoForm (by simp [excs]) rfl T.m_isinstance rfl (q_var 0)) (q_cons (q_isP T.xk T.i_NoSizes (by simp [excs]) rfl T.m_isinstance rfl (q_var 0)) q_nil))))))
    (q_seq (q_set (i := 1) nd rfl (by first | exact Or.inl rfl | exact Or.inr rfl) (q_op op_addU addU_v (q_var 1) (q_lst (q_cons (q_isP T.xk T.i_TooMany (by simp [excs]) rfl T.m_isinstance rfl (q_var 0)) (q_cons (q_isP T.xk T.i_NoDivisor (by simp [excs]) rfl T.m_isinstance rfl (q_var 0)) (q_cons (q_isP T.xk T.i_NoWorth (by simp [excs]) rfl T.m_isinstance rfl (q_var 0)) q_nil))))))
    (q_seq (q_set (i := 1) nd rfl (by first | exact Or.inl rfl | exact Or.inr rfl) (q_op op_addU addU_v (q_var 1) (q_lst (q_cons (q_isP T.xk T.i_NoTerm (by simp [excs]) rfl T.m_isinstance rfl (q_var 0)) (q_cons (q_isP T.xk T.i_NoLibrary (by simp [excs]) rfl T.m_isinstance rfl (q_var 0)) (q_cons (q_isP T.xk T.i_NoName (by simp [excs]) rfl T.m_isinstance rfl (q_var 0)) q_nil))))))
    (q_last (q_ret (q_op op_addU addU_v (q_var 1) (q_lst (q_cons (q_isP T.xk T.i_Unlike (by simp [excs]) rfl T.m_isinstance rfl (q_var 0)) q_nil))))))))
theorem ok_law {k : Nat} {cl cl2 : Fn → FF} (T : Txt K w.params mg) (C : ∀ g : Fn, g ≠ .f_law → calOf P w K mg base (k + 2) g (cl g)) (C2 : ∀ g : Fn, g ≠ .f_law → calOf P w K mg base k g (cl2 g)) (f : Addr) (cdv : Value) (A : Around) (outer : List Env) (s : Shared) (H : Hp) (E : XK) (hr : RoomG (k + 2) (A.deeper (envOfC "law" (defScope s_law) s.heap.objs.size f cdv))) :
    PSs (cxOf (L2.CX P w) P w K mg base ["_law_script", "_law_k", "_law_state", "_law_thing", "_law_word", "_law_number", "_law_one", "_law_marks_here"] "law" (defScope s_law) f cdv A outer s H E) (defBody s_law) (tS (cxOf (L2.CX P w) P w K mg base ["_law_script", "_law_k", "_law_state", "_law_thing", "_law_word", "_law_number", "_law_one", "_law_marks_here"] "law" (defScope s_law) f cdv A outer s H E) (fun c d _ H => E c d H) (b_law cl cl2)) := by
  have tk : Takes (cxOf (L2.CX P w) P w K mg base ["_law_script", "_law_k", "_law_state", "_law_thing", "_law_word", "_law_number", "_law_one", "_law_marks_here"] "law" (defScope s_law) f cdv A outer s H E) (fun c d _ H => E c d H) := takes_of rfl rfl rfl rfl
  have nd := sc_law.nd
  exact (q_seq (q_for (passes_of rfl) rfl (qi_range1 rfl T.m_range (q_cons (q_callB (call_max2 rfl) max_v rfl T.m_max (by decide +kernel) (q_cons q_int (q_cons (q_callB (call_min2 rfl) min_v rfl T.m_min (by decide +kernel) (q_cons q_int (q_cons (q_callB call_len len_v rfl T.m_len PySem.boot_len (q_cons (q_var 0) q_nil)) q_nil))) q_nil))) q_nil)) (q_gn (i := 1) nd rfl (by first | exact Or.inl rfl | exact Or.inr rfl)) (q_seq (q_set (i := 2) nd rfl (by first | exact Or.inl rfl | exact Or.inr rfl) (q_cel (q_cons (q_op op_addU addU_v (q_call (C .f__law_cell_at (fun z => nomatch z)) hr tk rfl (q_cons (q_var 0) (q_cons (q_var 1) q_nil))) (q_op op_mulU mulU_v q_int (q_var 1))) q_nil)))
    (q_seq (q_set (i := 3) nd rfl (by first | exact Or.inl rfl | exact Or.inr rfl) (q_ix (q_lst (q_cons q_non (q_cons (q_tup (q_cons (q_op op_mulU mulU_v (q_lst (q_cons q_int q_nil)) q_int) (q_cons q_int q_nil))) (q_cons q_int (q_cons q_str (q_cons (q_tup q_nil) (q_cons (q_call (C .f__law_digit (fun z => nomatch z)) hr tk rfl (q_cons (q_var 2) (q_cons q_int q_nil))) q_nil))))))) (q_call (C .f__law_digit (fun z => nomatch z)) hr tk rfl (q_cons (q_var 2) (q_cons q_int q_nil)))))
    (q_seq (q_set (i := 4) nd rfl (by first | exact Or.inl rfl | exact Or.inr rfl) (q_ix (q_lst (q_cons q_str (q_cons q_str (q_cons q_str q_nil)))) (q_call (C .f__law_digit (fun z => nomatch z)) hr tk rfl (q_cons (q_var 2) (q_cons q_int q_nil)))))
    (q_seq (q_for (passes_of rfl) rfl (qi_enum rfl T.m_enumerate (q_cons (q_call (C .f__law_made (fun z => nomatch z)) hr tk rfl (q_cons (q_var 4) (q_cons (q_var 3) q_nil))) q_nil)) (q_gtu rfl (q_gscons (q_gn (i := 5) nd rfl (by first | exact Or.inl rfl | exact Or.inr rfl)) (q_gscons (q_gn (i := 6) nd rfl (by first | exact Or.inl rfl | exact Or.inr rfl)) q_gsnil))) (q_seq (q_set (i := 7) nd rfl (by first | exact Or.inl rfl | exact Or.inr rfl) (q_call (C .f__law_marks (fun z => nomatch z)) hr tk rfl (q_cons (q_var 6) q_nil)))
    (q_seq (q_ifS (PW.pt (qw_or (qt_not (qt_tru (q_isP T.xk T.i_SwapError (by simp [excs]) rfl T.m_isinstance rfl (q_var 6)))) (qw_one (qt_not (qt_tru (q_isPV T.xk T.i_ValueError rfl T.m_isinstance rfl T.m_ValueError (q_var 6))))))) (q_last (q_ret q_bl)) q_snil)
    (q_last (q_ifS (PW.pt (qw_or (qt_cmp (op_neU (by have z := hu2 hr; exact z)) neP_v (q_mth PySem.F.slot_list_count PySem.F.type_list_count (mt_cntD (by have z := hu2 hr; exact z)) cnt_v (q_var 7) (q_cons q_bl q_nil)) q_int (nomark _)) (qw_one (qt_not (qt_tru (q_ix (q_var 7) (q_var 5))))))) (q_last (q_ret q_bl)) q_snil)))))
    (q_last (q_ifS (PW.pt (qw_or (qt_cmp (op_neU (by have z := hu2 hr; exact z)) neP_v (q_xfl (q_unlK (T.u_Unlike _ _ _ _) hr tk rfl (q_kcons (q_var 3) q_knil)) T.gx_Unlike) (q_var 3) (nomark _)) (qw_one (qt_cmp (op_neU (by have z := hu2 hr; exact z)) neP_v (q_xfl (q_unl (T.u_Unlike _ _ _ _) hr tk rfl (q_cons (q_var 3) q_nil)) T.gx_Unlike) (q_var 3) (nomark _))))) (q_last (q_ret q_bl)) q_snil)))))))
    (q_last (q_ret q_bl)))
theorem all_ok (T : Txt K w.params mg) : ∀ (n : Nat) (g : Fn), g ≠ .f_law → calOf P w K mg base n g (ev n g)
  | 0, .f__law_cell_at, _ => cal_zero T.t__law_cell_at
  | 0, .f__law_digit, _ => cal_zero T.t__law_digit
  | 0, .f__law_made, _ => cal_zero T.t__law_made
  | 0, .f__law_marks, _ => cal_zero T.t__law_marks
  | n + 1, .f__law_cell_at, _ => calB T.t__law_cell_at sc__law_cell_at (ok__law_cell_at T (all_ok T n))
  | n + 1, .f__law_digit, _ => calB T.t__law_digit sc__law_digit (ok__law_digit T (all_ok T n))
  | 1, .f__law_made, _ => cal_no T.t__law_made
  | 2, .f__law_made, _ => cal_no T.t__law_made
  | n + 3, .f__law_made, _ => calB T.t__law_made sc__law_made (ok__law_made T (all_ok T (n + 2)) (all_ok T n))
  | n + 1, .f__law_marks, _ => calB T.t__law_marks sc__law_marks (ok__law_marks T (all_ok T n))
  | _, .f_law, h => absurd rfl h
end
end Kz

namespace Kz
open PySem PySem.Spec PyProof.Rows L2 Kw
theorem up {n d : Nat} (h : d + 1 ≤ n) : ∃ m, n = m + 1 ∧ d ≤ m := ⟨n - 1, by omega, by omega⟩
theorem lt_of_at {S : Store} {w : Nat} {c : Cell} (h : S[w]? = some c) : w < S.length := by
  rcases Nat.lt_or_ge w S.length with hh | hh
  · exact hh
  · rw [List.getElem?_eq_none hh] at h; cases h
/-- the digits' state at w -/
def Well (S : Store) (w : Nat) : Prop := (∃ i : Int, S[w]? = some (.lst [.int i])) ∨ ∃ a b c : Int, 0 ≤ a ∧ 0 ≤ b ∧ b < 2147483647 ∧ 0 ≤ c ∧ S[w]? = some (.lst [.int a, .int b, .int c])
/-- only the state was changed -/
structure WS (S : Store) (w : Nat) (S' : Store) : Prop where
  len : S'.length = S.length
  same : ∀ i, i ≠ w → S'[i]? = S[i]?
  well : Well S' w
theorem WS.refl {S : Store} {w : Nat} (h : Well S w) : WS S w S := ⟨rfl, fun _ _ => rfl, h⟩
theorem WS.trans {S S1 S2 : Store} {w : Nat} (h : WS S w S1) (k : WS S1 w S2) : WS S w S2 := ⟨k.len.trans h.len, fun i hi => (k.same i hi).trans (h.same i hi), k.well⟩
theorem WS.set {S : Store} {w : Nat} {a b c : Int} {x : Cell} (h : S[w]? = some x) (ha : 0 ≤ a) (hb : 0 ≤ b) (hb' : b < 2147483647) (hc : 0 ≤ c) : WS S w (S.set w (.lst [.int a, .int b, .int c])) :=
  ⟨by simp, fun i hi => by rw [List.getElem?_set_ne (Ne.symm hi)], .inr ⟨a, b, c, ha, hb, hb', hc, List.getElem?_set_self (lt_of_at h)⟩⟩
noncomputable def dRest : FS := (sSeq (sIf (fB (f2 (gCmp fun i j => decide (j < i)) (f2 gIx (fVar 0) (fC (.int 0))) (fC (.int 0)))) (sSeq (sSet 4 (f2 gMod (f2 gIx (fVar 0) (fC (.int 0))) (fVar 1)))
  (sSeq (sAsg (f2 gDiv (f2 gIx (fVar 0) (fC (.int 0))) (fVar 1)) (gSb (fVar 0) (fC (.int 0))))
  (sRet (fVar 4)))) sNil)
  (sSeq (sAsg (f2 (gAdd false) (f2 gIx (fVar 0) (fC (.int 2))) (fC (.int 1))) (gSb (fVar 0) (fC (.int 2))))
  (sSeq (sSet 2 (f2 gMod (f2 (gMul false) (f2 (gAdd false) (f2 (gAdd false) (f2 gIx (fVar 0) (fC (.int 1))) (f2 (gMul false) (fC (.int 7919)) (f2 gIx (fVar 0) (fC (.int 2))))) (fC (.int 1))) (fC (.int 48271))) (fC (.int 2147483647))))
  (sSeq (sSet 2 (f2 gMod (f2 (gMul false) (fVar 2) (f2 (gAdd false) (f2 gDiv (fVar 2) (fC (.int 1009))) (fC (.int 69621)))) (fC (.int 2147483647))))
  (sRet (f2 gMod (f2 gMod (f2 (gMul false) (fVar 2) (f2 (gAdd false) (f2 gDiv (fVar 2) (fC (.int 2003))) (fC (.int 40692)))) (fC (.int 2147483399))) (fVar 1)))))))
noncomputable def dHead : FS := (sIf (fB (f2 gEq (fArg gLen (fCons (fVar 0) fNil)) (fC (.int 1)))) (sSeq (sSet 3 (f2 gIx (fVar 0) (fC (.int 0))))
  (sSeq (sAsg (f2 gIx (fArg mkLst (fCons (fC (.int 0)) (fCons (fVar 3) fNil))) (fArg gInt (fCons (f2 (gCmp fun i j => decide (j ≤ i)) (fVar 3) (f2 gPow (fC (.int 10)) (fC (.int 18)))) fNil))) (gSb (fVar 0) (fC (.int 0))))
  (sExp (fMth gExtend (fVar 0) (fCons (fArg mkLst (fCons (f2 gMod (fVar 3) (fC (.int 2147483647))) (fCons (fC (.int 0)) fNil))) fNil))))) sNil)
theorem b_digit_eq (cl : Fn → FF) : b__law_digit cl = sSeq dHead dRest := rfl
theorem head1 {S : Store} {w : Nat} {i m : Int} (h : S[w]? = some (.lst [.int i])) : ∃ a : Int, 0 ≤ a ∧ dHead [some (.loc w), some (.int m), none, none, none] S = .nx [some (.loc w), some (.int m), none, some (.int i), none] (S.set w (.lst [.int a, .int (i % 2147483647), .int 0])) := by
  have hw := lt_of_at h
  have h8 : sizeLine = 16777216 := rfl
  have e : (10 : Int) ^ 18 = 1000000000000000000 := by decide
  have hl : gLen [.loc w] S = .ok (.int 1) S := by simp [gLen, seqA, cellOf_of h]
  have key : ∀ a : Int, (S.set w (.lst [.int a]))[w]? = some (.lst [.int a]) := fun a => List.getElem?_set_self hw
  have km : ∀ a : Int, mthR gExtend (fCons (fArg mkLst (fCons (f2 gMod (fVar 3) (fC (.int 2147483647))) (fCons (fC (.int 0)) fNil))) fNil) [some (.loc w), some (.int m), none, some (.int i), none] (.loc w) (S.set w (.lst [.int a])) = .ok .non (S.set w (.lst [.int a, .int (i % 2147483647), .int 0])) := by
    intro a
    rw [mthR_loc (cellOf_of (key a))]
    have hx := gExtend_loc (S := S.set w (.lst [.int a])) (n := w) (xs := [.int a]) (ys := [.int (i % 2147483647), .int 0]) (cellM_of (key a)) (by rw [h8]; simp)
    simp [h8, hx]
  by_cases hi : (1000000000000000000 : Int) ≤ i
  · refine ⟨i, by omega, ?_⟩
    unfold dHead
    simp [hl, cellOf_of h, h8, e, hi, gSb, gSetI, cellM_of h, L2.ixN, km]
  · refine ⟨0, by omega, ?_⟩
    unfold dHead
    simp [hl, cellOf_of h, h8, e, hi, gSb, gSetI, cellM_of h, L2.ixN, km]
theorem head3 {S : Store} {w : Nat} {a b c m : Int} (h : S[w]? = some (.lst [.int a, .int b, .int c])) : dHead [some (.loc w), some (.int m), none, none, none] S = .nx [some (.loc w), some (.int m), none, none, none] S := by
  have hl : gLen [.loc w] S = .ok (.int 3) S := by simp [gLen, seqA, cellOf_of h]
  unfold dHead
  simp [hl]
theorem rest_go {S : Store} {w : Nat} {a b c m : Int} {x : Option D} (ha : 0 ≤ a) (hb : 0 ≤ b) (hb' : b < 2147483647) (hc : 0 ≤ c) (at_ : S[w]? = some (.lst [.int a, .int b, .int c])) (hm : 0 < m) (hm' : m < 1000000000) :
    ∃ r S', dRest [some (.loc w), some (.int m), none, x, none] S = .rt (.int r) S' ∧ 0 ≤ r ∧ r < m ∧ WS S w S' := by
  have hw := lt_of_at at_
  have hlog : m.natAbs.log2 < 9000 := by
    rcases Nat.eq_zero_or_pos m.natAbs with h0 | h0
    · rw [h0]; decide
    · have : m.natAbs.log2 < 40 := (Nat.log2_lt (by omega)).mpr (by omega)
      omega
  unfold dRest
  by_cases h0 : 0 < a
  · refine ⟨a % m, S.set w (.lst [.int (a / m), .int b, .int c]), ?_, Int.emod_nonneg _ (by omega), Int.emod_lt_of_pos _ hm, WS.set at_ (Int.ediv_nonneg ha (by omega)) hb hb' hc⟩
    simp [cellOf_of at_, h0, hm, hlog, gSb, gSetI, cellM_of at_, L2.ixN]
  · have l1 : (1009 : Nat).log2 < 9000 := by decide
    have l2 : (2003 : Nat).log2 < 9000 := by decide
    have at2 : (S.set w (.lst [.int a, .int b, .int (c + 1)]))[w]? = some (.lst [.int a, .int b, .int (c + 1)]) := List.getElem?_set_self hw
    have c1 : ∀ i j : Int, 0 ≤ j → j < 18446744073709551616 → (CMul i j ∨ CMulW i j) = True := fun i j h1 h2 => eq_true (.inl (.inr ⟨by omega, by omega⟩))
    have c2 : ∀ i j : Int, 0 ≤ i → i < 18446744073709551616 → (CMul i j ∨ CMulW i j) = True := fun i j h1 h2 => eq_true (.inl (.inl ⟨by omega, by omega⟩))
    have b1 : ∀ x : Int, 0 ≤ x % 2147483647 ∧ x % 2147483647 < 2147483647 := fun x => by omega
    have k1 := fun (x y : Int) => c2 (x % 2147483647) y (b1 x).1 (by have := (b1 x).2; omega)
    have k3 := fun (x : Int) => c1 x 48271 (by omega) (by omega)
    have k4 := fun (x : Int) => c2 7919 x (by omega) (by omega)
    refine ⟨(((b + 7919 * (c + 1) + 1) * 48271 % 2147483647 * ((b + 7919 * (c + 1) + 1) * 48271 % 2147483647 / 1009 + 69621) % 2147483647) * ((((b + 7919 * (c + 1) + 1) * 48271 % 2147483647 * ((b + 7919 * (c + 1) + 1) * 48271 % 2147483647 / 1009 + 69621) % 2147483647)) / 2003 + 40692) % 2147483399) % m, S.set w (.lst [.int a, .int b, .int (c + 1)]), ?_, Int.emod_nonneg _ (by omega), Int.emod_lt_of_pos _ hm, WS.set at_ ha hb hb' (by omega)⟩
    simp [cellOf_of at_, h0, hm, hlog, gSb, gSetI, cellM_of at_, L2.ixN, cellOf_of at2, k1, k3, k4, l1, l2]
theorem draw_sp {n : Nat} {S : Store} {w : Nat} {m : Int} (h : 1 ≤ n) (hw : Well S w) (hm : 0 < m) (hm' : m < 1000000000) : ∃ r S', ev n .f__law_digit [.loc w, .int m] S = .ok (.int r) S' ∧ 0 ≤ r ∧ r < m ∧ WS S w S' := by
  obtain ⟨n, rfl, h'⟩ := up h
  rw [ev, b_digit_eq, fnB_2]
  show ∃ r S', ((dHead [some (.loc w), some (.int m), none, none, none] S).bnd dRest).fin = _ ∧ _
  rcases hw with ⟨i, at_⟩ | ⟨a, b, c, ha, hb, hb', hc, at_⟩
  · obtain ⟨a, ha, e⟩ := head1 (m := m) at_
    rw [e]
    have at2 : (S.set w (.lst [.int a, .int (i % 2147483647), .int 0]))[w]? = some (.lst [.int a, .int (i % 2147483647), .int 0]) := List.getElem?_set_self (lt_of_at at_)
    obtain ⟨r, S', e2, r0, r1, ws⟩ := rest_go (x := some (.int i)) ha (by omega) (by omega) (Int.le_refl _) at2 hm hm'
    exact ⟨r, S', by rw [sb_nx, e2, fin_rt], r0, r1, (WS.set at_ ha (by omega) (by omega) (Int.le_refl _)).trans ws⟩
  · rw [head3 at_]
    obtain ⟨r, S', e2, r0, r1, ws⟩ := rest_go (x := none) ha hb hb' hc at_ hm hm'
    exact ⟨r, S', by rw [sb_nx, e2, fin_rt], r0, r1, ws⟩
end Kz

namespace Kz
open PySem PySem.Spec PyProof.Rows L2 Kw
theorem cell_at {n : Nat} {S : Store} {ds : List D} {k : Nat} (h : 1 ≤ n) : ∃ d, ev n .f__law_cell_at [.fls ds, .int k] S = .ok d S ∧ (d ∈ ds ∨ d = .int 0) := by
  obtain ⟨n, rfl, h'⟩ := up h
  rw [ev, b__law_cell_at]
  by_cases hk : k < ds.length
  · refine ⟨ds[k], ?_, .inl (List.getElem_mem _)⟩
    simp [hk, List.getElem?_eq_getElem hk]
  · refine ⟨.int 0, ?_, .inr rfl⟩
    simp [hk]
end Kz

namespace Kz
open PySem PySem.Spec PyProof.Rows L2 Kw
/-! for k in range(max(1, min(c, len(script)))) -/
theorem mn_two {i j : Int} {S : Store} : gMin [.int i, .int j] S = .ok (.int (min i j)) S := by
  show RE.ok (D.int (if j < i then j else i)) S = _
  have : (if j < i then j else i) = min i j := by split <;> omega
  rw [this]
theorem mx_two {i j : Int} {S : Store} : gMax [.int i, .int j] S = .ok (.int (max i j)) S := by
  show RE.ok (D.int (if j > i then j else i)) S = _
  have : (if j > i then j else i) = max i j := by split <;> omega
  rw [this]
theorem itR_z {z : Int} {S : Store} (h0 : -1000 ≤ z) (h1 : z ≤ 1000000) : itR [.int z] S = .ok (rngD 0 z.toNat, none) S := by
  show (if -(2 ^ 62) ≤ z ∧ z < 2 ^ 62 then RE.ok (rngD 0 z.toNat, none) S else .no) = _
  rw [if_pos ⟨by omega, by omega⟩]
theorem itR_n {V : Nat} {S : Store} (h : V ≤ 1000) : itR [.int (V : Int)] S = .ok (rngD 0 V, none) S := by
  rw [itR_z (by omega) (by omega), Int.toNat_natCast]
theorem rngD_nat : ∀ (n j : Nat), rngD (j : Int) n = (List.range' j n).map fun (i : Nat) => D.int (i : Int)
  | 0, j => rfl
  | n + 1, j => by
    show D.int (j : Int) :: rngD ((j : Int) + 1) n = _
    have : ((j : Int) + 1) = ((j + 1 : Nat) : Int) := by omega
    rw [this, rngD_nat n (j + 1)]; rfl
theorem rng_src {fe : FE} {ρ : FEnv} {S : Store} {W c : Int} (e : fe ρ S = .ok (.int W) S) : fiR1 (fCons (fArg gMax (fCons (fC (.int 1)) (fCons (fArg gMin (fCons (fC (.int c)) (fCons fe fNil))) fNil))) fNil) ρ S = itR [.int (max 1 (min c W))] S := by
  simp only [fiR1_ap, fCons_ap, fArg_ap, fC_ap, fNil_ap, bnd_ok, e, mn_two, mx_two]
theorem len_go {ds : List D} {S : Store} {r : FEnv} : fArg gLen (fCons (fVar 0) fNil) (some (.fls ds) :: r) S = .ok (.int (ds.length : Int)) S := by simp
theorem src_go {ns : List Int} {S : Store} {c : Int} {r : FEnv} (hc : c ≤ 900) : ∃ V : Nat, (V : Int) ≤ max 1 c ∧ fiR1 (fCons (fArg gMax (fCons (fC (.int 1)) (fCons (fArg gMin (fCons (fC (.int c)) (fCons (fArg gLen (fCons (fVar 0) fNil)) fNil))) fNil))) fNil) (some (.fls (ns.map .int)) :: r) S = .ok ((List.range' 0 V).map fun (i : Nat) => D.int (i : Int), none) S := by
  generalize hW : (((ns.map D.int).length : Nat) : Int) = W
  have e := rng_src (c := c) (W := W) (ρ := some (.fls (ns.map .int)) :: r) (S := S) (by rw [← hW]; exact len_go)
  obtain ⟨V, hV⟩ : ∃ V : Nat, (V : Int) = max 1 (min c W) := ⟨(max 1 (min c W)).toNat, by omega⟩
  refine ⟨V, by omega, ?_⟩
  rw [e, ← hV, itR_n (by omega), ← rngD_nat]
  rfl
end Kz

namespace Kz
open PySem PySem.Spec PyProof.Rows L2 Kw
/-- the classes, in the order in which they are made -/
def cls : List Str := ["NoText", "NoKind", "NoForm", "NoSizes", "TooMany", "NoDivisor", "NoWorth", "NoTerm", "NoLibrary", "NoName", "Unlike"]
/-- each refusal -/
def mades (t : D) : List D := [.exo "NoText" [] [], .exo "NoKind" [] [], .exo "NoForm" [] [], .exo "NoSizes" [] [], .exo "TooMany" [] [], .exo "NoDivisor" [] [], .exo "NoWorth" [] [], .exo "NoTerm" [] [], .exo "NoLibrary" [] [], .exo "NoName" [] [], .exo "Unlike" ["apart"] [t]]
@[simp] theorem fUn_ap {c f : Str} {fs : FA} {ρ : FEnv} {S : Store} : fUn c f fs ρ S = (fs ρ S).bnd (gExoF c f) := rfl
@[simp] theorem gExoF_one {c f : Str} {x : D} {S : Store} : gExoF c f [x] S = .ok (.exo c [f] [x]) S := rfl
@[simp] theorem gExo_ok {c : Str} {x : D} {S : Store} : gExo c x S = .ok (.exo c [] []) S := rfl
theorem made_sp {n : Nat} {S : Store} {w t : D} (h : 3 ≤ n) : ev n .f__law_made [w, t] S = .ok (.lst (mades t)) S := by
  obtain ⟨n, rfl⟩ : ∃ m, n = m + 3 := ⟨n - 3, by omega⟩
  rw [ev, b__law_made]
  simp [mades]
theorem gIsP_ok {sub : Str → Bool} {c : Str} {ns : List Str} {ds : List D} {S : Store} (h : c ∈ excs) : gIsP excs sub (.exo c ns ds) S = .ok (.bl (sub c)) S := by
  simp [gIsP, h]
theorem marks_sp {n : Nat} {S : Store} {c : Str} {ns : List Str} {ds : List D} (h : 1 ≤ n) (hc : c ∈ excs) : ev n .f__law_marks [.exo c ns ds] S = .ok (.lst (cls.map fun x => .bl (isx c x))) S := by
  obtain ⟨n, rfl, h'⟩ := up h
  rw [ev, b__law_marks]
  simp [gIsP_ok hc, cls]
end Kz

namespace Kz
open PySem PySem.Spec PyProof.Rows L2 Kw
def mk (c : Str) : D := .lst (cls.map fun x => .bl (isx c x))
def Good (i : Nat) (d : D) : Prop := ∃ c ns ds, d = .exo c ns ds ∧ c ∈ excs ∧ isx c "SwapError" = true ∧ isx c "ValueError" = true ∧ (∀ S, gCnt (mk c) [.bl true] S = .ok (.int 1) S) ∧ ∀ S, gIx (mk c) (.int (i : Int)) S = .ok (.bl true) S
theorem step {m : Nat} {cl2 : Fn → FF} (h : 1 ≤ m) {i : Nat} {d : D} (g : Good i d) {S : Store} {x0 x1 x2 x3 x4 x7 : Option D} :
    ∃ y7, l_law_0 (ev m) cl2 [x0, x1, x2, x3, x4, some (.int (i : Int)), some d, x7] S = .nx [x0, x1, x2, x3, x4, some (.int (i : Int)), some d, y7] S := by
  obtain ⟨c, ns, ds, rfl, hc, hs, hv, hn, hx⟩ := g
  refine ⟨some (mk c), ?_⟩
  have e := marks_sp (S := S) (ns := ns) (ds := ds) h hc
  change _ = RE.ok (mk c) S at e
  unfold mk at *
  generalize (cls.map fun x => D.bl (isx c x)) = M at *
  rw [l_law_0]
  simp [e, gIsP_ok hc, hs, hv, hn, hx, mthR, seqL]
theorem loop {m : Nat} {cl2 : Fn → FF} (h : 1 ≤ m) {S : Store} {x0 x1 x2 x3 x4 : Option D} : ∀ (l : List D) (k : Nat), (∀ i d, l[i]? = some d → Good (k + i) d) → ∀ x5 x6 x7, ∃ y5 y6 y7, forL (gTu 2 (gsCons (gN 5) (gsCons (gN 6) gsNil))) (l_law_0 (ev m) cl2) none (enumD k l) [x0, x1, x2, x3, x4, x5, x6, x7] S = .nx [x0, x1, x2, x3, x4, y5, y6, y7] S
  | [], k, _, x5, x6, x7 => ⟨x5, x6, x7, by simp [enumD]⟩
  | d :: l, k, g, x5, x6, x7 => by
    obtain ⟨y7, e1⟩ := step (cl2 := cl2) h (g 0 d rfl) (S := S) (x0 := x0) (x1 := x1) (x2 := x2) (x3 := x3) (x4 := x4) (x7 := x7)
    obtain ⟨z5, z6, z7, e2⟩ := loop (cl2 := cl2) h (S := S) (x0 := x0) (x1 := x1) (x2 := x2) (x3 := x3) (x4 := x4) l (k + 1) (fun i d hd => by
      have := g (i + 1) d (by simpa using hd)
      rwa [show k + (i + 1) = k + 1 + i by omega] at this) (some (.int (k : Int))) (some d) y7
    refine ⟨z5, z6, z7, ?_⟩
    rw [← e2, enumD, forL_cons]
    show loopR _ (l_law_0 (ev m) cl2 [x0, x1, x2, x3, x4, some (.int (k : Int)), some d, x7] S) = _
    rw [Nat.add_zero] at e1
    rw [e1, loopR_nx]
theorem good_all {t : D} : ∀ i d, (mades t)[i]? = some d → Good (0 + i) d
  | 0, d, h => by cases h; exact ⟨_, _, _, rfl, by decide +kernel, by decide +kernel, by decide +kernel, fun S => rfl, fun S => rfl⟩
  | 1, d, h => by cases h; exact ⟨_, _, _, rfl, by decide +kernel, by decide +kernel, by decide +kernel, fun S => rfl, fun S => rfl⟩
  | 2, d, h => by cases h; exact ⟨_, _, _, rfl, by decide +kernel, by decide +kernel, by decide +kernel, fun S => rfl, fun S => rfl⟩
  | 3, d, h => by cases h; exact ⟨_, _, _, rfl, by decide +kernel, by decide +kernel, by decide +kernel, fun S => rfl, fun S => rfl⟩
  | 4, d, h => by cases h; exact ⟨_, _, _, rfl, by decide +kernel, by decide +kernel, by decide +kernel, fun S => rfl, fun S => rfl⟩
  | 5, d, h => by cases h; exact ⟨_, _, _, rfl, by decide +kernel, by decide +kernel, by decide +kernel, fun S => rfl, fun S => rfl⟩
  | 6, d, h => by cases h; exact ⟨_, _, _, rfl, by decide +kernel, by decide +kernel, by decide +kernel, fun S => rfl, fun S => rfl⟩
  | 7, d, h => by cases h; exact ⟨_, _, _, rfl, by decide +kernel, by decide +kernel, by decide +kernel, fun S => rfl, fun S => rfl⟩
  | 8, d, h => by cases h; exact ⟨_, _, _, rfl, by decide +kernel, by decide +kernel, by decide +kernel, fun S => rfl, fun S => rfl⟩
  | 9, d, h => by cases h; exact ⟨_, _, _, rfl, by decide +kernel, by decide +kernel, by decide +kernel, fun S => rfl, fun S => rfl⟩
  | 10, d, h => by cases h; exact ⟨_, _, _, rfl, by decide +kernel, by decide +kernel, by decide +kernel, fun S => rfl, fun S => rfl⟩
  | n + 11, d, h => by simp [mades] at h
/-- the things that are handed in -/
theorem ne_self {r : Int} {S : Store} : ∀ t ∈ ([.non, .tup [.lst [.int 2, .int 2, .int 2, .int 2, .int 2, .int 2, .int 2, .int 2], .int 7], .int 0, .str "apart", .tup [], .int r] : List D), gNe t t S = .ok (.bl false) S := by
  intro t ht
  simp only [List.mem_cons, List.not_mem_nil, or_false] at ht
  rcases ht with rfl | rfl | rfl | rfl | rfl | rfl
  · rfl
  · rfl
  · rfl
  · simp [gNe, eqE]
  · rfl
  · simp [gNe, eqE, pyS, okPy, PyData.canLay0, PyData.depth, PyData.eqv]
end Kz

namespace Kz
open PySem PySem.Spec PyProof.Rows L2 Kw
theorem ix_mem {ds : List D} {r : Int} {S : Store} (h0 : 0 ≤ r) (h1 : r < ds.length) : ∃ d ∈ ds, gIx (.lst ds) (.int r) S = .ok d S := by
  obtain ⟨k, rfl⟩ : ∃ k : Nat, r = (k : Int) := ⟨r.toNat, by omega⟩
  have hk : k < ds.length := by omega
  exact ⟨ds[k], List.getElem_mem _, by simp [hk, List.getElem?_eq_getElem hk]⟩
@[simp] theorem gXF_one {t : D} {S : Store} : gXF ["Unlike"] "apart" (.exo "Unlike" ["apart"] [t]) S = .ok t S := rfl
def F0 (cl : Fn → FF) : FS := sSet 2 (fArg mkCel (fCons (f2 (gAdd false) (fArg (cl .f__law_cell_at) (fCons (fVar 0) (fCons (fVar 1) fNil))) (f2 (gMul false) (fC (.int 61)) (fVar 1))) fNil))
def F1 (cl : Fn → FF) : FS := sSet 3 (f2 gIx (fArg mkLst (fCons (fC .non) (fCons (fArg mkTup (fCons (f2 (gMul false) (fArg mkLst (fCons (fC (.int 2)) fNil)) (fC (.int 8))) (fCons (fC (.int 7)) fNil))) (fCons (fC (.int 0)) (fCons (fC (.str "apart")) (fCons (fArg mkTup fNil) (fCons (fArg (cl .f__law_digit) (fCons (fVar 2) (fCons (fC (.int 99)) fNil))) fNil))))))) (fArg (cl .f__law_digit) (fCons (fVar 2) (fCons (fC (.int 6)) fNil))))
def F2 (cl : Fn → FF) : FS := sSet 4 (f2 gIx (fArg mkLst (fCons (fC (.str "")) (fCons (fC (.str "none")) (fCons (fC (.str "no such thing")) fNil)))) (fArg (cl .f__law_digit) (fCons (fVar 2) (fCons (fC (.int 3)) fNil))))
noncomputable def F3 (cl cl2 : Fn → FF) : FS := sFor (fiE (fCons (fArg (cl .f__law_made) (fCons (fVar 4) (fCons (fVar 3) fNil))) fNil)) (gTu 2 (gsCons (gN 5) (gsCons (gN 6) gsNil))) (l_law_0 cl cl2)
def F4 : FS := sIf (fOr (fB (f2 gNe (f1 (gXF ["Unlike"] "apart") (fUn "Unlike" "apart" (fCons (fVar 3) fNil))) (fVar 3))) (fB (f2 gNe (f1 (gXF ["Unlike"] "apart") (fUn "Unlike" "apart" (fCons (fVar 3) fNil))) (fVar 3)))) (sRet (fC (.bl false))) sNil
theorem l1_eq (cl cl2 : Fn → FF) : l_law_1 cl cl2 = sSeq (F0 cl) (sSeq (F1 cl) (sSeq (F2 cl) (sSeq (F3 cl cl2) F4))) := rfl
theorem iter_go {m : Nat} (hm : 220 ≤ m) {cl2 : Fn → FF} {ns : List Int} {j : Nat} (hj : j ≤ 100) {S : Store} {x2 x3 x4 x5 x6 x7 : Option D} :
    ∃ y2 y3 y4 y5 y6 y7 S', l_law_1 (ev m) cl2 [some (.fls (ns.map .int)), some (.int (j : Int)), x2, x3, x4, x5, x6, x7] S = .nx [some (.fls (ns.map .int)), some (.int (j : Int)), y2, y3, y4, y5, y6, y7] S' := by
  have h8 : sizeLine = 16777216 := rfl
  obtain ⟨d, e0, hd⟩ := cell_at (n := m) (S := S) (ds := ns.map D.int) (k := j) (by omega)
  have hi : ∃ i : Int, d = .int i := by
    rcases hd with hd | rfl
    · obtain ⟨i, _, rfl⟩ := List.mem_map.mp hd
      exact ⟨i, rfl⟩
    · exact ⟨0, rfl⟩
  obtain ⟨i, rfl⟩ := hi
  have c1 : (CMul 61 (j : Int) ∨ CMulW 61 (j : Int)) = True := eq_true (.inl (.inl ⟨by omega, by omega⟩))
  have w0 : Well (S ++ [.lst [.int (i + 61 * (j : Int))]]) S.length := .inl ⟨i + 61 * (j : Int), by simp⟩
  have q0 : F0 (ev m) [some (.fls (ns.map .int)), some (.int (j : Int)), x2, x3, x4, x5, x6, x7] S = .nx [some (.fls (ns.map .int)), some (.int (j : Int)), some (.loc S.length), x3, x4, x5, x6, x7] (S ++ [.lst [.int (i + 61 * (j : Int))]]) := by
    simp [F0, e0, c1, h8]
  generalize hw : S.length = w at *
  generalize hS0 : S ++ [.lst [.int (i + 61 * (j : Int))]] = S0 at *
  obtain ⟨r1, S1, e1, a1, b1, w1⟩ := draw_sp (n := m) (m := 99) (by omega) w0 (by omega) (by omega)
  obtain ⟨r2, S2, e2, a2, b2, w2⟩ := draw_sp (n := m) (m := 6) (by omega) w1.well (by omega) (by omega)
  obtain ⟨t, ht, e3⟩ := ix_mem (ds := [.non, .tup [.lst [.int 2, .int 2, .int 2, .int 2, .int 2, .int 2, .int 2, .int 2], .int 7], .int 0, .str "apart", .tup [], .int r1]) (S := S2) a2 b2
  have q1 : F1 (ev m) [some (.fls (ns.map .int)), some (.int (j : Int)), some (.loc w), x3, x4, x5, x6, x7] S0 = .nx [some (.fls (ns.map .int)), some (.int (j : Int)), some (.loc w), some t, x4, x5, x6, x7] S2 := by
    have g : gMul false (.lst [.int 2]) (.int 8) S0 = .ok (.lst [.int 2, .int 2, .int 2, .int 2, .int 2, .int 2, .int 2, .int 2]) S0 := rfl

    simp [F1, g, e1, e2, e3, h8]
  obtain ⟨r3, S3, e4, a3, b3, w3⟩ := draw_sp (n := m) (m := 3) (by omega) w2.well (by omega) (by omega)
  obtain ⟨u, hu, e5⟩ := ix_mem (ds := [.str "", .str "none", .str "no such thing"]) (S := S3) a3 b3
  have q2 : F2 (ev m) [some (.fls (ns.map .int)), some (.int (j : Int)), some (.loc w), some t, x4, x5, x6, x7] S2 = .nx [some (.fls (ns.map .int)), some (.int (j : Int)), some (.loc w), some t, some u, x5, x6, x7] S3 := by
    simp [F2, e4, e5, h8]
  have e6 := made_sp (n := m) (S := S3) (w := u) (t := t) (by omega)
  obtain ⟨y5, y6, y7, e7⟩ := loop (m := m) (cl2 := cl2) (by omega) (S := S3) (x0 := some (.fls (ns.map .int))) (x1 := some (.int (j : Int))) (x2 := some (.loc w)) (x3 := some t) (x4 := some u) (mades t) 0 good_all x5 x6 x7
  have q3 : F3 (ev m) cl2 [some (.fls (ns.map .int)), some (.int (j : Int)), some (.loc w), some t, some u, x5, x6, x7] S3 = .nx [some (.fls (ns.map .int)), some (.int (j : Int)), some (.loc w), some t, some u, y5, y6, y7] S3 := by
    have es : fiE (fCons (fArg (ev m .f__law_made) (fCons (fVar 4) (fCons (fVar 3) fNil))) fNil) [some (.fls (ns.map .int)), some (.int (j : Int)), some (.loc w), some t, some u, x5, x6, x7] S3 = .ok (enumD 0 (mades t), none) S3 := by
      simp [fiE, e6, iSeq]
    rw [F3, sFor_ap, es, toS_ok]
    exact e7
  have n1 := ne_self (r := r1) (S := S3) t ht
  have q4 : F4 [some (.fls (ns.map .int)), some (.int (j : Int)), some (.loc w), some t, some u, y5, y6, y7] S3 = .nx [some (.fls (ns.map .int)), some (.int (j : Int)), some (.loc w), some t, some u, y5, y6, y7] S3 := by
    simp [F4, n1]
  refine ⟨some (.loc w), some t, some u, y5, y6, y7, S3, ?_⟩
  rw [l1_eq, sSeq_ap, q0, sb_nx, sSeq_ap, q1, sb_nx, sSeq_ap, q2, sb_nx, sSeq_ap, q3, sb_nx, q4]
theorem law_loop {m : Nat} (h : 220 ≤ m) {cl2 : Fn → FF} {ns : List Int} : ∀ (js : List Nat), (∀ j ∈ js, j ≤ 100) → ∀ {S : Store} {x1 x2 x3 x4 x5 x6 x7 : Option D}, ∃ y1 y2 y3 y4 y5 y6 y7 S', forL (gN 1) (l_law_1 (ev m) cl2) none (js.map fun (i : Nat) => D.int (i : Int)) [some (.fls (ns.map .int)), x1, x2, x3, x4, x5, x6, x7] S = .nx [some (.fls (ns.map .int)), y1, y2, y3, y4, y5, y6, y7] S'
  | [], _, S, x1, x2, x3, x4, x5, x6, x7 => ⟨x1, x2, x3, x4, x5, x6, x7, S, by simp⟩
  | j :: js, hj, S, x1, x2, x3, x4, x5, x6, x7 => by
    obtain ⟨z2, z3, z4, z5, z6, z7, S1, e1⟩ := iter_go (m := m) h (cl2 := cl2) (ns := ns) (j := j) (hj j List.mem_cons_self) (S := S) (x2 := x2) (x3 := x3) (x4 := x4) (x5 := x5) (x6 := x6) (x7 := x7)
    obtain ⟨y1, y2, y3, y4, y5, y6, y7, S', e2⟩ := law_loop h (cl2 := cl2) (ns := ns) js (fun i hi => hj i (List.mem_cons_of_mem _ hi)) (S := S1) (x1 := some (.int (j : Int))) (x2 := z2) (x3 := z3) (x4 := z4) (x5 := z5) (x6 := z6) (x7 := z7)
    refine ⟨y1, y2, y3, y4, y5, y6, y7, S', ?_⟩
    rw [← e2, List.map_cons, forL_cons, gN_ap, tgR_some]
    show loopR _ (l_law_1 (ev m) cl2 [some (.fls (ns.map .int)), some (.int (j : Int)), x2, x3, x4, x5, x6, x7] S) = _
    rw [e1, loopR_nx]
theorem law_true (ns : List Int) (hl : ns.length ≤ 63) : ∃ S', Kw.fnB 1 8 (b_law (ev 230) (ev 228)) [.fls (ns.map .int)] [] = .ok (.bl true) S' := by
  obtain ⟨V, hV, src⟩ := src_go (ns := ns) (S := []) (c := 8) (r := [none, none, none, none, none, none, none]) (by omega)
  obtain ⟨y1, y2, y3, y4, y5, y6, y7, S', e2⟩ := law_loop (m := 230) (by omega) (cl2 := ev 228) (ns := ns) (List.range' 0 V) (fun j hj => by
    have := List.mem_range'_1.mp hj
    omega) (S := []) (x1 := none) (x2 := none) (x3 := none) (x4 := none) (x5 := none) (x6 := none) (x7 := none)
  refine ⟨S', ?_⟩
  rw [b_law, fnB_1]
  show RS.fin (sSeq _ _ [some (.fls (ns.map .int)), none, none, none, none, none, none, none] []) = _
  rw [sSeq_ap, sFor_ap, src, toS_ok, e2, sb_nx]
  rfl
end Kz

open PySem PySem.W PyProof.Rows
set_option maxRecDepth 100000 in
set_option maxHeartbeats 0 in
theorem PySem.Challenge.cw_kindswap_k16_refusals_apart_holds : PySem.Challenge.rw_kindswap_k16_refusals_apart.Holds := by
  w_on; o_law; k_head; (case hw => w_witness2)
  k_fill
  refine Kw.walk_g (l := PySem.Challenge.rw_kindswap_k16_refusals_apart) (k := 230 + 1) (x := "_law_script") rfl rfl ⟨⟨by decide, by decide, by decide⟩, rfl⟩ (fun w h Y => PySem.W.kIn_of Y) ?F (fun w H s e s' h => Kw.cx_no h)
  case F =>
    intro w mg fa h KX G hmg
    have t__law_cell_at : Kw.TF (L2.KOf KX) mg "_law_cell_at" Kz.s__law_cell_at ["_law_script", "_law_k"] := by
      unfold L2.KOf
      refine' Kw.tf_mk KX G ?a ?l ?c ?k ?b
      (case a => k_is); (case l => k_is); (case c => k_is); (case k => k_is)
      (case b => exact fun _ _ _ _ _ _ us hl => match us, hl with | [_, _], _ => rfl)
    have t__law_digit : Kw.TF (L2.KOf KX) mg "_law_digit" Kz.s__law_digit ["_law_state", "_law_base"] := by
      unfold L2.KOf
      refine' Kw.tf_mk KX G ?a ?l ?c ?k ?b
      (case a => k_is); (case l => k_is); (case c => k_is); (case k => k_is)
      (case b => exact fun _ _ _ _ _ _ us hl => match us, hl with | [_, _], _ => rfl)
    have t__law_made : Kw.TF (L2.KOf KX) mg "_law_made" Kz.s__law_made ["_law_word", "_law_thing"] := by
      unfold L2.KOf
      refine' Kw.tf_mk KX G ?a ?l ?c ?k ?b
      (case a => k_is); (case l => k_is); (case c => k_is); (case k => k_is)
      (case b => exact fun _ _ _ _ _ _ us hl => match us, hl with | [_, _], _ => rfl)
    have t__law_marks : Kw.TF (L2.KOf KX) mg "_law_marks" Kz.s__law_marks ["_law_one"] := by
      unfold L2.KOf
      refine' Kw.tf_mk KX G ?a ?l ?c ?k ?b
      (case a => k_is); (case l => k_is); (case c => k_is); (case k => k_is)
      (case b => exact fun _ _ _ _ _ _ us hl => match us, hl with | [_], _ => rfl)
    have m_ValueError : mg "ValueError" = none := by
      refine' Kw.bl_mk KX G ?a
      (case a => k_is)
    have m_enumerate : mg "enumerate" = none := by
      refine' Kw.bl_mk KX G ?a
      (case a => k_is)
    have m_int : mg "int" = none := by
      refine' Kw.bl_mk KX G ?a
      (case a => k_is)
    have m_isinstance : mg "isinstance" = none := by
      refine' Kw.bl_mk KX G ?a
      (case a => k_is)
    have m_len : mg "len" = none := by
      refine' Kw.bl_mk KX G ?a
      (case a => k_is)
    have m_max : mg "max" = none := by
      refine' Kw.bl_mk KX G ?a
      (case a => k_is)
    have m_min : mg "min" = none := by
      refine' Kw.bl_mk KX G ?a
      (case a => k_is)
    have m_range : mg "range" = none := by
      refine' Kw.bl_mk KX G ?a
      (case a => k_is)
    have x_NoDivisor : Kw.ExcF (L2.KOf KX) mg "NoDivisor" := by
      unfold L2.KOf
      refine' Kw.exc_mk KX G ?a ?b ?c ?d ?e
      (case a => k_is); (case b => k_exc); (case c => k_is); (case d => k_is); (case e => k_is)
    have x_NoForm : Kw.ExcF (L2.KOf KX) mg "NoForm" := by
      unfold L2.KOf
      refine' Kw.exc_mk KX G ?a ?b ?c ?d ?e
      (case a => k_is); (case b => k_exc); (case c => k_is); (case d => k_is); (case e => k_is)
    have x_NoKind : Kw.ExcF (L2.KOf KX) mg "NoKind" := by
      unfold L2.KOf
      refine' Kw.exc_mk KX G ?a ?b ?c ?d ?e
      (case a => k_is); (case b => k_exc); (case c => k_is); (case d => k_is); (case e => k_is)
    have x_NoLibrary : Kw.ExcF (L2.KOf KX) mg "NoLibrary" := by
      unfold L2.KOf
      refine' Kw.exc_mk KX G ?a ?b ?c ?d ?e
      (case a => k_is); (case b => k_exc); (case c => k_is); (case d => k_is); (case e => k_is)
    have x_NoName : Kw.ExcF (L2.KOf KX) mg "NoName" := by
      unfold L2.KOf
      refine' Kw.exc_mk KX G ?a ?b ?c ?d ?e
      (case a => k_is); (case b => k_exc); (case c => k_is); (case d => k_is); (case e => k_is)
    have x_NoSizes : Kw.ExcF (L2.KOf KX) mg "NoSizes" := by
      unfold L2.KOf
      refine' Kw.exc_mk KX G ?a ?b ?c ?d ?e
      (case a => k_is); (case b => k_exc); (case c => k_is); (case d => k_is); (case e => k_is)
    have x_NoTerm : Kw.ExcF (L2.KOf KX) mg "NoTerm" := by
      unfold L2.KOf
      refine' Kw.exc_mk KX G ?a ?b ?c ?d ?e
      (case a => k_is); (case b => k_exc); (case c => k_is); (case d => k_is); (case e => k_is)
    have x_NoText : Kw.ExcF (L2.KOf KX) mg "NoText" := by
      unfold L2.KOf
      refine' Kw.exc_mk KX G ?a ?b ?c ?d ?e
      (case a => k_is); (case b => k_exc); (case c => k_is); (case d => k_is); (case e => k_is)
    have x_NoWorth : Kw.ExcF (L2.KOf KX) mg "NoWorth" := by
      unfold L2.KOf
      refine' Kw.exc_mk KX G ?a ?b ?c ?d ?e
      (case a => k_is); (case b => k_exc); (case c => k_is); (case d => k_is); (case e => k_is)
    have x_TooMany : Kw.ExcF (L2.KOf KX) mg "TooMany" := by
      unfold L2.KOf
      refine' Kw.exc_mk KX G ?a ?b ?c ?d ?e
      (case a => k_is); (case b => k_exc); (case c => k_is); (case d => k_is); (case e => k_is)
    have u_Unlike : Kw.TU (L2.KOf KX) mg := by
      unfold L2.KOf
      refine' Kw.tu_mk (mB := .type "type") Kz.un_Unlike KX G ?aC ?xL ?rv ?sa ?eC ?tC ?kC ?nf ?iC ?tI ?l ?cc ?k ?aB ?rd ?sg ?v
      (case aC => k_is); (case xL => k_is); (case rv => decide +kernel); (case sa => k_is); (case eC => k_is); (case tC => k_is); (case kC => k_is); (case nf => k_is); (case iC => k_is); (case tI => k_is); (case l => k_is); (case cc => k_is); (case k => k_is); (case aB => k_is); (case rd => k_is); (case sg => k_is); (case v => k_is)
    have gx_Unlike : ∀ c ∈ (["Unlike"] : List Str), Kw.XfK (L2.KOf KX) mg c "apart" := by
      refine List.forall_mem_cons.mpr ⟨?_, by simp⟩
      unfold L2.KOf
      refine' Kw.xfk_mk KX G ?a ?b ?c ?d ?e ?f
      (case a => k_is); (case b => k_is); (case c => k_is); (case d => k_is); (case e => k_is); (case f => k_is)
    have xk_NoDivisor : Kw.ExcK (L2.KOf KX) mg "NoDivisor" := by
      unfold L2.KOf
      refine' Kw.exck_mk KX G ?kz20 ⟨?kz21, ?kz22, ?kz23, ?kz24, ?kz25, ?kz26, ?kz27, ?kz28⟩
      (case kz20 => k_is)
      (case kz21 => k_is)
      (case kz22 => k_is)
      (case kz23 => k_is)
      (case kz24 => k_is)
      (case kz25 => k_is)
      (case kz26 => k_is)
      (case kz27 => k_is)
      (case kz28 => k_is)

    have xk_NoForm : Kw.ExcK (L2.KOf KX) mg "NoForm" := by
      unfold L2.KOf
      refine' Kw.exck_mk KX G ?kz40 ⟨?kz41, ?kz42, ?kz43, ?kz44, ?kz45, ?kz46, ?kz47, ?kz48⟩
      (case kz40 => k_is)
      (case kz41 => k_is)
      (case kz42 => k_is)
      (case kz43 => k_is)
      (case kz44 => k_is)
      (case kz45 => k_is)
      (case kz46 => k_is)
      (case kz47 => k_is)
      (case kz48 => k_is)

    have xk_NoKind : Kw.ExcK (L2.KOf KX) mg "NoKind" := by
      unfold L2.KOf
      refine' Kw.exck_mk KX G ?kz60 ⟨?kz61, ?kz62, ?kz63, ?kz64, ?kz65, ?kz66, ?kz67, ?kz68⟩
      (case kz60 => k_is)
      (case kz61 => k_is)
      (case kz62 => k_is)
      (case kz63 => k_is)
      (case kz64 => k_is)
      (case kz65 => k_is)
      (case kz66 => k_is)
      (case kz67 => k_is)
      (case kz68 => k_is)

    have xk_NoLibrary : Kw.ExcK (L2.KOf KX) mg "NoLibrary" := by
      unfold L2.KOf
      refine' Kw.exck_mk KX G ?kz80 ⟨?kz81, ?kz82, ?kz83, ?kz84, ?kz85, ?kz86, ?kz87, ?kz88⟩
      (case kz80 => k_is)
      (case kz81 => k_is)
      (case kz82 => k_is)
      (case kz83 => k_is)
      (case kz84 => k_is)
      (case kz85 => k_is)
      (case kz86 => k_is)
      (case kz87 => k_is)
      (case kz88 => k_is)

    have xk_NoName : Kw.ExcK (L2.KOf KX) mg "NoName" := by
      unfold L2.KOf
      refine' Kw.exck_mk KX G ?kz100 ⟨?kz101, ?kz102, ?kz103, ?kz104, ?kz105, ?kz106, ?kz107, ?kz108⟩
      (case kz100 => k_is)
      (case kz101 => k_is)
      (case kz102 => k_is)
      (case kz103 => k_is)
      (case kz104 => k_is)
      (case kz105 => k_is)
      (case kz106 => k_is)
      (case kz107 => k_is)
      (case kz108 => k_is)

    have xk_NoSizes : Kw.ExcK (L2.KOf KX) mg "NoSizes" := by
      unfold L2.KOf
      refine' Kw.exck_mk KX G ?kz120 ⟨?kz121, ?kz122, ?kz123, ?kz124, ?kz125, ?kz126, ?kz127, ?kz128⟩
      (case kz120 => k_is)
      (case kz121 => k_is)
      (case kz122 => k_is)
      (case kz123 => k_is)
      (case kz124 => k_is)
      (case kz125 => k_is)
      (case kz126 => k_is)
      (case kz127 => k_is)
      (case kz128 => k_is)

    have xk_NoTerm : Kw.ExcK (L2.KOf KX) mg "NoTerm" := by
      unfold L2.KOf
      refine' Kw.exck_mk KX G ?kz140 ⟨?kz141, ?kz142, ?kz143, ?kz144, ?kz145, ?kz146, ?kz147, ?kz148⟩
      (case kz140 => k_is)
      (case kz141 => k_is)
      (case kz142 => k_is)
      (case kz143 => k_is)
      (case kz144 => k_is)
      (case kz145 => k_is)
      (case kz146 => k_is)
      (case kz147 => k_is)
      (case kz148 => k_is)

    have xk_NoText : Kw.ExcK (L2.KOf KX) mg "NoText" := by
      unfold L2.KOf
      refine' Kw.exck_mk KX G ?kz160 ⟨?kz161, ?kz162, ?kz163, ?kz164, ?kz165, ?kz166, ?kz167, ?kz168⟩
      (case kz160 => k_is)
      (case kz161 => k_is)
      (case kz162 => k_is)
      (case kz163 => k_is)
      (case kz164 => k_is)
      (case kz165 => k_is)
      (case kz166 => k_is)
      (case kz167 => k_is)
      (case kz168 => k_is)

    have xk_NoWorth : Kw.ExcK (L2.KOf KX) mg "NoWorth" := by
      unfold L2.KOf
      refine' Kw.exck_mk KX G ?kz180 ⟨?kz181, ?kz182, ?kz183, ?kz184, ?kz185, ?kz186, ?kz187, ?kz188⟩
      (case kz180 => k_is)
      (case kz181 => k_is)
      (case kz182 => k_is)
      (case kz183 => k_is)
      (case kz184 => k_is)
      (case kz185 => k_is)
      (case kz186 => k_is)
      (case kz187 => k_is)
      (case kz188 => k_is)

    have xk_TooMany : Kw.ExcK (L2.KOf KX) mg "TooMany" := by
      unfold L2.KOf
      refine' Kw.exck_mk KX G ?kz200 ⟨?kz201, ?kz202, ?kz203, ?kz204, ?kz205, ?kz206, ?kz207, ?kz208⟩
      (case kz200 => k_is)
      (case kz201 => k_is)
      (case kz202 => k_is)
      (case kz203 => k_is)
      (case kz204 => k_is)
      (case kz205 => k_is)
      (case kz206 => k_is)
      (case kz207 => k_is)
      (case kz208 => k_is)

    have xk_Unlike : Kw.ExcK (L2.KOf KX) mg "Unlike" := by
      unfold L2.KOf
      refine' Kw.exck_mk KX G ?kz220 ⟨?kz221, ?kz222, ?kz223, ?kz224, ?kz225, ?kz226, ?kz227, ?kz228⟩
      (case kz220 => k_is)
      (case kz221 => k_is)
      (case kz222 => k_is)
      (case kz223 => k_is)
      (case kz224 => k_is)
      (case kz225 => k_is)
      (case kz226 => k_is)
      (case kz227 => k_is)
      (case kz228 => k_is)

    have xk : ∀ y ∈ Kz.excs, Kw.ExcK (L2.KOf KX) mg y := (List.forall_mem_cons.mpr ⟨xk_NoDivisor, (List.forall_mem_cons.mpr ⟨xk_NoForm, (List.forall_mem_cons.mpr ⟨xk_NoKind, (List.forall_mem_cons.mpr ⟨xk_NoLibrary, (List.forall_mem_cons.mpr ⟨xk_NoName, (List.forall_mem_cons.mpr ⟨xk_NoSizes, (List.forall_mem_cons.mpr ⟨xk_NoTerm, (List.forall_mem_cons.mpr ⟨xk_NoText, (List.forall_mem_cons.mpr ⟨xk_NoWorth, (List.forall_mem_cons.mpr ⟨xk_TooMany, (List.forall_mem_cons.mpr ⟨xk_Unlike, (by simp)⟩)⟩)⟩)⟩)⟩)⟩)⟩)⟩)⟩)⟩)⟩)
    have i_NoDivisor_NoDivisor : Kw.IsxO (L2.KOf KX) mg "NoDivisor" "NoDivisor" (Kz.isx "NoDivisor" "NoDivisor") := by
      unfold L2.KOf
      refine' Kw.isxo_mk (b' := true) KX G ?kz240 ?kz241 ?kz242 ?kz243 ?kz244 ?kz245 ?kz246
      (case kz240 => k_is)
      (case kz241 => k_is)
      (case kz242 => exact (show Kz.isx "NoDivisor" "NoDivisor" = true by decide +kernel))
      (case kz243 => k_is)
      (case kz244 => k_is)
      (case kz245 => k_is)
      (case kz246 => decide)

    have i_NoDivisor_NoForm : Kw.IsxO (L2.KOf KX) mg "NoForm" "NoDivisor" (Kz.isx "NoForm" "NoDivisor") := by
      unfold L2.KOf
      refine' Kw.isxo_mk (b' := false) KX G ?kz260 ?kz261 ?kz262 ?kz263 ?kz264 ?kz265 ?kz266
      (case kz260 => k_is)
      (case kz261 => k_is)
      (case kz262 => exact (show Kz.isx "NoForm" "NoDivisor" = false by decide +kernel))
      (case kz263 => k_is)
      (case kz264 => k_is)
      (case kz265 => k_is)
      (case kz266 => decide)

    have i_NoDivisor_NoKind : Kw.IsxO (L2.KOf KX) mg "NoKind" "NoDivisor" (Kz.isx "NoKind" "NoDivisor") := by
      unfold L2.KOf
      refine' Kw.isxo_mk (b' := false) KX G ?kz280 ?kz281 ?kz282 ?kz283 ?kz284 ?kz285 ?kz286
      (case kz280 => k_is)
      (case kz281 => k_is)
      (case kz282 => exact (show Kz.isx "NoKind" "NoDivisor" = false by decide +kernel))
      (case kz283 => k_is)
      (case kz284 => k_is)
      (case kz285 => k_is)
      (case kz286 => decide)

    have i_NoDivisor_NoLibrary : Kw.IsxO (L2.KOf KX) mg "NoLibrary" "NoDivisor" (Kz.isx "NoLibrary" "NoDivisor") := by
      unfold L2.KOf
      refine' Kw.isxo_mk (b' := false) KX G ?kz300 ?kz301 ?kz302 ?kz303 ?kz304 ?kz305 ?kz306
      (case kz300 => k_is)
      (case kz301 => k_is)
      (case kz302 => exact (show Kz.isx "NoLibrary" "NoDivisor" = false by decide +kernel))
      (case kz303 => k_is)
      (case kz304 => k_is)
      (case kz305 => k_is)
      (case kz306 => decide)

    have i_NoDivisor_NoName : Kw.IsxO (L2.KOf KX) mg "NoName" "NoDivisor" (Kz.isx "NoName" "NoDivisor") := by
      unfold L2.KOf
      refine' Kw.isxo_mk (b' := false) KX G ?kz320 ?kz321 ?kz322 ?kz323 ?kz324 ?kz325 ?kz326
      (case kz320 => k_is)
      (case kz321 => k_is)
      (case kz322 => exact (show Kz.isx "NoName" "NoDivisor" = false by decide +kernel))
      (case kz323 => k_is)
      (case kz324 => k_is)
      (case kz325 => k_is)
      (case kz326 => decide)

    have i_NoDivisor_NoSizes : Kw.IsxO (L2.KOf KX) mg "NoSizes" "NoDivisor" (Kz.isx "NoSizes" "NoDivisor") := by
      unfold L2.KOf
      refine' Kw.isxo_mk (b' := false) KX G ?kz340 ?kz341 ?kz342 ?kz343 ?kz344 ?kz345 ?kz346
      (case kz340 => k_is)
      (case kz341 => k_is)
      (case kz342 => exact (show Kz.isx "NoSizes" "NoDivisor" = false by decide +kernel))
      (case kz343 => k_is)
      (case kz344 => k_is)
      (case kz345 => k_is)
      (case kz346 => decide)

    have i_NoDivisor_NoTerm : Kw.IsxO (L2.KOf KX) mg "NoTerm" "NoDivisor" (Kz.isx "NoTerm" "NoDivisor") := by
      unfold L2.KOf
      refine' Kw.isxo_mk (b' := false) KX G ?kz360 ?kz361 ?kz362 ?kz363 ?kz364 ?kz365 ?kz366
      (case kz360 => k_is)
      (case kz361 => k_is)
      (case kz362 => exact (show Kz.isx "NoTerm" "NoDivisor" = false by decide +kernel))
      (case kz363 => k_is)
      (case kz364 => k_is)
      (case kz365 => k_is)
      (case kz366 => decide)

    have i_NoDivisor_NoText : Kw.IsxO (L2.KOf KX) mg "NoText" "NoDivisor" (Kz.isx "NoText" "NoDivisor") := by
      unfold L2.KOf
      refine' Kw.isxo_mk (b' := false) KX G ?kz380 ?kz381 ?kz382 ?kz383 ?kz384 ?kz385 ?kz386
      (case kz380 => k_is)
      (case kz381 => k_is)
      (case kz382 => exact (show Kz.isx "NoText" "NoDivisor" = false by decide +kernel))
      (case kz383 => k_is)
      (case kz384 => k_is)
      (case kz385 => k_is)
      (case kz386 => decide)

    have i_NoDivisor_NoWorth : Kw.IsxO (L2.KOf KX) mg "NoWorth" "NoDivisor" (Kz.isx "NoWorth" "NoDivisor") := by
      unfold L2.KOf
      refine' Kw.isxo_mk (b' := false) KX G ?kz400 ?kz401 ?kz402 ?kz403 ?kz404 ?kz405 ?kz406
      (case kz400 => k_is)
      (case kz401 => k_is)
      (case kz402 => exact (show Kz.isx "NoWorth" "NoDivisor" = false by decide +kernel))
      (case kz403 => k_is)
      (case kz404 => k_is)
      (case kz405 => k_is)
      (case kz406 => decide)

    have i_NoDivisor_TooMany : Kw.IsxO (L2.KOf KX) mg "TooMany" "NoDivisor" (Kz.isx "TooMany" "NoDivisor") := by
      unfold L2.KOf
      refine' Kw.isxo_mk (b' := false) KX G ?kz420 ?kz421 ?kz422 ?kz423 ?kz424 ?kz425 ?kz426
      (case kz420 => k_is)
      (case kz421 => k_is)
      (case kz422 => exact (show Kz.isx "TooMany" "NoDivisor" = false by decide +kernel))
      (case kz423 => k_is)
      (case kz424 => k_is)
      (case kz425 => k_is)
      (case kz426 => decide)

    have i_NoDivisor_Unlike : Kw.IsxO (L2.KOf KX) mg "Unlike" "NoDivisor" (Kz.isx "Unlike" "NoDivisor") := by
      unfold L2.KOf
      refine' Kw.isxo_mk (b' := false) KX G ?kz440 ?kz441 ?kz442 ?kz443 ?kz444 ?kz445 ?kz446
      (case kz440 => k_is)
      (case kz441 => k_is)
      (case kz442 => exact (show Kz.isx "Unlike" "NoDivisor" = false by decide +kernel))
      (case kz443 => k_is)
      (case kz444 => k_is)
      (case kz445 => k_is)
      (case kz446 => decide)

    have i_NoDivisor : ∀ y ∈ Kz.excs, Kw.IsxO (L2.KOf KX) mg y "NoDivisor" (Kz.isx y "NoDivisor") := (List.forall_mem_cons.mpr ⟨i_NoDivisor_NoDivisor, (List.forall_mem_cons.mpr ⟨i_NoDivisor_NoForm, (List.forall_mem_cons.mpr ⟨i_NoDivisor_NoKind, (List.forall_mem_cons.mpr ⟨i_NoDivisor_NoLibrary, (List.forall_mem_cons.mpr ⟨i_NoDivisor_NoName, (List.forall_mem_cons.mpr ⟨i_NoDivisor_NoSizes, (List.forall_mem_cons.mpr ⟨i_NoDivisor_NoTerm, (List.forall_mem_cons.mpr ⟨i_NoDivisor_NoText, (List.forall_mem_cons.mpr ⟨i_NoDivisor_NoWorth, (List.forall_mem_cons.mpr ⟨i_NoDivisor_TooMany, (List.forall_mem_cons.mpr ⟨i_NoDivisor_Unlike, (by simp)⟩)⟩)⟩)⟩)⟩)⟩)⟩)⟩)⟩)⟩)⟩)
    have i_NoForm_NoDivisor : Kw.IsxO (L2.KOf KX) mg "NoDivisor" "NoForm" (Kz.isx "NoDivisor" "NoForm") := by
      unfold L2.KOf
      refine' Kw.isxo_mk (b' := false) KX G ?kz460 ?kz461 ?kz462 ?kz463 ?kz464 ?kz465 ?kz466
      (case kz460 => k_is)
      (case kz461 => k_is)
      (case kz462 => exact (show Kz.isx "NoDivisor" "NoForm" = false by decide +kernel))
      (case kz463 => k_is)
      (case kz464 => k_is)
      (case kz465 => k_is)
      (case kz466 => decide)

    have i_NoForm_NoForm : Kw.IsxO (L2.KOf KX) mg "NoForm" "NoForm" (Kz.isx "NoForm" "NoForm") := by
      unfold L2.KOf
      refine' Kw.isxo_mk (b' := true) KX G ?kz480 ?kz481 ?kz482 ?kz483 ?kz484 ?kz485 ?kz486
      (case kz480 => k_is)
      (case kz481 => k_is)
      (case kz482 => exact (show Kz.isx "NoForm" "NoForm" = true by decide +kernel))
      (case kz483 => k_is)
      (case kz484 => k_is)
      (case kz485 => k_is)
      (case kz486 => decide)

    have i_NoForm_NoKind : Kw.IsxO (L2.KOf KX) mg "NoKind" "NoForm" (Kz.isx "NoKind" "NoForm") := by
      unfold L2.KOf
      refine' Kw.isxo_mk (b' := false) KX G ?kz500 ?kz501 ?kz502 ?kz503 ?kz504 ?kz505 ?kz506
      (case kz500 => k_is)
      (case kz501 => k_is)
      (case kz502 => exact (show Kz.isx "NoKind" "NoForm" = false by decide +kernel))
      (case kz503 => k_is)
      (case kz504 => k_is)
      (case kz505 => k_is)
      (case kz506 => decide)

    have i_NoForm_NoLibrary : Kw.IsxO (L2.KOf KX) mg "NoLibrary" "NoForm" (Kz.isx "NoLibrary" "NoForm") := by
      unfold L2.KOf
      refine' Kw.isxo_mk (b' := false) KX G ?kz520 ?kz521 ?kz522 ?kz523 ?kz524 ?kz525 ?kz526
      (case kz520 => k_is)
      (case kz521 => k_is)
      (case kz522 => exact (show Kz.isx "NoLibrary" "NoForm" = false by decide +kernel))
      (case kz523 => k_is)
      (case kz524 => k_is)
      (case kz525 => k_is)
      (case kz526 => decide)

    have i_NoForm_NoName : Kw.IsxO (L2.KOf KX) mg "NoName" "NoForm" (Kz.isx "NoName" "NoForm") := by
      unfold L2.KOf
      refine' Kw.isxo_mk (b' := false) KX G ?kz540 ?kz541 ?kz542 ?kz543 ?kz544 ?kz545 ?kz546
      (case kz540 => k_is)
      (case kz541 => k_is)
      (case kz542 => exact (show Kz.isx "NoName" "NoForm" = false by decide +kernel))
      (case kz543 => k_is)
      (case kz544 => k_is)
      (case kz545 => k_is)
      (case kz546 => decide)

    have i_NoForm_NoSizes : Kw.IsxO (L2.KOf KX) mg "NoSizes" "NoForm" (Kz.isx "NoSizes" "NoForm") := by
      unfold L2.KOf
      refine' Kw.isxo_mk (b' := false) KX G ?kz560 ?kz561 ?kz562 ?kz563 ?kz564 ?kz565 ?kz566
      (case kz560 => k_is)
      (case kz561 => k_is)
      (case kz562 => exact (show Kz.isx "NoSizes" "NoForm" = false by decide +kernel))
      (case kz563 => k_is)
      (case kz564 => k_is)
      (case kz565 => k_is)
      (case kz566 => decide)

    have i_NoForm_NoTerm : Kw.IsxO (L2.KOf KX) mg "NoTerm" "NoForm" (Kz.isx "NoTerm" "NoForm") := by
      unfold L2.KOf
      refine' Kw.isxo_mk (b' := false) KX G ?kz580 ?kz581 ?kz582 ?kz583 ?kz584 ?kz585 ?kz586
      (case kz580 => k_is)
      (case kz581 => k_is)
      (case kz582 => exact (show Kz.isx "NoTerm" "NoForm" = false by decide +kernel))
      (case kz583 => k_is)
      (case kz584 => k_is)
      (case kz585 => k_is)
      (case kz586 => decide)

    have i_NoForm_NoText : Kw.IsxO (L2.KOf KX) mg "NoText" "NoForm" (Kz.isx "NoText" "NoForm") := by
      unfold L2.KOf
      refine' Kw.isxo_mk (b' := false) KX G ?kz600 ?kz601 ?kz602 ?kz603 ?kz604 ?kz605 ?kz606
      (case kz600 => k_is)
      (case kz601 => k_is)
      (case kz602 => exact (show Kz.isx "NoText" "NoForm" = false by decide +kernel))
      (case kz603 => k_is)
      (case kz604 => k_is)
      (case kz605 => k_is)
      (case kz606 => decide)

    have i_NoForm_NoWorth : Kw.IsxO (L2.KOf KX) mg "NoWorth" "NoForm" (Kz.isx "NoWorth" "NoForm") := by
      unfold L2.KOf
      refine' Kw.isxo_mk (b' := false) KX G ?kz620 ?kz621 ?kz622 ?kz623 ?kz624 ?kz625 ?kz626
      (case kz620 => k_is)
      (case kz621 => k_is)
      (case kz622 => exact (show Kz.isx "NoWorth" "NoForm" = false by decide +kernel))
      (case kz623 => k_is)
      (case kz624 => k_is)
      (case kz625 => k_is)
      (case kz626 => decide)

    have i_NoForm_TooMany : Kw.IsxO (L2.KOf KX) mg "TooMany" "NoForm" (Kz.isx "TooMany" "NoForm") := by
      unfold L2.KOf
      refine' Kw.isxo_mk (b' := false) KX G ?kz640 ?kz641 ?kz642 ?kz643 ?kz644 ?kz645 ?kz646
      (case kz640 => k_is)
      (case kz641 => k_is)
      (case kz642 => exact (show Kz.isx "TooMany" "NoForm" = false by decide +kernel))
      (case kz643 => k_is)
      (case kz644 => k_is)
      (case kz645 => k_is)
      (case kz646 => decide)

    have i_NoForm_Unlike : Kw.IsxO (L2.KOf KX) mg "Unlike" "NoForm" (Kz.isx "Unlike" "NoForm") := by
      unfold L2.KOf
      refine' Kw.isxo_mk (b' := false) KX G ?kz660 ?kz661 ?kz662 ?kz663 ?kz664 ?kz665 ?kz666
      (case kz660 => k_is)
      (case kz661 => k_is)
      (case kz662 => exact (show Kz.isx "Unlike" "NoForm" = false by decide +kernel))
      (case kz663 => k_is)
      (case kz664 => k_is)
      (case kz665 => k_is)
      (case kz666 => decide)

    have i_NoForm : ∀ y ∈ Kz.excs, Kw.IsxO (L2.KOf KX) mg y "NoForm" (Kz.isx y "NoForm") := (List.forall_mem_cons.mpr ⟨i_NoForm_NoDivisor, (List.forall_mem_cons.mpr ⟨i_NoForm_NoForm, (List.forall_mem_cons.mpr ⟨i_NoForm_NoKind, (List.forall_mem_cons.mpr ⟨i_NoForm_NoLibrary, (List.forall_mem_cons.mpr ⟨i_NoForm_NoName, (List.forall_mem_cons.mpr ⟨i_NoForm_NoSizes, (List.forall_mem_cons.mpr ⟨i_NoForm_NoTerm, (List.forall_mem_cons.mpr ⟨i_NoForm_NoText, (List.forall_mem_cons.mpr ⟨i_NoForm_NoWorth, (List.forall_mem_cons.mpr ⟨i_NoForm_TooMany, (List.forall_mem_cons.mpr ⟨i_NoForm_Unlike, (by simp)⟩)⟩)⟩)⟩)⟩)⟩)⟩)⟩)⟩)⟩)⟩)
    have i_NoKind_NoDivisor : Kw.IsxO (L2.KOf KX) mg "NoDivisor" "NoKind" (Kz.isx "NoDivisor" "NoKind") := by
      unfold L2.KOf
      refine' Kw.isxo_mk (b' := false) KX G ?kz680 ?kz681 ?kz682 ?kz683 ?kz684 ?kz685 ?kz686
      (case kz680 => k_is)
      (case kz681 => k_is)
      (case kz682 => exact (show Kz.isx "NoDivisor" "NoKind" = false by decide +kernel))
      (case kz683 => k_is)
      (case kz684 => k_is)
      (case kz685 => k_is)
      (case kz686 => decide)

    have i_NoKind_NoForm : Kw.IsxO (L2.KOf KX) mg "NoForm" "NoKind" (Kz.isx "NoForm" "NoKind") := by
      unfold L2.KOf
      refine' Kw.isxo_mk (b' := false) KX G ?kz700 ?kz701 ?kz702 ?kz703 ?kz704 ?kz705 ?kz706
      (case kz700 => k_is)
      (case kz701 => k_is)
      (case kz702 => exact (show Kz.isx "NoForm" "NoKind" = false by decide +kernel))
      (case kz703 => k_is)
      (case kz704 => k_is)
      (case kz705 => k_is)
      (case kz706 => decide)

    have i_NoKind_NoKind : Kw.IsxO (L2.KOf KX) mg "NoKind" "NoKind" (Kz.isx "NoKind" "NoKind") := by
      unfold L2.KOf
      refine' Kw.isxo_mk (b' := true) KX G ?kz720 ?kz721 ?kz722 ?kz723 ?kz724 ?kz725 ?kz726
      (case kz720 => k_is)
      (case kz721 => k_is)
      (case kz722 => exact (show Kz.isx "NoKind" "NoKind" = true by decide +kernel))
      (case kz723 => k_is)
      (case kz724 => k_is)
      (case kz725 => k_is)
      (case kz726 => decide)

    have i_NoKind_NoLibrary : Kw.IsxO (L2.KOf KX) mg "NoLibrary" "NoKind" (Kz.isx "NoLibrary" "NoKind") := by
      unfold L2.KOf
      refine' Kw.isxo_mk (b' := false) KX G ?kz740 ?kz741 ?kz742 ?kz743 ?kz744 ?kz745 ?kz746
      (case kz740 => k_is)
      (case kz741 => k_is)
      (case kz742 => exact (show Kz.isx "NoLibrary" "NoKind" = false by decide +kernel))
      (case kz743 => k_is)
      (case kz744 => k_is)
      (case kz745 => k_is)
      (case kz746 => decide)

    have i_NoKind_NoName : Kw.IsxO (L2.KOf KX) mg "NoName" "NoKind" (Kz.isx "NoName" "NoKind") := by
      unfold L2.KOf
      refine' Kw.isxo_mk (b' := false) KX G ?kz760 ?kz761 ?kz762 ?kz763 ?kz764 ?kz765 ?kz766
      (case kz760 => k_is)
      (case kz761 => k_is)
      (case kz762 => exact (show Kz.isx "NoName" "NoKind" = false by decide +kernel))
      (case kz763 => k_is)
      (case kz764 => k_is)
      (case kz765 => k_is)
      (case kz766 => decide)

    have i_NoKind_NoSizes : Kw.IsxO (L2.KOf KX) mg "NoSizes" "NoKind" (Kz.isx "NoSizes" "NoKind") := by
      unfold L2.KOf
      refine' Kw.isxo_mk (b' := false) KX G ?kz780 ?kz781 ?kz782 ?kz783 ?kz784 ?kz785 ?kz786
      (case kz780 => k_is)
      (case kz781 => k_is)
      (case kz782 => exact (show Kz.isx "NoSizes" "NoKind" = false by decide +kernel))
      (case kz783 => k_is)
      (case kz784 => k_is)
      (case kz785 => k_is)
      (case kz786 => decide)

    have i_NoKind_NoTerm : Kw.IsxO (L2.KOf KX) mg "NoTerm" "NoKind" (Kz.isx "NoTerm" "NoKind") := by
      unfold L2.KOf
      refine' Kw.isxo_mk (b' := false) KX G ?kz800 ?kz801 ?kz802 ?kz803 ?kz804 ?kz805 ?kz806
      (case kz800 => k_is)
      (case kz801 => k_is)
      (case kz802 => exact (show Kz.isx "NoTerm" "NoKind" = false by decide +kernel))
      (case kz803 => k_is)
      (case kz804 => k_is)
      (case kz805 => k_is)
      (case kz806 => decide)

    have i_NoKind_NoText : Kw.IsxO (L2.KOf KX) mg "NoText" "NoKind" (Kz.isx "NoText" "NoKind") := by
      unfold L2.KOf
      refine' Kw.isxo_mk (b' := false) KX G ?kz820 ?kz821 ?kz822 ?kz823 ?kz824 ?kz825 ?kz826
      (case kz820 => k_is)
      (case kz821 => k_is)
      (case kz822 => exact (show Kz.isx "NoText" "NoKind" = false by decide +kernel))
      (case kz823 => k_is)
      (case kz824 => k_is)
      (case kz825 => k_is)
      (case kz826 => decide)

    have i_NoKind_NoWorth : Kw.IsxO (L2.KOf KX) mg "NoWorth" "NoKind" (Kz.isx "NoWorth" "NoKind") := by
      unfold L2.KOf
      refine' Kw.isxo_mk (b' := false) KX G ?kz840 ?kz841 ?kz842 ?kz843 ?kz844 ?kz845 ?kz846
      (case kz840 => k_is)
      (case kz841 => k_is)
      (case kz842 => exact (show Kz.isx "NoWorth" "NoKind" = false by decide +kernel))
      (case kz843 => k_is)
      (case kz844 => k_is)
      (case kz845 => k_is)
      (case kz846 => decide)

    have i_NoKind_TooMany : Kw.IsxO (L2.KOf KX) mg "TooMany" "NoKind" (Kz.isx "TooMany" "NoKind") := by
      unfold L2.KOf
      refine' Kw.isxo_mk (b' := false) KX G ?kz860 ?kz861 ?kz862 ?kz863 ?kz864 ?kz865 ?kz866
      (case kz860 => k_is)
      (case kz861 => k_is)
      (case kz862 => exact (show Kz.isx "TooMany" "NoKind" = false by decide +kernel))
      (case kz863 => k_is)
      (case kz864 => k_is)
      (case kz865 => k_is)
      (case kz866 => decide)

    have i_NoKind_Unlike : Kw.IsxO (L2.KOf KX) mg "Unlike" "NoKind" (Kz.isx "Unlike" "NoKind") := by
      unfold L2.KOf
      refine' Kw.isxo_mk (b' := false) KX G ?kz880 ?kz881 ?kz882 ?kz883 ?kz884 ?kz885 ?kz886
      (case kz880 => k_is)
      (case kz881 => k_is)
      (case kz882 => exact (show Kz.isx "Unlike" "NoKind" = false by decide +kernel))
      (case kz883 => k_is)
      (case kz884 => k_is)
      (case kz885 => k_is)
      (case kz886 => decide)

    have i_NoKind : ∀ y ∈ Kz.excs, Kw.IsxO (L2.KOf KX) mg y "NoKind" (Kz.isx y "NoKind") := (List.forall_mem_cons.mpr ⟨i_NoKind_NoDivisor, (List.forall_mem_cons.mpr ⟨i_NoKind_NoForm, (List.forall_mem_cons.mpr ⟨i_NoKind_NoKind, (List.forall_mem_cons.mpr ⟨i_NoKind_NoLibrary, (List.forall_mem_cons.mpr ⟨i_NoKind_NoName, (List.forall_mem_cons.mpr ⟨i_NoKind_NoSizes, (List.forall_mem_cons.mpr ⟨i_NoKind_NoTerm, (List.forall_mem_cons.mpr ⟨i_NoKind_NoText, (List.forall_mem_cons.mpr ⟨i_NoKind_NoWorth, (List.forall_mem_cons.mpr ⟨i_NoKind_TooMany, (List.forall_mem_cons.mpr ⟨i_NoKind_Unlike, (by simp)⟩)⟩)⟩)⟩)⟩)⟩)⟩)⟩)⟩)⟩)⟩)
    have i_NoLibrary_NoDivisor : Kw.IsxO (L2.KOf KX) mg "NoDivisor" "NoLibrary" (Kz.isx "NoDivisor" "NoLibrary") := by
      unfold L2.KOf
      refine' Kw.isxo_mk (b' := false) KX G ?kz900 ?kz901 ?kz902 ?kz903 ?kz904 ?kz905 ?kz906
      (case kz900 => k_is)
      (case kz901 => k_is)
      (case kz902 => exact (show Kz.isx "NoDivisor" "NoLibrary" = false by decide +kernel))
      (case kz903 => k_is)
      (case kz904 => k_is)
      (case kz905 => k_is)
      (case kz906 => decide)

    have i_NoLibrary_NoForm : Kw.IsxO (L2.KOf KX) mg "NoForm" "NoLibrary" (Kz.isx "NoForm" "NoLibrary") := by
      unfold L2.KOf
      refine' Kw.isxo_mk (b' := false) KX G ?kz920 ?kz921 ?kz922 ?kz923 ?kz924 ?kz925 ?kz926
      (case kz920 => k_is)
      (case kz921 => k_is)
      (case kz922 => exact (show Kz.isx "NoForm" "NoLibrary" = false by decide +kernel))
      (case kz923 => k_is)
      (case kz924 => k_is)
      (case kz925 => k_is)
      (case kz926 => decide)

    have i_NoLibrary_NoKind : Kw.IsxO (L2.KOf KX) mg "NoKind" "NoLibrary" (Kz.isx "NoKind" "NoLibrary") := by
      unfold L2.KOf
      refine' Kw.isxo_mk (b' := false) KX G ?kz940 ?kz941 ?kz942 ?kz943 ?kz944 ?kz945 ?kz946
      (case kz940 => k_is)
      (case kz941 => k_is)
      (case kz942 => exact (show Kz.isx "NoKind" "NoLibrary" = false by decide +kernel))
      (case kz943 => k_is)
      (case kz944 => k_is)
      (case kz945 => k_is)
      (case kz946 => decide)

    have i_NoLibrary_NoLibrary : Kw.IsxO (L2.KOf KX) mg "NoLibrary" "NoLibrary" (Kz.isx "NoLibrary" "NoLibrary") := by
      unfold L2.KOf
      refine' Kw.isxo_mk (b' := true) KX G ?kz960 ?kz961 ?kz962 ?kz963 ?kz964 ?kz965 ?kz966
      (case kz960 => k_is)
      (case kz961 => k_is)
      (case kz962 => exact (show Kz.isx "NoLibrary" "NoLibrary" = true by decide +kernel))
      (case kz963 => k_is)
      (case kz964 => k_is)
      (case kz965 => k_is)
      (case kz966 => decide)

    have i_NoLibrary_NoName : Kw.IsxO (L2.KOf KX) mg "NoName" "NoLibrary" (Kz.isx "NoName" "NoLibrary") := by
      unfold L2.KOf
      refine' Kw.isxo_mk (b' := false) KX G ?kz980 ?kz981 ?kz982 ?kz983 ?kz984 ?kz985 ?kz986
      (case kz980 => k_is)
      (case kz981 => k_is)
      (case kz982 => exact (show Kz.isx "NoName" "NoLibrary" = false by decide +kernel))
      (case kz983 => k_is)
      (case kz984 => k_is)
      (case kz985 => k_is)
      (case kz986 => decide)

    have i_NoLibrary_NoSizes : Kw.IsxO (L2.KOf KX) mg "NoSizes" "NoLibrary" (Kz.isx "NoSizes" "NoLibrary") := by
      unfold L2.KOf
      refine' Kw.isxo_mk (b' := false) KX G ?kz1000 ?kz1001 ?kz1002 ?kz1003 ?kz1004 ?kz1005 ?kz1006
      (case kz1000 => k_is)
      (case kz1001 => k_is)
      (case kz1002 => exact (show Kz.isx "NoSizes" "NoLibrary" = false by decide +kernel))
      (case kz1003 => k_is)
      (case kz1004 => k_is)
      (case kz1005 => k_is)
      (case kz1006 => decide)

    have i_NoLibrary_NoTerm : Kw.IsxO (L2.KOf KX) mg "NoTerm" "NoLibrary" (Kz.isx "NoTerm" "NoLibrary") := by
      unfold L2.KOf
      refine' Kw.isxo_mk (b' := false) KX G ?kz1020 ?kz1021 ?kz1022 ?kz1023 ?kz1024 ?kz1025 ?kz1026
      (case kz1020 => k_is)
      (case kz1021 => k_is)
      (case kz1022 => exact (show Kz.isx "NoTerm" "NoLibrary" = false by decide +kernel))
      (case kz1023 => k_is)
      (case kz1024 => k_is)
      (case kz1025 => k_is)
      (case kz1026 => decide)

    have i_NoLibrary_NoText : Kw.IsxO (L2.KOf KX) mg "NoText" "NoLibrary" (Kz.isx "NoText" "NoLibrary") := by
      unfold L2.KOf
      refine' Kw.isxo_mk (b' := false) KX G ?kz1040 ?kz1041 ?kz1042 ?kz1043 ?kz1044 ?kz1045 ?kz1046
      (case kz1040 => k_is)
      (case kz1041 => k_is)
      (case kz1042 => exact (show Kz.isx "NoText" "NoLibrary" = false by decide +kernel))
      (case kz1043 => k_is)
      (case kz1044 => k_is)
      (case kz1045 => k_is)
      (case kz1046 => decide)

    have i_NoLibrary_NoWorth : Kw.IsxO (L2.KOf KX) mg "NoWorth" "NoLibrary" (Kz.isx "NoWorth" "NoLibrary") := by
      unfold L2.KOf
      refine' Kw.isxo_mk (b' := false) KX G ?kz1060 ?kz1061 ?kz1062 ?kz1063 ?kz1064 ?kz1065 ?kz1066
      (case kz1060 => k_is)
      (case kz1061 => k_is)
      (case kz1062 => exact (show Kz.isx "NoWorth" "NoLibrary" = false by decide +kernel))
      (case kz1063 => k_is)
      (case kz1064 => k_is)
      (case kz1065 => k_is)
      (case kz1066 => decide)

    have i_NoLibrary_TooMany : Kw.IsxO (L2.KOf KX) mg "TooMany" "NoLibrary" (Kz.isx "TooMany" "NoLibrary") := by
      unfold L2.KOf
      refine' Kw.isxo_mk (b' := false) KX G ?kz1080 ?kz1081 ?kz1082 ?kz1083 ?kz1084 ?kz1085 ?kz1086
      (case kz1080 => k_is)
      (case kz1081 => k_is)
      (case kz1082 => exact (show Kz.isx "TooMany" "NoLibrary" = false by decide +kernel))
      (case kz1083 => k_is)
      (case kz1084 => k_is)
      (case kz1085 => k_is)
      (case kz1086 => decide)

    have i_NoLibrary_Unlike : Kw.IsxO (L2.KOf KX) mg "Unlike" "NoLibrary" (Kz.isx "Unlike" "NoLibrary") := by
      unfold L2.KOf
      refine' Kw.isxo_mk (b' := false) KX G ?kz1100 ?kz1101 ?kz1102 ?kz1103 ?kz1104 ?kz1105 ?kz1106
      (case kz1100 => k_is)
      (case kz1101 => k_is)
      (case kz1102 => exact (show Kz.isx "Unlike" "NoLibrary" = false by decide +kernel))
      (case kz1103 => k_is)
      (case kz1104 => k_is)
      (case kz1105 => k_is)
      (case kz1106 => decide)

    have i_NoLibrary : ∀ y ∈ Kz.excs, Kw.IsxO (L2.KOf KX) mg y "NoLibrary" (Kz.isx y "NoLibrary") := (List.forall_mem_cons.mpr ⟨i_NoLibrary_NoDivisor, (List.forall_mem_cons.mpr ⟨i_NoLibrary_NoForm, (List.forall_mem_cons.mpr ⟨i_NoLibrary_NoKind, (List.forall_mem_cons.mpr ⟨i_NoLibrary_NoLibrary, (List.forall_mem_cons.mpr ⟨i_NoLibrary_NoName, (List.forall_mem_cons.mpr ⟨i_NoLibrary_NoSizes, (List.forall_mem_cons.mpr ⟨i_NoLibrary_NoTerm, (List.forall_mem_cons.mpr ⟨i_NoLibrary_NoText, (List.forall_mem_cons.mpr ⟨i_NoLibrary_NoWorth, (List.forall_mem_cons.mpr ⟨i_NoLibrary_TooMany, (List.forall_mem_cons.mpr ⟨i_NoLibrary_Unlike, (by simp)⟩)⟩)⟩)⟩)⟩)⟩)⟩)⟩)⟩)⟩)⟩)
    have i_NoName_NoDivisor : Kw.IsxO (L2.KOf KX) mg "NoDivisor" "NoName" (Kz.isx "NoDivisor" "NoName") := by
      unfold L2.KOf
      refine' Kw.isxo_mk (b' := false) KX G ?kz1120 ?kz1121 ?kz1122 ?kz1123 ?kz1124 ?kz1125 ?kz1126
      (case kz1120 => k_is)
      (case kz1121 => k_is)
      (case kz1122 => exact (show Kz.isx "NoDivisor" "NoName" = false by decide +kernel))
      (case kz1123 => k_is)
      (case kz1124 => k_is)
      (case kz1125 => k_is)
      (case kz1126 => decide)

    have i_NoName_NoForm : Kw.IsxO (L2.KOf KX) mg "NoForm" "NoName" (Kz.isx "NoForm" "NoName") := by
      unfold L2.KOf
      refine' Kw.isxo_mk (b' := false) KX G ?kz1140 ?kz1141 ?kz1142 ?kz1143 ?kz1144 ?kz1145 ?kz1146
      (case kz1140 => k_is)
      (case kz1141 => k_is)
      (case kz1142 => exact (show Kz.isx "NoForm" "NoName" = false by decide +kernel))
      (case kz1143 => k_is)
      (case kz1144 => k_is)
      (case kz1145 => k_is)
      (case kz1146 => decide)

    have i_NoName_NoKind : Kw.IsxO (L2.KOf KX) mg "NoKind" "NoName" (Kz.isx "NoKind" "NoName") := by
      unfold L2.KOf
      refine' Kw.isxo_mk (b' := false) KX G ?kz1160 ?kz1161 ?kz1162 ?kz1163 ?kz1164 ?kz1165 ?kz1166
      (case kz1160 => k_is)
      (case kz1161 => k_is)
      (case kz1162 => exact (show Kz.isx "NoKind" "NoName" = false by decide +kernel))
      (case kz1163 => k_is)
      (case kz1164 => k_is)
      (case kz1165 => k_is)
      (case kz1166 => decide)

    have i_NoName_NoLibrary : Kw.IsxO (L2.KOf KX) mg "NoLibrary" "NoName" (Kz.isx "NoLibrary" "NoName") := by
      unfold L2.KOf
      refine' Kw.isxo_mk (b' := false) KX G ?kz1180 ?kz1181 ?kz1182 ?kz1183 ?kz1184 ?kz1185 ?kz1186
      (case kz1180 => k_is)
      (case kz1181 => k_is)
      (case kz1182 => exact (show Kz.isx "NoLibrary" "NoName" = false by decide +kernel))
      (case kz1183 => k_is)
      (case kz1184 => k_is)
      (case kz1185 => k_is)
      (case kz1186 => decide)

    have i_NoName_NoName : Kw.IsxO (L2.KOf KX) mg "NoName" "NoName" (Kz.isx "NoName" "NoName") := by
      unfold L2.KOf
      refine' Kw.isxo_mk (b' := true) KX G ?kz1200 ?kz1201 ?kz1202 ?kz1203 ?kz1204 ?kz1205 ?kz1206
      (case kz1200 => k_is)
      (case kz1201 => k_is)
      (case kz1202 => exact (show Kz.isx "NoName" "NoName" = true by decide +kernel))
      (case kz1203 => k_is)
      (case kz1204 => k_is)
      (case kz1205 => k_is)
      (case kz1206 => decide)

    have i_NoName_NoSizes : Kw.IsxO (L2.KOf KX) mg "NoSizes" "NoName" (Kz.isx "NoSizes" "NoName") := by
      unfold L2.KOf
      refine' Kw.isxo_mk (b' := false) KX G ?kz1220 ?kz1221 ?kz1222 ?kz1223 ?kz1224 ?kz1225 ?kz1226
      (case kz1220 => k_is)
      (case kz1221 => k_is)
      (case kz1222 => exact (show Kz.isx "NoSizes" "NoName" = false by decide +kernel))
      (case kz1223 => k_is)
      (case kz1224 => k_is)
      (case kz1225 => k_is)
      (case kz1226 => decide)

    have i_NoName_NoTerm : Kw.IsxO (L2.KOf KX) mg "NoTerm" "NoName" (Kz.isx "NoTerm" "NoName") := by
      unfold L2.KOf
      refine' Kw.isxo_mk (b' := false) KX G ?kz1240 ?kz1241 ?kz1242 ?kz1243 ?kz1244 ?kz1245 ?kz1246
      (case kz1240 => k_is)
      (case kz1241 => k_is)
      (case kz1242 => exact (show Kz.isx "NoTerm" "NoName" = false by decide +kernel))
      (case kz1243 => k_is)
      (case kz1244 => k_is)
      (case kz1245 => k_is)
      (case kz1246 => decide)

    have i_NoName_NoText : Kw.IsxO (L2.KOf KX) mg "NoText" "NoName" (Kz.isx "NoText" "NoName") := by
      unfold L2.KOf
      refine' Kw.isxo_mk (b' := false) KX G ?kz1260 ?kz1261 ?kz1262 ?kz1263 ?kz1264 ?kz1265 ?kz1266
      (case kz1260 => k_is)
      (case kz1261 => k_is)
      (case kz1262 => exact (show Kz.isx "NoText" "NoName" = false by decide +kernel))
      (case kz1263 => k_is)
      (case kz1264 => k_is)
      (case kz1265 => k_is)
      (case kz1266 => decide)

    have i_NoName_NoWorth : Kw.IsxO (L2.KOf KX) mg "NoWorth" "NoName" (Kz.isx "NoWorth" "NoName") := by
      unfold L2.KOf
      refine' Kw.isxo_mk (b' := false) KX G ?kz1280 ?kz1281 ?kz1282 ?kz1283 ?kz1284 ?kz1285 ?kz1286
      (case kz1280 => k_is)
      (case kz1281 => k_is)
      (case kz1282 => exact (show Kz.isx "NoWorth" "NoName" = false by decide +kernel))
      (case kz1283 => k_is)
      (case kz1284 => k_is)
      (case kz1285 => k_is)
      (case kz1286 => decide)

    have i_NoName_TooMany : Kw.IsxO (L2.KOf KX) mg "TooMany" "NoName" (Kz.isx "TooMany" "NoName") := by
      unfold L2.KOf
      refine' Kw.isxo_mk (b' := false) KX G ?kz1300 ?kz1301 ?kz1302 ?kz1303 ?kz1304 ?kz1305 ?kz1306
      (case kz1300 => k_is)
      (case kz1301 => k_is)
      (case kz1302 => exact (show Kz.isx "TooMany" "NoName" = false by decide +kernel))
      (case kz1303 => k_is)
      (case kz1304 => k_is)
      (case kz1305 => k_is)
      (case kz1306 => decide)

    have i_NoName_Unlike : Kw.IsxO (L2.KOf KX) mg "Unlike" "NoName" (Kz.isx "Unlike" "NoName") := by
      unfold L2.KOf
      refine' Kw.isxo_mk (b' := false) KX G ?kz1320 ?kz1321 ?kz1322 ?kz1323 ?kz1324 ?kz1325 ?kz1326
      (case kz1320 => k_is)
      (case kz1321 => k_is)
      (case kz1322 => exact (show Kz.isx "Unlike" "NoName" = false by decide +kernel))
      (case kz1323 => k_is)
      (case kz1324 => k_is)
      (case kz1325 => k_is)
      (case kz1326 => decide)

    have i_NoName : ∀ y ∈ Kz.excs, Kw.IsxO (L2.KOf KX) mg y "NoName" (Kz.isx y "NoName") := (List.forall_mem_cons.mpr ⟨i_NoName_NoDivisor, (List.forall_mem_cons.mpr ⟨i_NoName_NoForm, (List.forall_mem_cons.mpr ⟨i_NoName_NoKind, (List.forall_mem_cons.mpr ⟨i_NoName_NoLibrary, (List.forall_mem_cons.mpr ⟨i_NoName_NoName, (List.forall_mem_cons.mpr ⟨i_NoName_NoSizes, (List.forall_mem_cons.mpr ⟨i_NoName_NoTerm, (List.forall_mem_cons.mpr ⟨i_NoName_NoText, (List.forall_mem_cons.mpr ⟨i_NoName_NoWorth, (List.forall_mem_cons.mpr ⟨i_NoName_TooMany, (List.forall_mem_cons.mpr ⟨i_NoName_Unlike, (by simp)⟩)⟩)⟩)⟩)⟩)⟩)⟩)⟩)⟩)⟩)⟩)
    have i_NoSizes_NoDivisor : Kw.IsxO (L2.KOf KX) mg "NoDivisor" "NoSizes" (Kz.isx "NoDivisor" "NoSizes") := by
      unfold L2.KOf
      refine' Kw.isxo_mk (b' := false) KX G ?kz1340 ?kz1341 ?kz1342 ?kz1343 ?kz1344 ?kz1345 ?kz1346
      (case kz1340 => k_is)
      (case kz1341 => k_is)
      (case kz1342 => exact (show Kz.isx "NoDivisor" "NoSizes" = false by decide +kernel))
      (case kz1343 => k_is)
      (case kz1344 => k_is)
      (case kz1345 => k_is)
      (case kz1346 => decide)

    have i_NoSizes_NoForm : Kw.IsxO (L2.KOf KX) mg "NoForm" "NoSizes" (Kz.isx "NoForm" "NoSizes") := by
      unfold L2.KOf
      refine' Kw.isxo_mk (b' := false) KX G ?kz1360 ?kz1361 ?kz1362 ?kz1363 ?kz1364 ?kz1365 ?kz1366
      (case kz1360 => k_is)
      (case kz1361 => k_is)
      (case kz1362 => exact (show Kz.isx "NoForm" "NoSizes" = false by decide +kernel))
      (case kz1363 => k_is)
      (case kz1364 => k_is)
      (case kz1365 => k_is)
      (case kz1366 => decide)

    have i_NoSizes_NoKind : Kw.IsxO (L2.KOf KX) mg "NoKind" "NoSizes" (Kz.isx "NoKind" "NoSizes") := by
      unfold L2.KOf
      refine' Kw.isxo_mk (b' := false) KX G ?kz1380 ?kz1381 ?kz1382 ?kz1383 ?kz1384 ?kz1385 ?kz1386
      (case kz1380 => k_is)
      (case kz1381 => k_is)
      (case kz1382 => exact (show Kz.isx "NoKind" "NoSizes" = false by decide +kernel))
      (case kz1383 => k_is)
      (case kz1384 => k_is)
      (case kz1385 => k_is)
      (case kz1386 => decide)

    have i_NoSizes_NoLibrary : Kw.IsxO (L2.KOf KX) mg "NoLibrary" "NoSizes" (Kz.isx "NoLibrary" "NoSizes") := by
      unfold L2.KOf
      refine' Kw.isxo_mk (b' := false) KX G ?kz1400 ?kz1401 ?kz1402 ?kz1403 ?kz1404 ?kz1405 ?kz1406
      (case kz1400 => k_is)
      (case kz1401 => k_is)
      (case kz1402 => exact (show Kz.isx "NoLibrary" "NoSizes" = false by decide +kernel))
      (case kz1403 => k_is)
      (case kz1404 => k_is)
      (case kz1405 => k_is)
      (case kz1406 => decide)

    have i_NoSizes_NoName : Kw.IsxO (L2.KOf KX) mg "NoName" "NoSizes" (Kz.isx "NoName" "NoSizes") := by
      unfold L2.KOf
      refine' Kw.isxo_mk (b' := false) KX G ?kz1420 ?kz1421 ?kz1422 ?kz1423 ?kz1424 ?kz1425 ?kz1426
      (case kz1420 => k_is)
      (case kz1421 => k_is)
      (case kz1422 => exact (show Kz.isx "NoName" "NoSizes" = false by decide +kernel))
      (case kz1423 => k_is)
      (case kz1424 => k_is)
      (case kz1425 => k_is)
      (case kz1426 => decide)

    have i_NoSizes_NoSizes : Kw.IsxO (L2.KOf KX) mg "NoSizes" "NoSizes" (Kz.isx "NoSizes" "NoSizes") := by
      unfold L2.KOf
      refine' Kw.isxo_mk (b' := true) KX G ?kz1440 ?kz1441 ?kz1442 ?kz1443 ?kz1444 ?kz1445 ?kz1446
      (case kz1440 => k_is)
      (case kz1441 => k_is)
      (case kz1442 => exact (show Kz.isx "NoSizes" "NoSizes" = true by decide +kernel))
      (case kz1443 => k_is)
      (case kz1444 => k_is)
      (case kz1445 => k_is)
      (case kz1446 => decide)

    have i_NoSizes_NoTerm : Kw.IsxO (L2.KOf KX) mg "NoTerm" "NoSizes" (Kz.isx "NoTerm" "NoSizes") := by
      unfold L2.KOf
      refine' Kw.isxo_mk (b' := false) KX G ?kz1460 ?kz1461 ?kz1462 ?kz1463 ?kz1464 ?kz1465 ?kz1466
      (case kz1460 => k_is)
      (case kz1461 => k_is)
      (case kz1462 => exact (show Kz.isx "NoTerm" "NoSizes" = false by decide +kernel))
      (case kz1463 => k_is)
      (case kz1464 => k_is)
      (case kz1465 => k_is)
      (case kz1466 => decide)

    have i_NoSizes_NoText : Kw.IsxO (L2.KOf KX) mg "NoText" "NoSizes" (Kz.isx "NoText" "NoSizes") := by
      unfold L2.KOf
      refine' Kw.isxo_mk (b' := false) KX G ?kz1480 ?kz1481 ?kz1482 ?kz1483 ?kz1484 ?kz1485 ?kz1486
      (case kz1480 => k_is)
      (case kz1481 => k_is)
      (case kz1482 => exact (show Kz.isx "NoText" "NoSizes" = false by decide +kernel))
      (case kz1483 => k_is)
      (case kz1484 => k_is)
      (case kz1485 => k_is)
      (case kz1486 => decide)

    have i_NoSizes_NoWorth : Kw.IsxO (L2.KOf KX) mg "NoWorth" "NoSizes" (Kz.isx "NoWorth" "NoSizes") := by
      unfold L2.KOf
      refine' Kw.isxo_mk (b' := false) KX G ?kz1500 ?kz1501 ?kz1502 ?kz1503 ?kz1504 ?kz1505 ?kz1506
      (case kz1500 => k_is)
      (case kz1501 => k_is)
      (case kz1502 => exact (show Kz.isx "NoWorth" "NoSizes" = false by decide +kernel))
      (case kz1503 => k_is)
      (case kz1504 => k_is)
      (case kz1505 => k_is)
      (case kz1506 => decide)

    have i_NoSizes_TooMany : Kw.IsxO (L2.KOf KX) mg "TooMany" "NoSizes" (Kz.isx "TooMany" "NoSizes") := by
      unfold L2.KOf
      refine' Kw.isxo_mk (b' := false) KX G ?kz1520 ?kz1521 ?kz1522 ?kz1523 ?kz1524 ?kz1525 ?kz1526
      (case kz1520 => k_is)
      (case kz1521 => k_is)
      (case kz1522 => exact (show Kz.isx "TooMany" "NoSizes" = false by decide +kernel))
      (case kz1523 => k_is)
      (case kz1524 => k_is)
      (case kz1525 => k_is)
      (case kz1526 => decide)

    have i_NoSizes_Unlike : Kw.IsxO (L2.KOf KX) mg "Unlike" "NoSizes" (Kz.isx "Unlike" "NoSizes") := by
      unfold L2.KOf
      refine' Kw.isxo_mk (b' := false) KX G ?kz1540 ?kz1541 ?kz1542 ?kz1543 ?kz1544 ?kz1545 ?kz1546
      (case kz1540 => k_is)
      (case kz1541 => k_is)
      (case kz1542 => exact (show Kz.isx "Unlike" "NoSizes" = false by decide +kernel))
      (case kz1543 => k_is)
      (case kz1544 => k_is)
      (case kz1545 => k_is)
      (case kz1546 => decide)

    have i_NoSizes : ∀ y ∈ Kz.excs, Kw.IsxO (L2.KOf KX) mg y "NoSizes" (Kz.isx y "NoSizes") := (List.forall_mem_cons.mpr ⟨i_NoSizes_NoDivisor, (List.forall_mem_cons.mpr ⟨i_NoSizes_NoForm, (List.forall_mem_cons.mpr ⟨i_NoSizes_NoKind, (List.forall_mem_cons.mpr ⟨i_NoSizes_NoLibrary, (List.forall_mem_cons.mpr ⟨i_NoSizes_NoName, (List.forall_mem_cons.mpr ⟨i_NoSizes_NoSizes, (List.forall_mem_cons.mpr ⟨i_NoSizes_NoTerm, (List.forall_mem_cons.mpr ⟨i_NoSizes_NoText, (List.forall_mem_cons.mpr ⟨i_NoSizes_NoWorth, (List.forall_mem_cons.mpr ⟨i_NoSizes_TooMany, (List.forall_mem_cons.mpr ⟨i_NoSizes_Unlike, (by simp)⟩)⟩)⟩)⟩)⟩)⟩)⟩)⟩)⟩)⟩)⟩)
    have i_NoTerm_NoDivisor : Kw.IsxO (L2.KOf KX) mg "NoDivisor" "NoTerm" (Kz.isx "NoDivisor" "NoTerm") := by
      unfold L2.KOf
      refine' Kw.isxo_mk (b' := false) KX G ?kz1560 ?kz1561 ?kz1562 ?kz1563 ?kz1564 ?kz1565 ?kz1566
      (case kz1560 => k_is)
      (case kz1561 => k_is)
      (case kz1562 => exact (show Kz.isx "NoDivisor" "NoTerm" = false by decide +kernel))
      (case kz1563 => k_is)
      (case kz1564 => k_is)
      (case kz1565 => k_is)
      (case kz1566 => decide)

    have i_NoTerm_NoForm : Kw.IsxO (L2.KOf KX) mg "NoForm" "NoTerm" (Kz.isx "NoForm" "NoTerm") := by
      unfold L2.KOf
      refine' Kw.isxo_mk (b' := false) KX G ?kz1580 ?kz1581 ?kz1582 ?kz1583 ?kz1584 ?kz1585 ?kz1586
      (case kz1580 => k_is)
      (case kz1581 => k_is)
      (case kz1582 => exact (show Kz.isx "NoForm" "NoTerm" = false by decide +kernel))
      (case kz1583 => k_is)
      (case kz1584 => k_is)
      (case kz1585 => k_is)
      (case kz1586 => decide)

    have i_NoTerm_NoKind : Kw.IsxO (L2.KOf KX) mg "NoKind" "NoTerm" (Kz.isx "NoKind" "NoTerm") := by
      unfold L2.KOf
      refine' Kw.isxo_mk (b' := false) KX G ?kz1600 ?kz1601 ?kz1602 ?kz1603 ?kz1604 ?kz1605 ?kz1606
      (case kz1600 => k_is)
      (case kz1601 => k_is)
      (case kz1602 => exact (show Kz.isx "NoKind" "NoTerm" = false by decide +kernel))
      (case kz1603 => k_is)
      (case kz1604 => k_is)
      (case kz1605 => k_is)
      (case kz1606 => decide)

    have i_NoTerm_NoLibrary : Kw.IsxO (L2.KOf KX) mg "NoLibrary" "NoTerm" (Kz.isx "NoLibrary" "NoTerm") := by
      unfold L2.KOf
      refine' Kw.isxo_mk (b' := false) KX G ?kz1620 ?kz1621 ?kz1622 ?kz1623 ?kz1624 ?kz1625 ?kz1626
      (case kz1620 => k_is)
      (case kz1621 => k_is)
      (case kz1622 => exact (show Kz.isx "NoLibrary" "NoTerm" = false by decide +kernel))
      (case kz1623 => k_is)
      (case kz1624 => k_is)
      (case kz1625 => k_is)
      (case kz1626 => decide)

    have i_NoTerm_NoName : Kw.IsxO (L2.KOf KX) mg "NoName" "NoTerm" (Kz.isx "NoName" "NoTerm") := by
      unfold L2.KOf
      refine' Kw.isxo_mk (b' := false) KX G ?kz1640 ?kz1641 ?kz1642 ?kz1643 ?kz1644 ?kz1645 ?kz1646
      (case kz1640 => k_is)
      (case kz1641 => k_is)
      (case kz1642 => exact (show Kz.isx "NoName" "NoTerm" = false by decide +kernel))
      (case kz1643 => k_is)
      (case kz1644 => k_is)
      (case kz1645 => k_is)
      (case kz1646 => decide)

    have i_NoTerm_NoSizes : Kw.IsxO (L2.KOf KX) mg "NoSizes" "NoTerm" (Kz.isx "NoSizes" "NoTerm") := by
      unfold L2.KOf
      refine' Kw.isxo_mk (b' := false) KX G ?kz1660 ?kz1661 ?kz1662 ?kz1663 ?kz1664 ?kz1665 ?kz1666
      (case kz1660 => k_is)
      (case kz1661 => k_is)
      (case kz1662 => exact (show Kz.isx "NoSizes" "NoTerm" = false by decide +kernel))
      (case kz1663 => k_is)
      (case kz1664 => k_is)
      (case kz1665 => k_is)
      (case kz1666 => decide)

    have i_NoTerm_NoTerm : Kw.IsxO (L2.KOf KX) mg "NoTerm" "NoTerm" (Kz.isx "NoTerm" "NoTerm") := by
      unfold L2.KOf
      refine' Kw.isxo_mk (b' := true) KX G ?kz1680 ?kz1681 ?kz1682 ?kz1683 ?kz1684 ?kz1685 ?kz1686
      (case kz1680 => k_is)
      (case kz1681 => k_is)
      (case kz1682 => exact (show Kz.isx "NoTerm" "NoTerm" = true by decide +kernel))
      (case kz1683 => k_is)
      (case kz1684 => k_is)
      (case kz1685 => k_is)
      (case kz1686 => decide)

    have i_NoTerm_NoText : Kw.IsxO (L2.KOf KX) mg "NoText" "NoTerm" (Kz.isx "NoText" "NoTerm") := by
      unfold L2.KOf
      refine' Kw.isxo_mk (b' := false) KX G ?kz1700 ?kz1701 ?kz1702 ?kz1703 ?kz1704 ?kz1705 ?kz1706
      (case kz1700 => k_is)
      (case kz1701 => k_is)
      (case kz1702 => exact (show Kz.isx "NoText" "NoTerm" = false by decide +kernel))
      (case kz1703 => k_is)
      (case kz1704 => k_is)
      (case kz1705 => k_is)
      (case kz1706 => decide)

    have i_NoTerm_NoWorth : Kw.IsxO (L2.KOf KX) mg "NoWorth" "NoTerm" (Kz.isx "NoWorth" "NoTerm") := by
      unfold L2.KOf
      refine' Kw.isxo_mk (b' := false) KX G ?kz1720 ?kz1721 ?kz1722 ?kz1723 ?kz1724 ?kz1725 ?kz1726
      (case kz1720 => k_is)
      (case kz1721 => k_is)
      (case kz1722 => exact (show Kz.isx "NoWorth" "NoTerm" = false by decide +kernel))
      (case kz1723 => k_is)
      (case kz1724 => k_is)
      (case kz1725 => k_is)
      (case kz1726 => decide)

    have i_NoTerm_TooMany : Kw.IsxO (L2.KOf KX) mg "TooMany" "NoTerm" (Kz.isx "TooMany" "NoTerm") := by
      unfold L2.KOf
      refine' Kw.isxo_mk (b' := false) KX G ?kz1740 ?kz1741 ?kz1742 ?kz1743 ?kz1744 ?kz1745 ?kz1746
      (case kz1740 => k_is)
      (case kz1741 => k_is)
      (case kz1742 => exact (show Kz.isx "TooMany" "NoTerm" = false by decide +kernel))
      (case kz1743 => k_is)
      (case kz1744 => k_is)
      (case kz1745 => k_is)
      (case kz1746 => decide)

    have i_NoTerm_Unlike : Kw.IsxO (L2.KOf KX) mg "Unlike" "NoTerm" (Kz.isx "Unlike" "NoTerm") := by
      unfold L2.KOf
      refine' Kw.isxo_mk (b' := false) KX G ?kz1760 ?kz1761 ?kz1762 ?kz1763 ?kz1764 ?kz1765 ?kz1766
      (case kz1760 => k_is)
      (case kz1761 => k_is)
      (case kz1762 => exact (show Kz.isx "Unlike" "NoTerm" = false by decide +kernel))
      (case kz1763 => k_is)
      (case kz1764 => k_is)
      (case kz1765 => k_is)
      (case kz1766 => decide)

    have i_NoTerm : ∀ y ∈ Kz.excs, Kw.IsxO (L2.KOf KX) mg y "NoTerm" (Kz.isx y "NoTerm") := (List.forall_mem_cons.mpr ⟨i_NoTerm_NoDivisor, (List.forall_mem_cons.mpr ⟨i_NoTerm_NoForm, (List.forall_mem_cons.mpr ⟨i_NoTerm_NoKind, (List.forall_mem_cons.mpr ⟨i_NoTerm_NoLibrary, (List.forall_mem_cons.mpr ⟨i_NoTerm_NoName, (List.forall_mem_cons.mpr ⟨i_NoTerm_NoSizes, (List.forall_mem_cons.mpr ⟨i_NoTerm_NoTerm, (List.forall_mem_cons.mpr ⟨i_NoTerm_NoText, (List.forall_mem_cons.mpr ⟨i_NoTerm_NoWorth, (List.forall_mem_cons.mpr ⟨i_NoTerm_TooMany, (List.forall_mem_cons.mpr ⟨i_NoTerm_Unlike, (by simp)⟩)⟩)⟩)⟩)⟩)⟩)⟩)⟩)⟩)⟩)⟩)
    have i_NoText_NoDivisor : Kw.IsxO (L2.KOf KX) mg "NoDivisor" "NoText" (Kz.isx "NoDivisor" "NoText") := by
      unfold L2.KOf
      refine' Kw.isxo_mk (b' := false) KX G ?kz1780 ?kz1781 ?kz1782 ?kz1783 ?kz1784 ?kz1785 ?kz1786
      (case kz1780 => k_is)
      (case kz1781 => k_is)
      (case kz1782 => exact (show Kz.isx "NoDivisor" "NoText" = false by decide +kernel))
      (case kz1783 => k_is)
      (case kz1784 => k_is)
      (case kz1785 => k_is)
      (case kz1786 => decide)

    have i_NoText_NoForm : Kw.IsxO (L2.KOf KX) mg "NoForm" "NoText" (Kz.isx "NoForm" "NoText") := by
      unfold L2.KOf
      refine' Kw.isxo_mk (b' := false) KX G ?kz1800 ?kz1801 ?kz1802 ?kz1803 ?kz1804 ?kz1805 ?kz1806
      (case kz1800 => k_is)
      (case kz1801 => k_is)
      (case kz1802 => exact (show Kz.isx "NoForm" "NoText" = false by decide +kernel))
      (case kz1803 => k_is)
      (case kz1804 => k_is)
      (case kz1805 => k_is)
      (case kz1806 => decide)

    have i_NoText_NoKind : Kw.IsxO (L2.KOf KX) mg "NoKind" "NoText" (Kz.isx "NoKind" "NoText") := by
      unfold L2.KOf
      refine' Kw.isxo_mk (b' := false) KX G ?kz1820 ?kz1821 ?kz1822 ?kz1823 ?kz1824 ?kz1825 ?kz1826
      (case kz1820 => k_is)
      (case kz1821 => k_is)
      (case kz1822 => exact (show Kz.isx "NoKind" "NoText" = false by decide +kernel))
      (case kz1823 => k_is)
      (case kz1824 => k_is)
      (case kz1825 => k_is)
      (case kz1826 => decide)

    have i_NoText_NoLibrary : Kw.IsxO (L2.KOf KX) mg "NoLibrary" "NoText" (Kz.isx "NoLibrary" "NoText") := by
      unfold L2.KOf
      refine' Kw.isxo_mk (b' := false) KX G ?kz1840 ?kz1841 ?kz1842 ?kz1843 ?kz1844 ?kz1845 ?kz1846
      (case kz1840 => k_is)
      (case kz1841 => k_is)
      (case kz1842 => exact (show Kz.isx "NoLibrary" "NoText" = false by decide +kernel))
      (case kz1843 => k_is)
      (case kz1844 => k_is)
      (case kz1845 => k_is)
      (case kz1846 => decide)

    have i_NoText_NoName : Kw.IsxO (L2.KOf KX) mg "NoName" "NoText" (Kz.isx "NoName" "NoText") := by
      unfold L2.KOf
      refine' Kw.isxo_mk (b' := false) KX G ?kz1860 ?kz1861 ?kz1862 ?kz1863 ?kz1864 ?kz1865 ?kz1866
      (case kz1860 => k_is)
      (case kz1861 => k_is)
      (case kz1862 => exact (show Kz.isx "NoName" "NoText" = false by decide +kernel))
      (case kz1863 => k_is)
      (case kz1864 => k_is)
      (case kz1865 => k_is)
      (case kz1866 => decide)

    have i_NoText_NoSizes : Kw.IsxO (L2.KOf KX) mg "NoSizes" "NoText" (Kz.isx "NoSizes" "NoText") := by
      unfold L2.KOf
      refine' Kw.isxo_mk (b' := false) KX G ?kz1880 ?kz1881 ?kz1882 ?kz1883 ?kz1884 ?kz1885 ?kz1886
      (case kz1880 => k_is)
      (case kz1881 => k_is)
      (case kz1882 => exact (show Kz.isx "NoSizes" "NoText" = false by decide +kernel))
      (case kz1883 => k_is)
      (case kz1884 => k_is)
      (case kz1885 => k_is)
      (case kz1886 => decide)

    have i_NoText_NoTerm : Kw.IsxO (L2.KOf KX) mg "NoTerm" "NoText" (Kz.isx "NoTerm" "NoText") := by
      unfold L2.KOf
      refine' Kw.isxo_mk (b' := false) KX G ?kz1900 ?kz1901 ?kz1902 ?kz1903 ?kz1904 ?kz1905 ?kz1906
      (case kz1900 => k_is)
      (case kz1901 => k_is)
      (case kz1902 => exact (show Kz.isx "NoTerm" "NoText" = false by decide +kernel))
      (case kz1903 => k_is)
      (case kz1904 => k_is)
      (case kz1905 => k_is)
      (case kz1906 => decide)

    have i_NoText_NoText : Kw.IsxO (L2.KOf KX) mg "NoText" "NoText" (Kz.isx "NoText" "NoText") := by
      unfold L2.KOf
      refine' Kw.isxo_mk (b' := true) KX G ?kz1920 ?kz1921 ?kz1922 ?kz1923 ?kz1924 ?kz1925 ?kz1926
      (case kz1920 => k_is)
      (case kz1921 => k_is)
      (case kz1922 => exact (show Kz.isx "NoText" "NoText" = true by decide +kernel))
      (case kz1923 => k_is)
      (case kz1924 => k_is)
      (case kz1925 => k_is)
      (case kz1926 => decide)

    have i_NoText_NoWorth : Kw.IsxO (L2.KOf KX) mg "NoWorth" "NoText" (Kz.isx "NoWorth" "NoText") := by
      unfold L2.KOf
      refine' Kw.isxo_mk (b' := false) KX G ?kz1940 ?kz1941 ?kz1942 ?kz1943 ?kz1944 ?kz1945 ?kz1946
      (case kz1940 => k_is)
      (case kz1941 => k_is)
      (case kz1942 => exact (show Kz.isx "NoWorth" "NoText" = false by decide +kernel))
      (case kz1943 => k_is)
      (case kz1944 => k_is)
      (case kz1945 => k_is)
      (case kz1946 => decide)

    have i_NoText_TooMany : Kw.IsxO (L2.KOf KX) mg "TooMany" "NoText" (Kz.isx "TooMany" "NoText") := by
      unfold L2.KOf
      refine' Kw.isxo_mk (b' := false) KX G ?kz1960 ?kz1961 ?kz1962 ?kz1963 ?kz1964 ?kz1965 ?kz1966
      (case kz1960 => k_is)
      (case kz1961 => k_is)
      (case kz1962 => exact (show Kz.isx "TooMany" "NoText" = false by decide +kernel))
      (case kz1963 => k_is)
      (case kz1964 => k_is)
      (case kz1965 => k_is)
      (case kz1966 => decide)

    have i_NoText_Unlike : Kw.IsxO (L2.KOf KX) mg "Unlike" "NoText" (Kz.isx "Unlike" "NoText") := by
      unfold L2.KOf
      refine' Kw.isxo_mk (b' := false) KX G ?kz1980 ?kz1981 ?kz1982 ?kz1983 ?kz1984 ?kz1985 ?kz1986
      (case kz1980 => k_is)
      (case kz1981 => k_is)
      (case kz1982 => exact (show Kz.isx "Unlike" "NoText" = false by decide +kernel))
      (case kz1983 => k_is)
      (case kz1984 => k_is)
      (case kz1985 => k_is)
      (case kz1986 => decide)

    have i_NoText : ∀ y ∈ Kz.excs, Kw.IsxO (L2.KOf KX) mg y "NoText" (Kz.isx y "NoText") := (List.forall_mem_cons.mpr ⟨i_NoText_NoDivisor, (List.forall_mem_cons.mpr ⟨i_NoText_NoForm, (List.forall_mem_cons.mpr ⟨i_NoText_NoKind, (List.forall_mem_cons.mpr ⟨i_NoText_NoLibrary, (List.forall_mem_cons.mpr ⟨i_NoText_NoName, (List.forall_mem_cons.mpr ⟨i_NoText_NoSizes, (List.forall_mem_cons.mpr ⟨i_NoText_NoTerm, (List.forall_mem_cons.mpr ⟨i_NoText_NoText, (List.forall_mem_cons.mpr ⟨i_NoText_NoWorth, (List.forall_mem_cons.mpr ⟨i_NoText_TooMany, (List.forall_mem_cons.mpr ⟨i_NoText_Unlike, (by simp)⟩)⟩)⟩)⟩)⟩)⟩)⟩)⟩)⟩)⟩)⟩)
    have i_NoWorth_NoDivisor : Kw.IsxO (L2.KOf KX) mg "NoDivisor" "NoWorth" (Kz.isx "NoDivisor" "NoWorth") := by
      unfold L2.KOf
      refine' Kw.isxo_mk (b' := false) KX G ?kz2000 ?kz2001 ?kz2002 ?kz2003 ?kz2004 ?kz2005 ?kz2006
      (case kz2000 => k_is)
      (case kz2001 => k_is)
      (case kz2002 => exact (show Kz.isx "NoDivisor" "NoWorth" = false by decide +kernel))
      (case kz2003 => k_is)
      (case kz2004 => k_is)
      (case kz2005 => k_is)
      (case kz2006 => decide)

    have i_NoWorth_NoForm : Kw.IsxO (L2.KOf KX) mg "NoForm" "NoWorth" (Kz.isx "NoForm" "NoWorth") := by
      unfold L2.KOf
      refine' Kw.isxo_mk (b' := false) KX G ?kz2020 ?kz2021 ?kz2022 ?kz2023 ?kz2024 ?kz2025 ?kz2026
      (case kz2020 => k_is)
      (case kz2021 => k_is)
      (case kz2022 => exact (show Kz.isx "NoForm" "NoWorth" = false by decide +kernel))
      (case kz2023 => k_is)
      (case kz2024 => k_is)
      (case kz2025 => k_is)
      (case kz2026 => decide)

    have i_NoWorth_NoKind : Kw.IsxO (L2.KOf KX) mg "NoKind" "NoWorth" (Kz.isx "NoKind" "NoWorth") := by
      unfold L2.KOf
      refine' Kw.isxo_mk (b' := false) KX G ?kz2040 ?kz2041 ?kz2042 ?kz2043 ?kz2044 ?kz2045 ?kz2046
      (case kz2040 => k_is)
      (case kz2041 => k_is)
      (case kz2042 => exact (show Kz.isx "NoKind" "NoWorth" = false by decide +kernel))
      (case kz2043 => k_is)
      (case kz2044 => k_is)
      (case kz2045 => k_is)
      (case kz2046 => decide)

    have i_NoWorth_NoLibrary : Kw.IsxO (L2.KOf KX) mg "NoLibrary" "NoWorth" (Kz.isx "NoLibrary" "NoWorth") := by
      unfold L2.KOf
      refine' Kw.isxo_mk (b' := false) KX G ?kz2060 ?kz2061 ?kz2062 ?kz2063 ?kz2064 ?kz2065 ?kz2066
      (case kz2060 => k_is)
      (case kz2061 => k_is)
      (case kz2062 => exact (show Kz.isx "NoLibrary" "NoWorth" = false by decide +kernel))
      (case kz2063 => k_is)
      (case kz2064 => k_is)
      (case kz2065 => k_is)
      (case kz2066 => decide)

    have i_NoWorth_NoName : Kw.IsxO (L2.KOf KX) mg "NoName" "NoWorth" (Kz.isx "NoName" "NoWorth") := by
      unfold L2.KOf
      refine' Kw.isxo_mk (b' := false) KX G ?kz2080 ?kz2081 ?kz2082 ?kz2083 ?kz2084 ?kz2085 ?kz2086
      (case kz2080 => k_is)
      (case kz2081 => k_is)
      (case kz2082 => exact (show Kz.isx "NoName" "NoWorth" = false by decide +kernel))
      (case kz2083 => k_is)
      (case kz2084 => k_is)
      (case kz2085 => k_is)
      (case kz2086 => decide)

    have i_NoWorth_NoSizes : Kw.IsxO (L2.KOf KX) mg "NoSizes" "NoWorth" (Kz.isx "NoSizes" "NoWorth") := by
      unfold L2.KOf
      refine' Kw.isxo_mk (b' := false) KX G ?kz2100 ?kz2101 ?kz2102 ?kz2103 ?kz2104 ?kz2105 ?kz2106
      (case kz2100 => k_is)
      (case kz2101 => k_is)
      (case kz2102 => exact (show Kz.isx "NoSizes" "NoWorth" = false by decide +kernel))
      (case kz2103 => k_is)
      (case kz2104 => k_is)
      (case kz2105 => k_is)
      (case kz2106 => decide)

    have i_NoWorth_NoTerm : Kw.IsxO (L2.KOf KX) mg "NoTerm" "NoWorth" (Kz.isx "NoTerm" "NoWorth") := by
      unfold L2.KOf
      refine' Kw.isxo_mk (b' := false) KX G ?kz2120 ?kz2121 ?kz2122 ?kz2123 ?kz2124 ?kz2125 ?kz2126
      (case kz2120 => k_is)
      (case kz2121 => k_is)
      (case kz2122 => exact (show Kz.isx "NoTerm" "NoWorth" = false by decide +kernel))
      (case kz2123 => k_is)
      (case kz2124 => k_is)
      (case kz2125 => k_is)
      (case kz2126 => decide)

    have i_NoWorth_NoText : Kw.IsxO (L2.KOf KX) mg "NoText" "NoWorth" (Kz.isx "NoText" "NoWorth") := by
      unfold L2.KOf
      refine' Kw.isxo_mk (b' := false) KX G ?kz2140 ?kz2141 ?kz2142 ?kz2143 ?kz2144 ?kz2145 ?kz2146
      (case kz2140 => k_is)
      (case kz2141 => k_is)
      (case kz2142 => exact (show Kz.isx "NoText" "NoWorth" = false by decide +kernel))
      (case kz2143 => k_is)
      (case kz2144 => k_is)
      (case kz2145 => k_is)
      (case kz2146 => decide)

    have i_NoWorth_NoWorth : Kw.IsxO (L2.KOf KX) mg "NoWorth" "NoWorth" (Kz.isx "NoWorth" "NoWorth") := by
      unfold L2.KOf
      refine' Kw.isxo_mk (b' := true) KX G ?kz2160 ?kz2161 ?kz2162 ?kz2163 ?kz2164 ?kz2165 ?kz2166
      (case kz2160 => k_is)
      (case kz2161 => k_is)
      (case kz2162 => exact (show Kz.isx "NoWorth" "NoWorth" = true by decide +kernel))
      (case kz2163 => k_is)
      (case kz2164 => k_is)
      (case kz2165 => k_is)
      (case kz2166 => decide)

    have i_NoWorth_TooMany : Kw.IsxO (L2.KOf KX) mg "TooMany" "NoWorth" (Kz.isx "TooMany" "NoWorth") := by
      unfold L2.KOf
      refine' Kw.isxo_mk (b' := false) KX G ?kz2180 ?kz2181 ?kz2182 ?kz2183 ?kz2184 ?kz2185 ?kz2186
      (case kz2180 => k_is)
      (case kz2181 => k_is)
      (case kz2182 => exact (show Kz.isx "TooMany" "NoWorth" = false by decide +kernel))
      (case kz2183 => k_is)
      (case kz2184 => k_is)
      (case kz2185 => k_is)
      (case kz2186 => decide)

    have i_NoWorth_Unlike : Kw.IsxO (L2.KOf KX) mg "Unlike" "NoWorth" (Kz.isx "Unlike" "NoWorth") := by
      unfold L2.KOf
      refine' Kw.isxo_mk (b' := false) KX G ?kz2200 ?kz2201 ?kz2202 ?kz2203 ?kz2204 ?kz2205 ?kz2206
      (case kz2200 => k_is)
      (case kz2201 => k_is)
      (case kz2202 => exact (show Kz.isx "Unlike" "NoWorth" = false by decide +kernel))
      (case kz2203 => k_is)
      (case kz2204 => k_is)
      (case kz2205 => k_is)
      (case kz2206 => decide)

    have i_NoWorth : ∀ y ∈ Kz.excs, Kw.IsxO (L2.KOf KX) mg y "NoWorth" (Kz.isx y "NoWorth") := (List.forall_mem_cons.mpr ⟨i_NoWorth_NoDivisor, (List.forall_mem_cons.mpr ⟨i_NoWorth_NoForm, (List.forall_mem_cons.mpr ⟨i_NoWorth_NoKind, (List.forall_mem_cons.mpr ⟨i_NoWorth_NoLibrary, (List.forall_mem_cons.mpr ⟨i_NoWorth_NoName, (List.forall_mem_cons.mpr ⟨i_NoWorth_NoSizes, (List.forall_mem_cons.mpr ⟨i_NoWorth_NoTerm, (List.forall_mem_cons.mpr ⟨i_NoWorth_NoText, (List.forall_mem_cons.mpr ⟨i_NoWorth_NoWorth, (List.forall_mem_cons.mpr ⟨i_NoWorth_TooMany, (List.forall_mem_cons.mpr ⟨i_NoWorth_Unlike, (by simp)⟩)⟩)⟩)⟩)⟩)⟩)⟩)⟩)⟩)⟩)⟩)
    have i_SwapError_NoDivisor : Kw.IsxO (L2.KOf KX) mg "NoDivisor" "SwapError" (Kz.isx "NoDivisor" "SwapError") := by
      unfold L2.KOf
      refine' Kw.isxo_mk (b' := true) KX G ?kz2220 ?kz2221 ?kz2222 ?kz2223 ?kz2224 ?kz2225 ?kz2226
      (case kz2220 => k_is)
      (case kz2221 => k_is)
      (case kz2222 => exact (show Kz.isx "NoDivisor" "SwapError" = true by decide +kernel))
      (case kz2223 => k_is)
      (case kz2224 => k_is)
      (case kz2225 => k_is)
      (case kz2226 => decide)

    have i_SwapError_NoForm : Kw.IsxO (L2.KOf KX) mg "NoForm" "SwapError" (Kz.isx "NoForm" "SwapError") := by
      unfold L2.KOf
      refine' Kw.isxo_mk (b' := true) KX G ?kz2240 ?kz2241 ?kz2242 ?kz2243 ?kz2244 ?kz2245 ?kz2246
      (case kz2240 => k_is)
      (case kz2241 => k_is)
      (case kz2242 => exact (show Kz.isx "NoForm" "SwapError" = true by decide +kernel))
      (case kz2243 => k_is)
      (case kz2244 => k_is)
      (case kz2245 => k_is)
      (case kz2246 => decide)

    have i_SwapError_NoKind : Kw.IsxO (L2.KOf KX) mg "NoKind" "SwapError" (Kz.isx "NoKind" "SwapError") := by
      unfold L2.KOf
      refine' Kw.isxo_mk (b' := true) KX G ?kz2260 ?kz2261 ?kz2262 ?kz2263 ?kz2264 ?kz2265 ?kz2266
      (case kz2260 => k_is)
      (case kz2261 => k_is)
      (case kz2262 => exact (show Kz.isx "NoKind" "SwapError" = true by decide +kernel))
      (case kz2263 => k_is)
      (case kz2264 => k_is)
      (case kz2265 => k_is)
      (case kz2266 => decide)

    have i_SwapError_NoLibrary : Kw.IsxO (L2.KOf KX) mg "NoLibrary" "SwapError" (Kz.isx "NoLibrary" "SwapError") := by
      unfold L2.KOf
      refine' Kw.isxo_mk (b' := true) KX G ?kz2280 ?kz2281 ?kz2282 ?kz2283 ?kz2284 ?kz2285 ?kz2286
      (case kz2280 => k_is)
      (case kz2281 => k_is)
      (case kz2282 => exact (show Kz.isx "NoLibrary" "SwapError" = true by decide +kernel))
      (case kz2283 => k_is)
      (case kz2284 => k_is)
      (case kz2285 => k_is)
      (case kz2286 => decide)

    have i_SwapError_NoName : Kw.IsxO (L2.KOf KX) mg "NoName" "SwapError" (Kz.isx "NoName" "SwapError") := by
      unfold L2.KOf
      refine' Kw.isxo_mk (b' := true) KX G ?kz2300 ?kz2301 ?kz2302 ?kz2303 ?kz2304 ?kz2305 ?kz2306
      (case kz2300 => k_is)
      (case kz2301 => k_is)
      (case kz2302 => exact (show Kz.isx "NoName" "SwapError" = true by decide +kernel))
      (case kz2303 => k_is)
      (case kz2304 => k_is)
      (case kz2305 => k_is)
      (case kz2306 => decide)

    have i_SwapError_NoSizes : Kw.IsxO (L2.KOf KX) mg "NoSizes" "SwapError" (Kz.isx "NoSizes" "SwapError") := by
      unfold L2.KOf
      refine' Kw.isxo_mk (b' := true) KX G ?kz2320 ?kz2321 ?kz2322 ?kz2323 ?kz2324 ?kz2325 ?kz2326
      (case kz2320 => k_is)
      (case kz2321 => k_is)
      (case kz2322 => exact (show Kz.isx "NoSizes" "SwapError" = true by decide +kernel))
      (case kz2323 => k_is)
      (case kz2324 => k_is)
      (case kz2325 => k_is)
      (case kz2326 => decide)

    have i_SwapError_NoTerm : Kw.IsxO (L2.KOf KX) mg "NoTerm" "SwapError" (Kz.isx "NoTerm" "SwapError") := by
      unfold L2.KOf
      refine' Kw.isxo_mk (b' := true) KX G ?kz2340 ?kz2341 ?kz2342 ?kz2343 ?kz2344 ?kz2345 ?kz2346
      (case kz2340 => k_is)
      (case kz2341 => k_is)
      (case kz2342 => exact (show Kz.isx "NoTerm" "SwapError" = true by decide +kernel))
      (case kz2343 => k_is)
      (case kz2344 => k_is)
      (case kz2345 => k_is)
      (case kz2346 => decide)

    have i_SwapError_NoText : Kw.IsxO (L2.KOf KX) mg "NoText" "SwapError" (Kz.isx "NoText" "SwapError") := by
      unfold L2.KOf
      refine' Kw.isxo_mk (b' := true) KX G ?kz2360 ?kz2361 ?kz2362 ?kz2363 ?kz2364 ?kz2365 ?kz2366
      (case kz2360 => k_is)
      (case kz2361 => k_is)
      (case kz2362 => exact (show Kz.isx "NoText" "SwapError" = true by decide +kernel))
      (case kz2363 => k_is)
      (case kz2364 => k_is)
      (case kz2365 => k_is)
      (case kz2366 => decide)

    have i_SwapError_NoWorth : Kw.IsxO (L2.KOf KX) mg "NoWorth" "SwapError" (Kz.isx "NoWorth" "SwapError") := by
      unfold L2.KOf
      refine' Kw.isxo_mk (b' := true) KX G ?kz2380 ?kz2381 ?kz2382 ?kz2383 ?kz2384 ?kz2385 ?kz2386
      (case kz2380 => k_is)
      (case kz2381 => k_is)
      (case kz2382 => exact (show Kz.isx "NoWorth" "SwapError" = true by decide +kernel))
      (case kz2383 => k_is)
      (case kz2384 => k_is)
      (case kz2385 => k_is)
      (case kz2386 => decide)

    have i_SwapError_TooMany : Kw.IsxO (L2.KOf KX) mg "TooMany" "SwapError" (Kz.isx "TooMany" "SwapError") := by
      unfold L2.KOf
      refine' Kw.isxo_mk (b' := true) KX G ?kz2400 ?kz2401 ?kz2402 ?kz2403 ?kz2404 ?kz2405 ?kz2406
      (case kz2400 => k_is)
      (case kz2401 => k_is)
      (case kz2402 => exact (show Kz.isx "TooMany" "SwapError" = true by decide +kernel))
      (case kz2403 => k_is)
      (case kz2404 => k_is)
      (case kz2405 => k_is)
      (case kz2406 => decide)

    have i_SwapError_Unlike : Kw.IsxO (L2.KOf KX) mg "Unlike" "SwapError" (Kz.isx "Unlike" "SwapError") := by
      unfold L2.KOf
      refine' Kw.isxo_mk (b' := true) KX G ?kz2420 ?kz2421 ?kz2422 ?kz2423 ?kz2424 ?kz2425 ?kz2426
      (case kz2420 => k_is)
      (case kz2421 => k_is)
      (case kz2422 => exact (show Kz.isx "Unlike" "SwapError" = true by decide +kernel))
      (case kz2423 => k_is)
      (case kz2424 => k_is)
      (case kz2425 => k_is)
      (case kz2426 => decide)

    have i_SwapError : ∀ y ∈ Kz.excs, Kw.IsxO (L2.KOf KX) mg y "SwapError" (Kz.isx y "SwapError") := (List.forall_mem_cons.mpr ⟨i_SwapError_NoDivisor, (List.forall_mem_cons.mpr ⟨i_SwapError_NoForm, (List.forall_mem_cons.mpr ⟨i_SwapError_NoKind, (List.forall_mem_cons.mpr ⟨i_SwapError_NoLibrary, (List.forall_mem_cons.mpr ⟨i_SwapError_NoName, (List.forall_mem_cons.mpr ⟨i_SwapError_NoSizes, (List.forall_mem_cons.mpr ⟨i_SwapError_NoTerm, (List.forall_mem_cons.mpr ⟨i_SwapError_NoText, (List.forall_mem_cons.mpr ⟨i_SwapError_NoWorth, (List.forall_mem_cons.mpr ⟨i_SwapError_TooMany, (List.forall_mem_cons.mpr ⟨i_SwapError_Unlike, (by simp)⟩)⟩)⟩)⟩)⟩)⟩)⟩)⟩)⟩)⟩)⟩)
    have i_TooMany_NoDivisor : Kw.IsxO (L2.KOf KX) mg "NoDivisor" "TooMany" (Kz.isx "NoDivisor" "TooMany") := by
      unfold L2.KOf
      refine' Kw.isxo_mk (b' := false) KX G ?kz2440 ?kz2441 ?kz2442 ?kz2443 ?kz2444 ?kz2445 ?kz2446
      (case kz2440 => k_is)
      (case kz2441 => k_is)
      (case kz2442 => exact (show Kz.isx "NoDivisor" "TooMany" = false by decide +kernel))
      (case kz2443 => k_is)
      (case kz2444 => k_is)
      (case kz2445 => k_is)
      (case kz2446 => decide)

    have i_TooMany_NoForm : Kw.IsxO (L2.KOf KX) mg "NoForm" "TooMany" (Kz.isx "NoForm" "TooMany") := by
      unfold L2.KOf
      refine' Kw.isxo_mk (b' := false) KX G ?kz2460 ?kz2461 ?kz2462 ?kz2463 ?kz2464 ?kz2465 ?kz2466
      (case kz2460 => k_is)
      (case kz2461 => k_is)
      (case kz2462 => exact (show Kz.isx "NoForm" "TooMany" = false by decide +kernel))
      (case kz2463 => k_is)
      (case kz2464 => k_is)
      (case kz2465 => k_is)
      (case kz2466 => decide)

    have i_TooMany_NoKind : Kw.IsxO (L2.KOf KX) mg "NoKind" "TooMany" (Kz.isx "NoKind" "TooMany") := by
      unfold L2.KOf
      refine' Kw.isxo_mk (b' := false) KX G ?kz2480 ?kz2481 ?kz2482 ?kz2483 ?kz2484 ?kz2485 ?kz2486
      (case kz2480 => k_is)
      (case kz2481 => k_is)
      (case kz2482 => exact (show Kz.isx "NoKind" "TooMany" = false by decide +kernel))
      (case kz2483 => k_is)
      (case kz2484 => k_is)
      (case kz2485 => k_is)
      (case kz2486 => decide)

    have i_TooMany_NoLibrary : Kw.IsxO (L2.KOf KX) mg "NoLibrary" "TooMany" (Kz.isx "NoLibrary" "TooMany") := by
      unfold L2.KOf
      refine' Kw.isxo_mk (b' := false) KX G ?kz2500 ?kz2501 ?kz2502 ?kz2503 ?kz2504 ?kz2505 ?kz2506
      (case kz2500 => k_is)
      (case kz2501 => k_is)
      (case kz2502 => exact (show Kz.isx "NoLibrary" "TooMany" = false by decide +kernel))
      (case kz2503 => k_is)
      (case kz2504 => k_is)
      (case kz2505 => k_is)
      (case kz2506 => decide)

    have i_TooMany_NoName : Kw.IsxO (L2.KOf KX) mg "NoName" "TooMany" (Kz.isx "NoName" "TooMany") := by
      unfold L2.KOf
      refine' Kw.isxo_mk (b' := false) KX G ?kz2520 ?kz2521 ?kz2522 ?kz2523 ?kz2524 ?kz2525 ?kz2526
      (case kz2520 => k_is)
      (case kz2521 => k_is)
      (case kz2522 => exact (show Kz.isx "NoName" "TooMany" = false by decide +kernel))
      (case kz2523 => k_is)
      (case kz2524 => k_is)
      (case kz2525 => k_is)
      (case kz2526 => decide)

    have i_TooMany_NoSizes : Kw.IsxO (L2.KOf KX) mg "NoSizes" "TooMany" (Kz.isx "NoSizes" "TooMany") := by
      unfold L2.KOf
      refine' Kw.isxo_mk (b' := false) KX G ?kz2540 ?kz2541 ?kz2542 ?kz2543 ?kz2544 ?kz2545 ?kz2546
      (case kz2540 => k_is)
      (case kz2541 => k_is)
      (case kz2542 => exact (show Kz.isx "NoSizes" "TooMany" = false by decide +kernel))
      (case kz2543 => k_is)
      (case kz2544 => k_is)
      (case kz2545 => k_is)
      (case kz2546 => decide)

    have i_TooMany_NoTerm : Kw.IsxO (L2.KOf KX) mg "NoTerm" "TooMany" (Kz.isx "NoTerm" "TooMany") := by
      unfold L2.KOf
      refine' Kw.isxo_mk (b' := false) KX G ?kz2560 ?kz2561 ?kz2562 ?kz2563 ?kz2564 ?kz2565 ?kz2566
      (case kz2560 => k_is)
      (case kz2561 => k_is)
      (case kz2562 => exact (show Kz.isx "NoTerm" "TooMany" = false by decide +kernel))
      (case kz2563 => k_is)
      (case kz2564 => k_is)
      (case kz2565 => k_is)
      (case kz2566 => decide)

    have i_TooMany_NoText : Kw.IsxO (L2.KOf KX) mg "NoText" "TooMany" (Kz.isx "NoText" "TooMany") := by
      unfold L2.KOf
      refine' Kw.isxo_mk (b' := false) KX G ?kz2580 ?kz2581 ?kz2582 ?kz2583 ?kz2584 ?kz2585 ?kz2586
      (case kz2580 => k_is)
      (case kz2581 => k_is)
      (case kz2582 => exact (show Kz.isx "NoText" "TooMany" = false by decide +kernel))
      (case kz2583 => k_is)
      (case kz2584 => k_is)
      (case kz2585 => k_is)
      (case kz2586 => decide)

    have i_TooMany_NoWorth : Kw.IsxO (L2.KOf KX) mg "NoWorth" "TooMany" (Kz.isx "NoWorth" "TooMany") := by
      unfold L2.KOf
      refine' Kw.isxo_mk (b' := false) KX G ?kz2600 ?kz2601 ?kz2602 ?kz2603 ?kz2604 ?kz2605 ?kz2606
      (case kz2600 => k_is)
      (case kz2601 => k_is)
      (case kz2602 => exact (show Kz.isx "NoWorth" "TooMany" = false by decide +kernel))
      (case kz2603 => k_is)
      (case kz2604 => k_is)
      (case kz2605 => k_is)
      (case kz2606 => decide)

    have i_TooMany_TooMany : Kw.IsxO (L2.KOf KX) mg "TooMany" "TooMany" (Kz.isx "TooMany" "TooMany") := by
      unfold L2.KOf
      refine' Kw.isxo_mk (b' := true) KX G ?kz2620 ?kz2621 ?kz2622 ?kz2623 ?kz2624 ?kz2625 ?kz2626
      (case kz2620 => k_is)
      (case kz2621 => k_is)
      (case kz2622 => exact (show Kz.isx "TooMany" "TooMany" = true by decide +kernel))
      (case kz2623 => k_is)
      (case kz2624 => k_is)
      (case kz2625 => k_is)
      (case kz2626 => decide)

    have i_TooMany_Unlike : Kw.IsxO (L2.KOf KX) mg "Unlike" "TooMany" (Kz.isx "Unlike" "TooMany") := by
      unfold L2.KOf
      refine' Kw.isxo_mk (b' := false) KX G ?kz2640 ?kz2641 ?kz2642 ?kz2643 ?kz2644 ?kz2645 ?kz2646
      (case kz2640 => k_is)
      (case kz2641 => k_is)
      (case kz2642 => exact (show Kz.isx "Unlike" "TooMany" = false by decide +kernel))
      (case kz2643 => k_is)
      (case kz2644 => k_is)
      (case kz2645 => k_is)
      (case kz2646 => decide)

    have i_TooMany : ∀ y ∈ Kz.excs, Kw.IsxO (L2.KOf KX) mg y "TooMany" (Kz.isx y "TooMany") := (List.forall_mem_cons.mpr ⟨i_TooMany_NoDivisor, (List.forall_mem_cons.mpr ⟨i_TooMany_NoForm, (List.forall_mem_cons.mpr ⟨i_TooMany_NoKind, (List.forall_mem_cons.mpr ⟨i_TooMany_NoLibrary, (List.forall_mem_cons.mpr ⟨i_TooMany_NoName, (List.forall_mem_cons.mpr ⟨i_TooMany_NoSizes, (List.forall_mem_cons.mpr ⟨i_TooMany_NoTerm, (List.forall_mem_cons.mpr ⟨i_TooMany_NoText, (List.forall_mem_cons.mpr ⟨i_TooMany_NoWorth, (List.forall_mem_cons.mpr ⟨i_TooMany_TooMany, (List.forall_mem_cons.mpr ⟨i_TooMany_Unlike, (by simp)⟩)⟩)⟩)⟩)⟩)⟩)⟩)⟩)⟩)⟩)⟩)
    have i_Unlike_NoDivisor : Kw.IsxO (L2.KOf KX) mg "NoDivisor" "Unlike" (Kz.isx "NoDivisor" "Unlike") := by
      unfold L2.KOf
      refine' Kw.isxo_mk (b' := false) KX G ?kz2660 ?kz2661 ?kz2662 ?kz2663 ?kz2664 ?kz2665 ?kz2666
      (case kz2660 => k_is)
      (case kz2661 => k_is)
      (case kz2662 => exact (show Kz.isx "NoDivisor" "Unlike" = false by decide +kernel))
      (case kz2663 => k_is)
      (case kz2664 => k_is)
      (case kz2665 => k_is)
      (case kz2666 => decide)

    have i_Unlike_NoForm : Kw.IsxO (L2.KOf KX) mg "NoForm" "Unlike" (Kz.isx "NoForm" "Unlike") := by
      unfold L2.KOf
      refine' Kw.isxo_mk (b' := false) KX G ?kz2680 ?kz2681 ?kz2682 ?kz2683 ?kz2684 ?kz2685 ?kz2686
      (case kz2680 => k_is)
      (case kz2681 => k_is)
      (case kz2682 => exact (show Kz.isx "NoForm" "Unlike" = false by decide +kernel))
      (case kz2683 => k_is)
      (case kz2684 => k_is)
      (case kz2685 => k_is)
      (case kz2686 => decide)

    have i_Unlike_NoKind : Kw.IsxO (L2.KOf KX) mg "NoKind" "Unlike" (Kz.isx "NoKind" "Unlike") := by
      unfold L2.KOf
      refine' Kw.isxo_mk (b' := false) KX G ?kz2700 ?kz2701 ?kz2702 ?kz2703 ?kz2704 ?kz2705 ?kz2706
      (case kz2700 => k_is)
      (case kz2701 => k_is)
      (case kz2702 => exact (show Kz.isx "NoKind" "Unlike" = false by decide +kernel))
      (case kz2703 => k_is)
      (case kz2704 => k_is)
      (case kz2705 => k_is)
      (case kz2706 => decide)

    have i_Unlike_NoLibrary : Kw.IsxO (L2.KOf KX) mg "NoLibrary" "Unlike" (Kz.isx "NoLibrary" "Unlike") := by
      unfold L2.KOf
      refine' Kw.isxo_mk (b' := false) KX G ?kz2720 ?kz2721 ?kz2722 ?kz2723 ?kz2724 ?kz2725 ?kz2726
      (case kz2720 => k_is)
      (case kz2721 => k_is)
      (case kz2722 => exact (show Kz.isx "NoLibrary" "Unlike" = false by decide +kernel))
      (case kz2723 => k_is)
      (case kz2724 => k_is)
      (case kz2725 => k_is)
      (case kz2726 => decide)

    have i_Unlike_NoName : Kw.IsxO (L2.KOf KX) mg "NoName" "Unlike" (Kz.isx "NoName" "Unlike") := by
      unfold L2.KOf
      refine' Kw.isxo_mk (b' := false) KX G ?kz2740 ?kz2741 ?kz2742 ?kz2743 ?kz2744 ?kz2745 ?kz2746
      (case kz2740 => k_is)
      (case kz2741 => k_is)
      (case kz2742 => exact (show Kz.isx "NoName" "Unlike" = false by decide +kernel))
      (case kz2743 => k_is)
      (case kz2744 => k_is)
      (case kz2745 => k_is)
      (case kz2746 => decide)

    have i_Unlike_NoSizes : Kw.IsxO (L2.KOf KX) mg "NoSizes" "Unlike" (Kz.isx "NoSizes" "Unlike") := by
      unfold L2.KOf
      refine' Kw.isxo_mk (b' := false) KX G ?kz2760 ?kz2761 ?kz2762 ?kz2763 ?kz2764 ?kz2765 ?kz2766
      (case kz2760 => k_is)
      (case kz2761 => k_is)
      (case kz2762 => exact (show Kz.isx "NoSizes" "Unlike" = false by decide +kernel))
      (case kz2763 => k_is)
      (case kz2764 => k_is)
      (case kz2765 => k_is)
      (case kz2766 => decide)

    have i_Unlike_NoTerm : Kw.IsxO (L2.KOf KX) mg "NoTerm" "Unlike" (Kz.isx "NoTerm" "Unlike") := by
      unfold L2.KOf
      refine' Kw.isxo_mk (b' := false) KX G ?kz2780 ?kz2781 ?kz2782 ?kz2783 ?kz2784 ?kz2785 ?kz2786
      (case kz2780 => k_is)
      (case kz2781 => k_is)
      (case kz2782 => exact (show Kz.isx "NoTerm" "Unlike" = false by decide +kernel))
      (case kz2783 => k_is)
      (case kz2784 => k_is)
      (case kz2785 => k_is)
      (case kz2786 => decide)

    have i_Unlike_NoText : Kw.IsxO (L2.KOf KX) mg "NoText" "Unlike" (Kz.isx "NoText" "Unlike") := by
      unfold L2.KOf
      refine' Kw.isxo_mk (b' := false) KX G ?kz2800 ?kz2801 ?kz2802 ?kz2803 ?kz2804 ?kz2805 ?kz2806
      (case kz2800 => k_is)
      (case kz2801 => k_is)
      (case kz2802 => exact (show Kz.isx "NoText" "Unlike" = false by decide +kernel))
      (case kz2803 => k_is)
      (case kz2804 => k_is)
      (case kz2805 => k_is)
      (case kz2806 => decide)

    have i_Unlike_NoWorth : Kw.IsxO (L2.KOf KX) mg "NoWorth" "Unlike" (Kz.isx "NoWorth" "Unlike") := by
      unfold L2.KOf
      refine' Kw.isxo_mk (b' := false) KX G ?kz2820 ?kz2821 ?kz2822 ?kz2823 ?kz2824 ?kz2825 ?kz2826
      (case kz2820 => k_is)
      (case kz2821 => k_is)
      (case kz2822 => exact (show Kz.isx "NoWorth" "Unlike" = false by decide +kernel))
      (case kz2823 => k_is)
      (case kz2824 => k_is)
      (case kz2825 => k_is)
      (case kz2826 => decide)

    have i_Unlike_TooMany : Kw.IsxO (L2.KOf KX) mg "TooMany" "Unlike" (Kz.isx "TooMany" "Unlike") := by
      unfold L2.KOf
      refine' Kw.isxo_mk (b' := false) KX G ?kz2840 ?kz2841 ?kz2842 ?kz2843 ?kz2844 ?kz2845 ?kz2846
      (case kz2840 => k_is)
      (case kz2841 => k_is)
      (case kz2842 => exact (show Kz.isx "TooMany" "Unlike" = false by decide +kernel))
      (case kz2843 => k_is)
      (case kz2844 => k_is)
      (case kz2845 => k_is)
      (case kz2846 => decide)

    have i_Unlike_Unlike : Kw.IsxO (L2.KOf KX) mg "Unlike" "Unlike" (Kz.isx "Unlike" "Unlike") := by
      unfold L2.KOf
      refine' Kw.isxo_mk (b' := true) KX G ?kz2860 ?kz2861 ?kz2862 ?kz2863 ?kz2864 ?kz2865 ?kz2866
      (case kz2860 => k_is)
      (case kz2861 => k_is)
      (case kz2862 => exact (show Kz.isx "Unlike" "Unlike" = true by decide +kernel))
      (case kz2863 => k_is)
      (case kz2864 => k_is)
      (case kz2865 => k_is)
      (case kz2866 => decide)

    have i_Unlike : ∀ y ∈ Kz.excs, Kw.IsxO (L2.KOf KX) mg y "Unlike" (Kz.isx y "Unlike") := (List.forall_mem_cons.mpr ⟨i_Unlike_NoDivisor, (List.forall_mem_cons.mpr ⟨i_Unlike_NoForm, (List.forall_mem_cons.mpr ⟨i_Unlike_NoKind, (List.forall_mem_cons.mpr ⟨i_Unlike_NoLibrary, (List.forall_mem_cons.mpr ⟨i_Unlike_NoName, (List.forall_mem_cons.mpr ⟨i_Unlike_NoSizes, (List.forall_mem_cons.mpr ⟨i_Unlike_NoTerm, (List.forall_mem_cons.mpr ⟨i_Unlike_NoText, (List.forall_mem_cons.mpr ⟨i_Unlike_NoWorth, (List.forall_mem_cons.mpr ⟨i_Unlike_TooMany, (List.forall_mem_cons.mpr ⟨i_Unlike_Unlike, (by simp)⟩)⟩)⟩)⟩)⟩)⟩)⟩)⟩)⟩)⟩)⟩)
    have i_ValueError_NoDivisor : Kw.IsxB (L2.KOf KX) mg "NoDivisor" "ValueError" (Kz.isx "NoDivisor" "ValueError") := by
      unfold L2.KOf
      refine' Kw.isxb_mk (b' := true) KX G ?kz2880 ?kz2881 ?kz2882 ?kz2883
      (case kz2880 => k_is)
      (case kz2881 => exact (show Kz.isx "NoDivisor" "ValueError" = true by decide +kernel))
      (case kz2882 => decide)
      (case kz2883 => k_is)

    have i_ValueError_NoForm : Kw.IsxB (L2.KOf KX) mg "NoForm" "ValueError" (Kz.isx "NoForm" "ValueError") := by
      unfold L2.KOf
      refine' Kw.isxb_mk (b' := true) KX G ?kz2900 ?kz2901 ?kz2902 ?kz2903
      (case kz2900 => k_is)
      (case kz2901 => exact (show Kz.isx "NoForm" "ValueError" = true by decide +kernel))
      (case kz2902 => decide)
      (case kz2903 => k_is)

    have i_ValueError_NoKind : Kw.IsxB (L2.KOf KX) mg "NoKind" "ValueError" (Kz.isx "NoKind" "ValueError") := by
      unfold L2.KOf
      refine' Kw.isxb_mk (b' := true) KX G ?kz2920 ?kz2921 ?kz2922 ?kz2923
      (case kz2920 => k_is)
      (case kz2921 => exact (show Kz.isx "NoKind" "ValueError" = true by decide +kernel))
      (case kz2922 => decide)
      (case kz2923 => k_is)

    have i_ValueError_NoLibrary : Kw.IsxB (L2.KOf KX) mg "NoLibrary" "ValueError" (Kz.isx "NoLibrary" "ValueError") := by
      unfold L2.KOf
      refine' Kw.isxb_mk (b' := true) KX G ?kz2940 ?kz2941 ?kz2942 ?kz2943
      (case kz2940 => k_is)
      (case kz2941 => exact (show Kz.isx "NoLibrary" "ValueError" = true by decide +kernel))
      (case kz2942 => decide)
      (case kz2943 => k_is)

    have i_ValueError_NoName : Kw.IsxB (L2.KOf KX) mg "NoName" "ValueError" (Kz.isx "NoName" "ValueError") := by
      unfold L2.KOf
      refine' Kw.isxb_mk (b' := true) KX G ?kz2960 ?kz2961 ?kz2962 ?kz2963
      (case kz2960 => k_is)
      (case kz2961 => exact (show Kz.isx "NoName" "ValueError" = true by decide +kernel))
      (case kz2962 => decide)
      (case kz2963 => k_is)

    have i_ValueError_NoSizes : Kw.IsxB (L2.KOf KX) mg "NoSizes" "ValueError" (Kz.isx "NoSizes" "ValueError") := by
      unfold L2.KOf
      refine' Kw.isxb_mk (b' := true) KX G ?kz2980 ?kz2981 ?kz2982 ?kz2983
      (case kz2980 => k_is)
      (case kz2981 => exact (show Kz.isx "NoSizes" "ValueError" = true by decide +kernel))
      (case kz2982 => decide)
      (case kz2983 => k_is)

    have i_ValueError_NoTerm : Kw.IsxB (L2.KOf KX) mg "NoTerm" "ValueError" (Kz.isx "NoTerm" "ValueError") := by
      unfold L2.KOf
      refine' Kw.isxb_mk (b' := true) KX G ?kz3000 ?kz3001 ?kz3002 ?kz3003
      (case kz3000 => k_is)
      (case kz3001 => exact (show Kz.isx "NoTerm" "ValueError" = true by decide +kernel))
      (case kz3002 => decide)
      (case kz3003 => k_is)

    have i_ValueError_NoText : Kw.IsxB (L2.KOf KX) mg "NoText" "ValueError" (Kz.isx "NoText" "ValueError") := by
      unfold L2.KOf
      refine' Kw.isxb_mk (b' := true) KX G ?kz3020 ?kz3021 ?kz3022 ?kz3023
      (case kz3020 => k_is)
      (case kz3021 => exact (show Kz.isx "NoText" "ValueError" = true by decide +kernel))
      (case kz3022 => decide)
      (case kz3023 => k_is)

    have i_ValueError_NoWorth : Kw.IsxB (L2.KOf KX) mg "NoWorth" "ValueError" (Kz.isx "NoWorth" "ValueError") := by
      unfold L2.KOf
      refine' Kw.isxb_mk (b' := true) KX G ?kz3040 ?kz3041 ?kz3042 ?kz3043
      (case kz3040 => k_is)
      (case kz3041 => exact (show Kz.isx "NoWorth" "ValueError" = true by decide +kernel))
      (case kz3042 => decide)
      (case kz3043 => k_is)

    have i_ValueError_TooMany : Kw.IsxB (L2.KOf KX) mg "TooMany" "ValueError" (Kz.isx "TooMany" "ValueError") := by
      unfold L2.KOf
      refine' Kw.isxb_mk (b' := true) KX G ?kz3060 ?kz3061 ?kz3062 ?kz3063
      (case kz3060 => k_is)
      (case kz3061 => exact (show Kz.isx "TooMany" "ValueError" = true by decide +kernel))
      (case kz3062 => decide)
      (case kz3063 => k_is)

    have i_ValueError_Unlike : Kw.IsxB (L2.KOf KX) mg "Unlike" "ValueError" (Kz.isx "Unlike" "ValueError") := by
      unfold L2.KOf
      refine' Kw.isxb_mk (b' := true) KX G ?kz3080 ?kz3081 ?kz3082 ?kz3083
      (case kz3080 => k_is)
      (case kz3081 => exact (show Kz.isx "Unlike" "ValueError" = true by decide +kernel))
      (case kz3082 => decide)
      (case kz3083 => k_is)

    have i_ValueError : ∀ y ∈ Kz.excs, Kw.IsxB (L2.KOf KX) mg y "ValueError" (Kz.isx y "ValueError") := (List.forall_mem_cons.mpr ⟨i_ValueError_NoDivisor, (List.forall_mem_cons.mpr ⟨i_ValueError_NoForm, (List.forall_mem_cons.mpr ⟨i_ValueError_NoKind, (List.forall_mem_cons.mpr ⟨i_ValueError_NoLibrary, (List.forall_mem_cons.mpr ⟨i_ValueError_NoName, (List.forall_mem_cons.mpr ⟨i_ValueError_NoSizes, (List.forall_mem_cons.mpr ⟨i_ValueError_NoTerm, (List.forall_mem_cons.mpr ⟨i_ValueError_NoText, (List.forall_mem_cons.mpr ⟨i_ValueError_NoWorth, (List.forall_mem_cons.mpr ⟨i_ValueError_TooMany, (List.forall_mem_cons.mpr ⟨i_ValueError_Unlike, (by simp)⟩)⟩)⟩)⟩)⟩)⟩)⟩)⟩)⟩)⟩)⟩)
    have T : Kz.Txt (L2.KOf KX) w.params mg := ⟨t__law_cell_at, t__law_digit, t__law_made, t__law_marks, m_ValueError, m_enumerate, m_int, m_isinstance, m_len, m_max, m_min, m_range, x_NoDivisor, x_NoForm, x_NoKind, x_NoLibrary, x_NoName, x_NoSizes, x_NoTerm, x_NoText, x_NoWorth, x_TooMany, u_Unlike, gx_Unlike, xk, i_NoDivisor, i_NoForm, i_NoKind, i_NoLibrary, i_NoName, i_NoSizes, i_NoTerm, i_NoText, i_NoWorth, i_SwapError, i_TooMany, i_Unlike, i_ValueError⟩
    refine' Kw.law_mk (st := Kz.s_law) (k := 230) KX G hmg ?a ?l ?c ?k (fun _ _ _ _ _ _ us hl => match us, hl with | [_], _ => rfl) Kz.sc_law (fun base Kb Gb => Kz.ok_law T (Kz.all_ok T 230) (Kz.all_ok T 228)) (fun ns h hb => Kz.law_true ns h)
    (case a => k_is); (case l => k_is); (case c => k_is); (case k => k_is)

