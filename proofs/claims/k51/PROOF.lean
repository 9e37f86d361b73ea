import PyProof.Rows.All
import Wide.All
import OpenK.AllK
import Wide.FinOn
import HandS.ForMost
import HandS.ForExc
import HandS.Flow
import HandS.IsInst
import HandS.Wide
import HandS.Lambda
import HandS.Style
import HandS.TupAny
import HandS.Deep
import HandS.Zip
import HandS.StrMore
import HandS.ExcOwn
import HandS.More
import HandS.EndBits
import HandS.ExcIs
import HandS.TryMany
import PyProof.ReprRoads
import HandS.Conv
import KE.SortData
import HandS.SortKw
import HandS.ExcValue
import KE.SortKeyHeap
import HandS.NoneIn
import KE.DataCmp
import HandS.Strs
import PyProof.SetRoads
import PyProof.Rows.SetFrom
import KE.DataFind
import HandS.Dict
import KE.KTryMore
import PySem.Challenge.RW_kindswap_k51_kinds_of_terms
set_option Elab.async false
set_option linter.all false
set_option maxRecDepth 100000
set_option maxHeartbeats 4000000
/-! Kw1: values as trees, a store of cells, and how they lie in the heap. -/
namespace Kw
open PySem PySem.Spec PyProof.Rows L2

/-- a value as a tree; a list that is changed is a cell of the store -/
inductive D where
  | non | bl (b : Bool) | int (i : Int) | str (x : Str)
  | tup (ds : List D) | lst (ds : List D) | dic (ks : List Key) (ds : List D)
  | ins (c : Str) (fs : List Str) (ds : List D)
  | loc (n : Nat) | glo (x : Str) | fls (ds : List D) | exn (a : Addr)
  | exo (c : Str) (ns : List Str) (ds : List D)
inductive Cell where
  | lst (ds : List D) | frz (ds : List D) | dead
  | tab (x : Str) | sys
  | gst (ρ : List (Option D)) (σ : L2.St)
  | ob (c : Str) (fs : List Str) (ds : List D)
abbrev Store := List Cell
/-- what is raised: the class's name, its own fields -/
structure Ex where
  cls : Str
  ns : List Str := []
  ds : List D := []
inductive RE (α : Type) where
  | ok (a : α) (S : Store) | ex (x : Ex) (S : Store) | no
def RE.bnd {α β : Type} (m : RE α) (f : α → Store → RE β) : RE β := match m with
  | .ok a S => f a S
  | .ex x S => .ex x S
  | .no => .no
abbrev FEnv := List (Option D)
abbrev FE := FEnv → Store → RE D
abbrev FT := FEnv → Store → RE Bool
abbrev FA := FEnv → Store → RE (List D)
/-- the addresses of the store's cells (none: dead); hd: objects that no value leads to -/
structure Wd where
  φ : List (Option Addr)
  hd : List Addr
/-- a is no cell, and not hidden -/
def Wd.Off (w : Wd) (a : Addr) : Prop := (¬ some a ∈ w.φ) ∧ ¬ a ∈ w.hd

section
variable (K : PySem.W.Frag) (mg : Str → Option Value)
/-- a list that is not changed any more, by the model's own word -/
def Fp (w : Wd) (H : Hp) (a : Addr) (xs : List V) : Prop :=
  (∃ o, H a = some (.frz o (.lst xs)) ∧ w.Off a) ∨
    ∃ (o : Obj) (its : Array Value) (n : Nat), K.lookup a = some o ∧ o.cls = .type "list" ∧ o.dict = none ∧ o.data = .seq its n ∧ its.size ≤ sizeLine ∧ Vals xs its.toList
/-- a tuple that stands -/
def Tp (w : Wd) (H : Hp) (a : Addr) (xs : List V) : Prop :=
  (H a = some (.tup xs) ∧ w.Off a) ∨
    ∃ (o : Obj) (its : Array Value) (n : Nat), K.lookup a = some o ∧ o.cls = .type "tuple" ∧ o.data = .seq its n ∧ its.size ≤ sizeLine ∧ Vals xs its.toList
/-- an exception object that nobody raised: its class, its dict -/
def ExOd (cls : Value) (od : Option Addr) (a : Addr) : HO := .ext fun h => ∃ (oe : Obj) (vs : Array Value), h.get? a = some oe ∧ Zc cls od oe ∧ oe.data = .fields vs ∧ vs[1]? = some .none ∧ vs[2]? = some .none ∧ 4 < vs.size
mutual
/-- the tree d lies at v -/
def Rp (w : Wd) (H : Hp) : D → V → Prop
  | .non, v => v = .non
  | .bl b, v => v = .bl b
  | .int i, v => v = .int i
  | .str x, v => v = .str x
  | .tup ds, v => ∃ a xs, v = .ref a ∧ Tp K w H a xs ∧ RpL w H ds xs
  | .lst ds, v => ∃ a xs, v = .ref a ∧ H a = some (.lst xs) ∧ w.Off a ∧ RpL w H ds xs
  | .dic ks ds, v => ∃ a vs, v = .ref a ∧ H a = some (.dK (ks.zip vs)) ∧ w.Off a ∧ ks.length = vs.length ∧ RpL w H ds vs
  | .ins c fs ds, v => ∃ a C dx vs, v = .ref a ∧ mg c = some (.ref C) ∧ H a = some (.ins C dx (fs.zip vs)) ∧ w.Off a ∧ fs.length = vs.length ∧ RpL w H ds vs
  | .loc n, v => n < w.φ.length ∧ ∀ a, w.φ[n]? = some (some a) → v = .ref a
  | .glo x, v => ∃ a, v = .ref a ∧ mg x = some (.ref a)
  | .exn a, v => v = .ref a
  | .fls ds, v => ∃ a xs, v = .ref a ∧ Fp K w H a xs ∧ RpL w H ds xs
  | .exo c ns ds, v => ∃ a C od vs, v = .ref a ∧ mg c = some (.ref C) ∧ H a = some (ExOd (.ref C) od a) ∧ w.Off a ∧ (od = none ↔ ns = []) ∧ (∀ d, od = some d → H d = some (.xd (ns.zip vs)) ∧ w.Off d) ∧ ns.length = vs.length ∧ RpL w H ds vs
def RpL (w : Wd) (H : Hp) : List D → List V → Prop
  | [], vs => vs = []
  | d :: ds, vs => ∃ v r, vs = v :: r ∧ Rp w H d v ∧ RpL w H ds r
end
/-- the world goes on -/
structure Ext (w : Wd) (H : Hp) (w' : Wd) (H' : Hp) : Prop where
  fr : ∀ a o, H a = some o → some a ∉ w.φ → H' a = some o
  ln : w.φ.length ≤ w'.φ.length
  ph : ∀ (n : Nat) a, w'.φ[n]? = some (some a) → n < w.φ.length → w.φ[n]? = some (some a)
  nw : ∀ a, some a ∈ w'.φ → some a ∈ w.φ ∨ H a = none
  hd : w'.hd = w.hd
/-- what is known of the modules' table: a dict -/
def SysQ (φ : Heap → Prop) : Prop := ∀ h, φ h → ∃ o es n, h.get? sysModules = some o ∧ o.data = .dict es n
/-- a table of code objects lies at P, all of the name q -/
def TabW (w : Wd) (H : Hp) (P : Addr) (q : Str) : Prop := ∃ ps : Array Value, H P = some (.tbl ps) ∧ TriplesOk ps.toList ∧ ∀ (pos : Pos) (cv : Value), codeAmong pos ps.toList = some cv → ∃ c, cv = .ref c ∧ H c = some (LamX.CodeO c q) ∧ w.Off c
/-- the name that the lambdas of the def x bear -/
def tabQ (x : Str) : Str := x ++ ".<locals>." ++ "<lambda>"
/-- the slots -/
structure EnvR (w : Wd) (H : Hp) (ρ : FEnv) (σ : L2.St) : Prop where
  len : ρ.length = σ.length
  at_ : ∀ (i : Nat) d, ρ[i]? = some (some d) → ∃ v, σ[i]? = some (some v) ∧ Rp K mg w H d v
def CellR (w : Wd) (H : Hp) (c : Cell) (n : Nat) : Prop := match c with
  | .lst ds => ∃ a xs, w.φ[n]? = some (some a) ∧ H a = some (.lst xs) ∧ RpL K mg w H ds xs
  | .frz ds => ∃ a xs o, w.φ[n]? = some (some a) ∧ H a = some (.frz o (.lst xs)) ∧ RpL K mg w H ds xs
  | .dead => w.φ[n]? = some none
  | .tab x => ∃ c P, PySem.W.tabIn K x = some (c, P) ∧ w.φ[n]? = some (some P) ∧ TabW w H P (tabQ x)
  | .sys => w.φ[n]? = some none ∧ sysModules ∈ w.hd ∧ some sysModules ∉ w.φ ∧ (∃ φ, H sysModules = some (.ext φ) ∧ SysQ φ) ∧ K.lookup sysModules = none
  | .gst ρ σ => w.φ[n]? = some none ∧ EnvR K mg w H ρ σ
  | .ob c fs ds => ∃ a C dx vs, w.φ[n]? = some (some a) ∧ mg c = some (.ref C) ∧ H a = some (.ins C dx (fs.zip vs)) ∧ fs.length = vs.length ∧ RpL K mg w H ds vs
/-- the store lies in the heap -/
structure Sto (w : Wd) (S : Store) (H : Hp) : Prop where
  len : w.φ.length = S.length
  nd : ∀ (m n : Nat) a, w.φ[m]? = some (some a) → w.φ[n]? = some (some a) → m = n
  ap : ∀ a, a ∈ w.hd → H a ≠ none ∧ some a ∉ w.φ
  cell : ∀ (n : Nat) c, S[n]? = some c → CellR K mg w H c n
/-- the exception -/
def ExR (w : Wd) (H : Hp) (x : Ex) (c : Value) (od : Option Addr) : Prop :=
  mg x.cls = some c ∧ ((x.ns = [] ∧ x.ds = [] ∧ od = none) ∨ ∃ d vs, x.ns ≠ [] ∧ od = some d ∧ H d = some (.xd (x.ns.zip vs)) ∧ w.Off d ∧ x.ns.length = vs.length ∧ RpL K mg w H x.ds vs)
/-- what a result gives -/
def End {α β : Type} (R : Wd → Hp → α → β → Prop) (w : Wd) (H : Hp) (r : RE α) (Q : β → Hp → Prop) (E : Value → Option Addr → Hp → Prop) : Prop :=
  match r with
  | .ok a S' => ∀ w' H' b, Ext w H w' H' → Sto K mg w' S' H' → R w' H' a b → Q b H'
  | .ex x S' => ∀ w' H' c od, Ext w H w' H' → Sto K mg w' S' H' → ExR K mg w' H' x c od → E c od H'
  | .no => False
end
/-- readings by functions over trees -/
def tF (X : Cx) (W : WX) (f : FE) : TE := fun σ H Q => ∃ w ρ S, Sto X.K X.mg w S H ∧ EnvR X.K X.mg w H ρ σ ∧ End X.K X.mg (fun w H => Rp X.K X.mg w H) w H (f ρ S) Q (fun c od H' => W c od σ H')
def tT (X : Cx) (W : WX) (f : FT) : TT := fun σ H Q => ∃ w ρ S, Sto X.K X.mg w S H ∧ EnvR X.K X.mg w H ρ σ ∧ End X.K X.mg (fun _ _ (a b : Bool) => b = a) w H (f ρ S) Q (fun c od H' => W c od σ H')
def tA (X : Cx) (W : WX) (f : FA) : TA := fun σ H Q => ∃ w ρ S, Sto X.K X.mg w S H ∧ EnvR X.K X.mg w H ρ σ ∧ End X.K X.mg (fun w H => RpL X.K X.mg w H) w H (f ρ S) Q (fun c od H' => W c od σ H')

section
variable {K : PySem.W.Frag} {mg : Str → Option Value} {w w' w'' : Wd} {H H' H'' : Hp} {S : Store}
theorem Ext.refl : Ext w H w H := ⟨fun _ _ h _ => h, Nat.le_refl _, fun _ _ h _ => h, fun _ h => .inl h, rfl⟩
theorem Ext.trans (a : Ext w H w' H') (b : Ext w' H' w'' H'') : Ext w H w'' H'' where
  fr := fun c o h n => b.fr c o (a.fr c o h n) fun z => by
    rcases a.nw c z with z | z
    · exact n z
    · rw [h] at z; cases z
  ln := Nat.le_trans a.ln b.ln
  ph := fun n c h l => a.ph n c (b.ph n c h (Nat.lt_of_lt_of_le l a.ln)) l
  nw := fun c h => by
    rcases b.nw c h with z | z
    · exact a.nw c z
    · by_cases q : some c ∈ w.φ
      · exact .inl q
      · cases e : H c with
        | none => exact .inr rfl
        | some o => rw [a.fr c o e q] at z; cases z
  hd := b.hd.trans a.hd
theorem Ext.out {a : Addr} {o : HO} (e : Ext w H w' H') (h : H a = some o) (n : w.Off a) : w'.Off a := by
  refine ⟨fun z => ?_, by rw [e.hd]; exact n.2⟩
  rcases e.nw _ z with z | z
  · exact n.1 z
  · rw [h] at z; cases z
theorem Tp.ext {a : Addr} {xs : List V} (e : Ext w H w' H') (h : Tp K w H a xs) : Tp K w' H' a xs := by
  rcases h with ⟨h, n⟩ | h
  · exact .inl ⟨e.fr _ _ h n.1, e.out h n⟩
  · exact .inr h
theorem Fp.ext {a : Addr} {xs : List V} (e : Ext w H w' H') (h : Fp K w H a xs) : Fp K w' H' a xs := by
  rcases h with ⟨o, h, n⟩ | h
  · exact .inl ⟨o, e.fr _ _ h n.1, e.out h n⟩
  · exact .inr h
mutual
theorem Rp.ext (e : Ext w H w' H') : ∀ (d : D) (v : V), Rp K mg w H d v → Rp K mg w' H' d v
  | .non, _, h => by unfold Rp at h ⊢; exact h
  | .bl _, _, h => by unfold Rp at h ⊢; exact h
  | .int _, _, h => by unfold Rp at h ⊢; exact h
  | .str _, _, h => by unfold Rp at h ⊢; exact h
  | .tup ds, v, h => by
    unfold Rp at h ⊢
    obtain ⟨a, xs, e1, t, r⟩ := h
    exact ⟨a, xs, e1, t.ext e, RpL.ext e ds xs r⟩
  | .lst ds, v, h => by
    unfold Rp at h ⊢
    obtain ⟨a, xs, e1, t, n, r⟩ := h
    exact ⟨a, xs, e1, e.fr _ _ t n.1, e.out t n, RpL.ext e ds xs r⟩
  | .dic ks ds, v, h => by
    unfold Rp at h ⊢
    obtain ⟨a, vs, e1, t, n, l, r⟩ := h
    exact ⟨a, vs, e1, e.fr _ _ t n.1, e.out t n, l, RpL.ext e ds vs r⟩
  | .ins c fs ds, v, h => by
    unfold Rp at h ⊢
    obtain ⟨a, C, dx, vs, e1, m, t, n, l, r⟩ := h
    exact ⟨a, C, dx, vs, e1, m, e.fr _ _ t n.1, e.out t n, l, RpL.ext e ds vs r⟩
  | .loc n, v, h => by
    unfold Rp at h ⊢
    exact ⟨Nat.lt_of_lt_of_le h.1 e.ln, fun a q => h.2 a (e.ph n a q h.1)⟩
  | .glo _, _, h => by unfold Rp at h ⊢; exact h
  | .exn _, _, h => by unfold Rp at h ⊢; exact h
  | .fls ds, v, h => by
    unfold Rp at h ⊢
    obtain ⟨a, xs, e1, t, r⟩ := h
    exact ⟨a, xs, e1, t.ext e, RpL.ext e ds xs r⟩
  | .exo c ns ds, v, h => by
    unfold Rp at h ⊢
    obtain ⟨a, C, od, vs, e1, m, t, n, z, q, l, r⟩ := h
    exact ⟨a, C, od, vs, e1, m, e.fr _ _ t n.1, e.out t n, z, fun d hd => ⟨e.fr _ _ (q d hd).1 (q d hd).2.1, e.out (q d hd).1 (q d hd).2⟩, l, RpL.ext e ds vs r⟩
theorem RpL.ext (e : Ext w H w' H') : ∀ (ds : List D) (vs : List V), RpL K mg w H ds vs → RpL K mg w' H' ds vs
  | [], _, h => by unfold RpL at h ⊢; exact h
  | d :: ds, vs, h => by
    unfold RpL at h ⊢
    obtain ⟨v, r, e1, h1, h2⟩ := h
    exact ⟨v, r, e1, Rp.ext e d v h1, RpL.ext e ds r h2⟩
end
theorem RpL.length : ∀ {ds : List D} {vs : List V}, RpL K mg w H ds vs → ds.length = vs.length
  | [], _, h => by unfold RpL at h; subst h; rfl
  | d :: ds, vs, h => by
    unfold RpL at h
    obtain ⟨v, r, e1, _, h2⟩ := h
    rw [e1, List.length_cons, List.length_cons, RpL.length h2]
theorem RpL.append : ∀ {ds es : List D} {vs us : List V}, RpL K mg w H ds vs → RpL K mg w H es us → RpL K mg w H (ds ++ es) (vs ++ us)
  | [], _, _, _, h, k => by unfold RpL at h; rw [h]; exact k
  | d :: ds, es, vs, us, h, k => by
    unfold RpL at h
    obtain ⟨v, r, e1, h1, h2⟩ := h
    rw [List.cons_append]; unfold RpL
    exact ⟨v, r ++ us, by rw [e1, List.cons_append], h1, RpL.append h2 k⟩
theorem RpL.get : ∀ {ds : List D} {vs : List V} {i : Nat} {d : D}, RpL K mg w H ds vs → ds[i]? = some d → ∃ v, vs[i]? = some v ∧ Rp K mg w H d v
  | [], _, _, _, _, e => by simp at e
  | d :: ds, vs, 0, _, h, e => by
    unfold RpL at h
    obtain ⟨v, r, e1, h1, _⟩ := h
    simp at e
    exact ⟨v, by rw [e1]; rfl, e ▸ h1⟩
  | d :: ds, vs, i + 1, _, h, e => by
    unfold RpL at h
    obtain ⟨v, r, e1, _, h2⟩ := h
    obtain ⟨u, h3, h4⟩ := RpL.get (i := i) h2 (by simpa using e)
    exact ⟨u, by rw [e1]; simpa using h3, h4⟩
theorem RpL.drop : ∀ {ds : List D} {vs : List V} (n : Nat), RpL K mg w H ds vs → RpL K mg w H (ds.drop n) (vs.drop n)
  | _, _, 0, h => h
  | [], vs, n + 1, h => by unfold RpL at h; rw [h]; simp; unfold RpL; rfl
  | d :: ds, vs, n + 1, h => by
    unfold RpL at h
    obtain ⟨v, r, e1, _, h2⟩ := h
    rw [e1]; exact RpL.drop n h2
theorem RpL.take : ∀ {ds : List D} {vs : List V} (n : Nat), RpL K mg w H ds vs → RpL K mg w H (ds.take n) (vs.take n)
  | _, _, 0, h => by simp; unfold RpL; rfl
  | [], vs, n + 1, h => by unfold RpL at h; rw [h]; simp; unfold RpL; rfl
  | d :: ds, vs, n + 1, h => by
    unfold RpL at h
    obtain ⟨v, r, e1, h1, h2⟩ := h
    rw [e1, List.take_succ_cons, List.take_succ_cons]; unfold RpL
    exact ⟨v, _, rfl, h1, RpL.take n h2⟩
theorem RpL.set : ∀ {ds : List D} {vs : List V} {d : D} {v : V} (i : Nat), RpL K mg w H ds vs → Rp K mg w H d v → RpL K mg w H (ds.set i d) (vs.set i v)
  | [], vs, _, _, _, h, _ => by unfold RpL at h; rw [h]; simp; unfold RpL; rfl
  | d :: ds, vs, e, u, 0, h, k => by
    unfold RpL at h
    obtain ⟨v, r, e1, h1, h2⟩ := h
    rw [e1, List.set_cons_zero, List.set_cons_zero]; unfold RpL
    exact ⟨u, r, rfl, k, h2⟩
  | d :: ds, vs, e, u, i + 1, h, k => by
    unfold RpL at h
    obtain ⟨v, r, e1, h1, h2⟩ := h
    rw [e1, List.set_cons_succ, List.set_cons_succ]; unfold RpL
    exact ⟨v, _, rfl, h1, RpL.set i h2 k⟩
theorem RpL.one {d : D} {v : V} (h : Rp K mg w H d v) : RpL K mg w H [d] [v] := by unfold RpL; exact ⟨v, [], rfl, h, by unfold RpL; rfl⟩
theorem RpL.nil : RpL K mg w H [] [] := by unfold RpL; rfl
theorem RpL.cons {d : D} {v : V} {ds : List D} {vs : List V} (h : Rp K mg w H d v) (t : RpL K mg w H ds vs) : RpL K mg w H (d :: ds) (v :: vs) := by unfold RpL; exact ⟨v, vs, rfl, h, t⟩
theorem RpL.nil_iff {ds : List D} {vs : List V} (h : RpL K mg w H ds vs) : ds = [] ↔ vs = [] := by
  have e := h.length
  constructor
  · rintro rfl; exact List.eq_nil_of_length_eq_zero e.symm
  · rintro rfl; exact List.eq_nil_of_length_eq_zero e
theorem RpL.one_inv {d : D} {vs : List V} (h : RpL K mg w H [d] vs) : ∃ v, vs = [v] ∧ Rp K mg w H d v := by
  unfold RpL at h
  obtain ⟨v, r, e1, h1, h2⟩ := h
  unfold RpL at h2
  exact ⟨v, by rw [e1, h2], h1⟩
theorem EnvR.ext {ρ : FEnv} {σ : L2.St} (e : Ext w H w' H') (h : EnvR K mg w H ρ σ) : EnvR K mg w' H' ρ σ := ⟨h.len, fun i d q => by
  obtain ⟨v, h1, h2⟩ := h.at_ i d q
  exact ⟨v, h1, Rp.ext e _ _ h2⟩⟩
theorem Sto.tracked (s : Sto K mg w S H) {a : Addr} (h : some a ∈ w.φ) : H a ≠ none := by
  obtain ⟨n, hn, e⟩ := List.mem_iff_getElem.mp h
  have h1 : w.φ[n]? = some (some a) := by rw [List.getElem?_eq_getElem hn, e]
  have hs : n < S.length := s.len ▸ hn
  have c := s.cell n S[n] (List.getElem?_eq_getElem hs)
  unfold CellR at c
  split at c
  · obtain ⟨b, xs, h2, h3, _⟩ := c
    rw [h1] at h2; cases h2; rw [h3]; exact fun z => nomatch z
  · obtain ⟨b, xs, o, h2, h3, _⟩ := c
    rw [h1] at h2; cases h2; rw [h3]; exact fun z => nomatch z
  · rw [h1] at c; cases c
  · obtain ⟨_, _, _, h2, ps, h3, _⟩ := c
    rw [h1] at h2; cases h2; rw [h3]; exact fun z => nomatch z
  · rw [h1] at c; cases c.1
  · rw [h1] at c; cases c.1
  · obtain ⟨b, C, dx, vs, h2, _, h3, _⟩ := c
    rw [h1] at h2; cases h2; rw [h3]; exact fun z => nomatch z
theorem Sto.new (s : Sto K mg w S H) {p : Addr} (h : H p = none) : w.Off p := ⟨fun z => s.tracked z h, fun z => (s.ap p z).1 h⟩
theorem Ext.new {p : Addr} {o : HO} (h : H p = none) : Ext w H w (upd H p o) := ⟨fun a u e _ => by rw [upd_ne (ne_of_none e h)]; exact e, Nat.le_refl _, fun _ _ h _ => h, fun _ h => .inl h, rfl⟩
theorem CellR.ext {c : Cell} {n : Nat} (e : Ext w H w' H') (hw : ∀ a, w.φ[n]? = some (some a) → w'.φ[n]? = some (some a) ∧ H' a = H a) (hd : w.φ[n]? = some none → w'.φ[n]? = some none) (h : CellR K mg w H c n) : CellR K mg w' H' c n := by
  unfold CellR at h ⊢
  split at h
  · obtain ⟨b, xs, h2, h3, h4⟩ := h
    exact ⟨b, xs, (hw b h2).1, by rw [(hw b h2).2]; exact h3, RpL.ext e _ _ h4⟩
  · obtain ⟨b, xs, o, h2, h3, h4⟩ := h
    exact ⟨b, xs, o, (hw b h2).1, by rw [(hw b h2).2]; exact h3, RpL.ext e _ _ h4⟩
  · exact hd h
  · obtain ⟨c0, P, ht, h2, ps, h3, h4, h5⟩ := h
    refine ⟨c0, P, ht, (hw _ h2).1, ps, by rw [(hw _ h2).2]; exact h3, h4, fun pos cv hc => ?_⟩
    obtain ⟨c, e1, e2, e3⟩ := h5 pos cv hc
    exact ⟨c, e1, e.fr _ _ e2 e3.1, e.out e2 e3⟩
  · obtain ⟨h1, h2, h3, ⟨φ, h4, h6⟩, h5⟩ := h
    refine ⟨hd h1, by rw [e.hd]; exact h2, fun z => ?_, ⟨φ, e.fr _ _ h4 h3, h6⟩, h5⟩
    rcases e.nw _ z with z | z
    · exact h3 z
    · rw [h4] at z; cases z
  · exact ⟨hd h.1, EnvR.ext e h.2⟩
  · obtain ⟨b, C, dx, vs, h2, h3, h4, h5, h6⟩ := h
    exact ⟨b, C, dx, vs, (hw b h2).1, h3, by rw [(hw b h2).2]; exact h4, h5, RpL.ext e _ _ h6⟩
theorem upd_some {p a : Addr} {o : HO} (h : H a ≠ none) : upd H p o a ≠ none := by
  by_cases e : a = p
  · subst e; rw [upd_same]; exact fun z => nomatch z
  · rw [upd_ne e]; exact h
/-- a new object beside -/
theorem Sto.beside {p : Addr} {o : HO} (s : Sto K mg w S H) (h : H p = none) : Sto K mg w S (upd H p o) := ⟨s.len, s.nd, fun a ha => ⟨upd_some (s.ap a ha).1, (s.ap a ha).2⟩, fun n c q => CellR.ext (Ext.new h) (fun a ha => ⟨ha, by
  have : a ≠ p := fun z => by subst z; exact (s.new h).1 (List.mem_of_getElem? ha)
  rw [upd_ne this]⟩) id (s.cell n c q)⟩
end

section
variable {K : PySem.W.Frag} {mg : Str → Option Value} {α β γ δ : Type} {R : Wd → Hp → α → β → Prop} {R' : Wd → Hp → γ → δ → Prop} {w w1 : Wd} {H H1 : Hp} {r : RE α} {E : Value → Option Addr → Hp → Prop}
theorem ExR.id {x : Ex} {c : Value} {od : Option Addr} (h : ExR K mg w H x c od) : ExR K mg w H x c od := h
theorem End.imp {Q Q' : β → Hp → Prop} {E' : Value → Option Addr → Hp → Prop} (h : End K mg R w H r Q E) (hq : ∀ b H', Q b H' → Q' b H') (he : ∀ c od H', E c od H' → E' c od H') : End K mg R w H r Q' E' := by
  unfold End at h ⊢
  split
  · exact fun w' H' b e s k => hq _ _ (h w' H' b e s k)
  · exact fun w' H' b od e s k => he _ _ _ (h w' H' b od e s k)
  · exact h
theorem End.on {Q : β → Hp → Prop} (x : Ext w H w1 H1) (h : End K mg R w H r Q E) : End K mg R w1 H1 r Q E := by
  unfold End at h ⊢
  split
  · exact fun w' H' b e s k => h w' H' b (x.trans e) s k
  · exact fun w' H' b od e s k => h w' H' b od (x.trans e) s k
  · exact h
/-- one after the other -/
theorem End.bind {k : α → Store → RE γ} {Q : δ → Hp → Prop} (h : End K mg R' w H (r.bnd k) Q E) :
    End K mg R w H r (fun b H1 => ∃ w1 S1 a, Ext w H w1 H1 ∧ Sto K mg w1 S1 H1 ∧ R w1 H1 a b ∧ End K mg R' w1 H1 (k a S1) Q E) E := by
  cases r with
  | ok a S1 =>
    have h' : End K mg R' w H (k a S1) Q E := h
    exact fun w' H' b e s kk => ⟨w', S1, a, e, s, kk, h'.on e⟩
  | ex x S1 => exact h
  | no => exact h
theorem End.ret {Q : β → Hp → Prop} {a : α} {b : β} {S : Store} (h : End K mg R w H (.ok a S) Q E) (s : Sto K mg w S H) (k : R w H a b) : Q b H := h w H b Ext.refl s k
end

section
variable {X : Cx} {W : WX}
theorem PE.wk {e : Expr} {t t' : TE} (h : PE X e t) (m : ∀ σ H Q, t' σ H Q → t σ H Q) : PE X e t' := ⟨fun pins s σ H Q I k => h.run pins s σ H Q I (m σ H Q k)⟩
theorem PT.wk {e : Expr} {t t' : TT} (h : PT X e t) (m : ∀ σ H Q, t' σ H Q → t σ H Q) : PT X e t' := ⟨fun pins s σ H Q I k => h.run pins s σ H Q I (m σ H Q k)⟩
theorem PW.wk {e : Expr} {t t' : TT} (h : PW X e t) (m : ∀ σ H Q, t' σ H Q → t σ H Q) : PW X e t' := ⟨fun wh pins s σ H Q I k => h.run wh pins s σ H Q I (m σ H Q k)⟩
theorem PA.wk {e : List Expr} {t t' : TA} (h : PA X e t) (m : ∀ σ H Q, t' σ H Q → t σ H Q) : PA X e t' := ⟨fun pos pins s σ H Q I k => h.run pos pins s σ H Q I (m σ H Q k)⟩
theorem PS.wk {e : Stmt} {t t' : TS} (h : PS X e t) (m : ∀ D σ H, t' D σ H → t D σ H) : PS X e t' := ⟨fun pins s σ H D I k => h.run pins s σ H D I (m D σ H k)⟩
theorem PSs.wk {e : List Stmt} {t t' : TS} (h : PSs X e t) (m : ∀ D σ H, t' D σ H → t D σ H) : PSs X e t' := ⟨fun pins s σ H D I k => h.run pins s σ H D I (m D σ H k)⟩
end
end Kw

/-! Kw2: expressions read as functions over trees. -/
namespace Kw
open PySem PySem.Spec PyProof.Rows L2

/-! ### looking into the store -/
def cellOf (S : Store) (n : Nat) : Option (List D) := match S[n]? with
  | some (.lst ds) => some ds
  | some (.frz ds) => some ds
  | _ => none
def cellM (S : Store) (n : Nat) : Option (List D) := match S[n]? with
  | some (.lst ds) => some ds
  | _ => none
/-- a list that is read -/
def seqL (S : Store) : D → Option (List D)
  | .lst ds => some ds
  | .fls ds => some ds
  | .loc n => cellOf S n
  | _ => none
/-- a list that is no locked one -/
def seqM (S : Store) : D → Option (List D)
  | .lst ds => some ds
  | .loc n => cellM S n
  | _ => none
/-- a list or a tuple -/
def seqA (S : Store) : D → Option (List D)
  | .lst ds => some ds
  | .fls ds => some ds
  | .loc n => cellOf S n
  | .tup ds => some ds
  | _ => none
mutual
def py0 : D → Option PyData
  | .non => some .none
  | .bl b => some (.bool b)
  | .int i => some (.int i)
  | .str x => some (.str x)
  | .tup ds => (py0L ds).map .tuple
  | .lst ds => (py0L ds).map .list
  | .fls ds => (py0L ds).map .list
  | _ => none
def py0L : List D → Option (List PyData)
  | [] => some []
  | d :: ds => (py0 d).bind fun a => (py0L ds).map (a :: ·)
end
mutual
/-- a value as plain data -/
def pyS (S : Store) : D → Option PyData
  | .non => some .none
  | .bl b => some (.bool b)
  | .int i => some (.int i)
  | .str x => some (.str x)
  | .tup ds => (pySL S ds).map .tuple
  | .lst ds => (pySL S ds).map .list
  | .fls ds => (pySL S ds).map .list
  | .loc n => ((cellOf S n).bind py0L).map .list
  | _ => none
def pySL (S : Store) : List D → Option (List PyData)
  | [] => some []
  | d :: ds => (pyS S d).bind fun a => (pySL S ds).map (a :: ·)
end
section
variable {K : PySem.W.Frag} {mg : Str → Option Value} {w : Wd} {H : Hp} {S : Store}
theorem cellOf_at (s : Sto K mg w S H) {n : Nat} {ds : List D} (h : cellOf S n = some ds) : ∃ a xs, w.φ[n]? = some (some a) ∧ Rd H a (.lst xs) ∧ RpL K mg w H ds xs := by
  unfold cellOf at h
  split at h
  · rename_i e he
    cases h
    obtain ⟨a, xs, h1, h2, h3⟩ := s.cell n _ he
    exact ⟨a, xs, h1, .inl h2, h3⟩
  · rename_i e he
    cases h
    obtain ⟨a, xs, o, h1, h2, h3⟩ := s.cell n _ he
    exact ⟨a, xs, h1, .inr ⟨o, h2⟩, h3⟩
  · cases h
theorem cellM_at (s : Sto K mg w S H) {n : Nat} {ds : List D} (h : cellM S n = some ds) : ∃ a xs, w.φ[n]? = some (some a) ∧ H a = some (.lst xs) ∧ RpL K mg w H ds xs := by
  unfold cellM at h
  split at h
  · rename_i e he
    cases h
    obtain ⟨a, xs, h1, h2, h3⟩ := s.cell n _ he
    exact ⟨a, xs, h1, h2, h3⟩
  · cases h
theorem Fp.sq {a : Addr} {xs : List V} (h : Fp K w H a xs) : SqL K H a xs := by
  rcases h with ⟨o, h, _⟩ | h
  · exact .inl (.inr ⟨o, h⟩)
  · exact .inr h
theorem seqL_at (s : Sto K mg w S H) {d : D} {v : V} {ds : List D} (r : Rp K mg w H d v) (h : seqL S d = some ds) : ∃ a xs, v = .ref a ∧ SqL K H a xs ∧ RpL K mg w H ds xs := by
  cases d <;> simp only [seqL] at h <;> try (cases h; done)
  · cases h
    unfold Rp at r
    obtain ⟨a, xs, e, t, _, q⟩ := r
    exact ⟨a, xs, e, .of t, q⟩
  · obtain ⟨a, xs, h1, h2, h3⟩ := cellOf_at s h
    unfold Rp at r
    exact ⟨a, xs, r.2 a h1, .inl h2, h3⟩
  · cases h
    unfold Rp at r
    obtain ⟨a, xs, e, t, q⟩ := r
    exact ⟨a, xs, e, t.sq, q⟩
theorem seqM_at (s : Sto K mg w S H) {d : D} {v : V} {ds : List D} (r : Rp K mg w H d v) (h : seqM S d = some ds) : ∃ a xs, v = .ref a ∧ H a = some (.lst xs) ∧ RpL K mg w H ds xs := by
  cases d <;> simp only [seqM] at h <;> try (cases h; done)
  · cases h
    unfold Rp at r
    obtain ⟨a, xs, e, t, _, q⟩ := r
    exact ⟨a, xs, e, t, q⟩
  · obtain ⟨a, xs, h1, h2, h3⟩ := cellM_at s h
    unfold Rp at r
    exact ⟨a, xs, r.2 a h1, h2, h3⟩
theorem Tp.sq {a : Addr} {xs : List V} (h : Tp K w H a xs) : SqT K H a xs := by
  rcases h with ⟨h, _⟩ | h
  · exact .of h
  · exact .inr h
theorem tup_at {ds : List D} {v : V} (r : Rp K mg w H (.tup ds) v) : ∃ a xs, v = .ref a ∧ SqT K H a xs ∧ RpL K mg w H ds xs := by
  unfold Rp at r
  obtain ⟨a, xs, e, t, q⟩ := r
  exact ⟨a, xs, e, t.sq, q⟩
theorem seqA_at (s : Sto K mg w S H) {d : D} {v : V} {ds : List D} (r : Rp K mg w H d v) (h : seqA S d = some ds) : ∃ a xs, v = .ref a ∧ (SqL K H a xs ∨ SqT K H a xs) ∧ RpL K mg w H ds xs := by
  cases d <;> simp only [seqA] at h <;> try (cases h; done)
  · cases h
    obtain ⟨a, xs, e, t, q⟩ := tup_at r
    exact ⟨a, xs, e, .inr t, q⟩
  · cases h
    unfold Rp at r
    obtain ⟨a, xs, e, t, _, q⟩ := r
    exact ⟨a, xs, e, .inl (.of t), q⟩
  · obtain ⟨a, xs, h1, h2, h3⟩ := cellOf_at s h
    unfold Rp at r
    exact ⟨a, xs, r.2 a h1, .inl (.inl h2), h3⟩
  · cases h
    unfold Rp at r
    obtain ⟨a, xs, e, t, q⟩ := r
    exact ⟨a, xs, e, .inl t.sq, q⟩
mutual
theorem py0_at : ∀ (d : D) (v : V) (p : PyData), Rp K mg w H d v → py0 d = some p → Dp K H v p
  | .non, v, p, r, h => by unfold Rp at r; simp only [py0] at h; cases h; subst r; exact .non
  | .bl _, v, p, r, h => by unfold Rp at r; simp only [py0] at h; cases h; subst r; exact .bl _
  | .int _, v, p, r, h => by unfold Rp at r; simp only [py0] at h; cases h; subst r; exact .int _
  | .str _, v, p, r, h => by unfold Rp at r; simp only [py0] at h; cases h; subst r; exact .str _
  | .tup ds, v, p, r, h => by
    obtain ⟨a, xs, e, t, q⟩ := tup_at r
    simp only [py0, Option.map_eq_some_iff] at h
    obtain ⟨ps, h1, h2⟩ := h
    subst e; subst h2
    exact .tup t (py0L_at ds xs ps q h1)
  | .lst ds, v, p, r, h => by
    unfold Rp at r
    obtain ⟨a, xs, e, t, _, q⟩ := r
    simp only [py0, Option.map_eq_some_iff] at h
    obtain ⟨ps, h1, h2⟩ := h
    subst e; subst h2
    exact .lst (.of t) (py0L_at ds xs ps q h1)
  | .dic _ _, v, p, r, h => by simp [py0] at h
  | .ins _ _ _, v, p, r, h => by simp [py0] at h
  | .loc _, v, p, r, h => by simp [py0] at h
  | .glo _, v, p, r, h => by simp [py0] at h
  | .exn _, v, p, r, h => by simp [py0] at h
  | .exo _ _ _, v, p, r, h => by simp [py0] at h
  | .fls ds, v, p, r, h => by
    unfold Rp at r
    obtain ⟨a, xs, e, t, q⟩ := r
    simp only [py0, Option.map_eq_some_iff] at h
    obtain ⟨ps, h1, h2⟩ := h
    subst e; subst h2
    exact .lst t.sq (py0L_at ds xs ps q h1)
theorem py0L_at : ∀ (ds : List D) (vs : List V) (ps : List PyData), RpL K mg w H ds vs → py0L ds = some ps → DpAll K H vs ps
  | [], vs, ps, r, h => by unfold RpL at r; simp only [py0L] at h; cases h; subst r; exact .nil
  | d :: ds, vs, ps, r, h => by
    unfold RpL at r
    obtain ⟨v, vs', e, r1, r2⟩ := r
    simp only [py0L, Option.bind_eq_some_iff, Option.map_eq_some_iff] at h
    obtain ⟨a, h1, b, h2, h3⟩ := h
    subst e; subst h3
    exact .cons (py0_at d v a r1 h1) (py0L_at ds vs' b r2 h2)
end
mutual
theorem pyS_at (s : Sto K mg w S H) : ∀ (d : D) (v : V) (p : PyData), Rp K mg w H d v → pyS S d = some p → Dp K H v p
  | .non, v, p, r, h => by unfold Rp at r; simp only [pyS] at h; cases h; subst r; exact .non
  | .bl _, v, p, r, h => by unfold Rp at r; simp only [pyS] at h; cases h; subst r; exact .bl _
  | .int _, v, p, r, h => by unfold Rp at r; simp only [pyS] at h; cases h; subst r; exact .int _
  | .str _, v, p, r, h => by unfold Rp at r; simp only [pyS] at h; cases h; subst r; exact .str _
  | .tup ds, v, p, r, h => by
    obtain ⟨a, xs, e, t, q⟩ := tup_at r
    simp only [pyS, Option.map_eq_some_iff] at h
    obtain ⟨ps, h1, h2⟩ := h
    subst e; subst h2
    exact .tup t (pySL_at s ds xs ps q h1)
  | .lst ds, v, p, r, h => by
    unfold Rp at r
    obtain ⟨a, xs, e, t, _, q⟩ := r
    simp only [pyS, Option.map_eq_some_iff] at h
    obtain ⟨ps, h1, h2⟩ := h
    subst e; subst h2
    exact .lst (.of t) (pySL_at s ds xs ps q h1)
  | .loc n, v, p, r, h => by
    simp only [pyS, Option.map_eq_some_iff, Option.bind_eq_some_iff] at h
    obtain ⟨ps, ⟨ds, h0, h1⟩, h2⟩ := h
    obtain ⟨a, xs, h3, h4, h5⟩ := cellOf_at s h0
    unfold Rp at r
    have e := r.2 a h3
    subst e; subst h2
    exact .lst (.inl h4) (py0L_at ds xs ps h5 h1)
  | .dic _ _, v, p, r, h => by simp [pyS] at h
  | .ins _ _ _, v, p, r, h => by simp [pyS] at h
  | .glo _, v, p, r, h => by simp [pyS] at h
  | .exn _, v, p, r, h => by simp [pyS] at h
  | .exo _ _ _, v, p, r, h => by simp [pyS] at h
  | .fls ds, v, p, r, h => by
    unfold Rp at r
    obtain ⟨a, xs, e, t, q⟩ := r
    simp only [pyS, Option.map_eq_some_iff] at h
    obtain ⟨ps, h1, h2⟩ := h
    subst e; subst h2
    exact .lst t.sq (pySL_at s ds xs ps q h1)
theorem pySL_at (s : Sto K mg w S H) : ∀ (ds : List D) (vs : List V) (ps : List PyData), RpL K mg w H ds vs → pySL S ds = some ps → DpAll K H vs ps
  | [], vs, ps, r, h => by unfold RpL at r; simp only [pySL] at h; cases h; subst r; exact .nil
  | d :: ds, vs, ps, r, h => by
    unfold RpL at r
    obtain ⟨v, vs', e, r1, r2⟩ := r
    simp only [pySL, Option.bind_eq_some_iff, Option.map_eq_some_iff] at h
    obtain ⟨a, h1, b, h2, h3⟩ := h
    subst e; subst h3
    exact .cons (pyS_at s d v a r1 h1) (pySL_at s ds vs' b r2 h2)
end
end

/-! ### expressions -/
def fVar (i : Nat) : FE := fun ρ S => match ρ[i]? with
  | some (some d) => .ok d S
  | _ => .no
def fC (d : D) : FE := fun _ S => .ok d S
def f1 (g : D → Store → RE D) (a : FE) : FE := fun ρ S => (a ρ S).bnd fun x S1 => g x S1
def f2 (g : D → D → Store → RE D) (a b : FE) : FE := fun ρ S => (a ρ S).bnd fun x S1 => (b ρ S1).bnd fun y S2 => g x y S2
def fNil : FA := fun _ S => .ok [] S
def fCons (a : FE) (r : FA) : FA := fun ρ S => (a ρ S).bnd fun x S1 => (r ρ S1).bnd fun xs S2 => .ok (x :: xs) S2
def fArg (g : List D → Store → RE D) (a : FA) : FE := fun ρ S => (a ρ S).bnd g
/-- what the operation's reading asks is given -/
def OpV (K : PySem.W.Frag) (mg : Str → Option Value) (r : R2) (g : D → D → Store → RE D) : Prop :=
  ∀ (w : Wd) (S : Store) (H : Hp) (x y : V) (d e : D) (Q : VK) (E : Value → Option Addr → Hp → Prop), Sto K mg w S H → Rp K mg w H d x → Rp K mg w H e y → End K mg (fun w H => Rp K mg w H) w H (g d e S) Q E → r x y H Q
def CallV (K : PySem.W.Frag) (mg : Str → Option Value) (r : List V → Hp → VK → Prop) (g : List D → Store → RE D) : Prop :=
  ∀ (w : Wd) (S : Store) (H : Hp) (xs : List V) (ds : List D) (Q : VK) (E : Value → Option Addr → Hp → Prop), Sto K mg w S H → RpL K mg w H ds xs → End K mg (fun w H => Rp K mg w H) w H (g ds S) Q E → r xs H Q
section
variable {X : Cx} {W : WX} {a b e : Expr} {es : List Expr} {fa fb : FE} {fs : FA} {pos : Pos}
theorem tF_bind {f : FE} {k : FEnv → D → Store → RE D} {σ : L2.St} {H : Hp} {Q : VK} {t : VK} (h : tF X W (fun ρ S => (f ρ S).bnd (k ρ)) σ H Q)
    (hk : ∀ w ρ S H1 d v, Sto X.K X.mg w S H1 → EnvR X.K X.mg w H1 ρ σ → Rp X.K X.mg w H1 d v → End X.K X.mg (fun w H => Rp X.K X.mg w H) w H1 (k ρ d S) Q (fun c od H' => W c od σ H') → t v H1) : tF X W f σ H t := by
  obtain ⟨w, ρ, S, s, en, h⟩ := h
  refine ⟨w, ρ, S, s, en, (End.bind h).imp ?_ (fun _ _ _ z => z)⟩
  rintro v H1 ⟨w1, S1, d, e1, s1, r1, h1⟩
  exact hk w1 ρ S1 H1 d v s1 (en.ext e1) r1 h1
theorem two {r : R2} {g : D → D → Store → RE D} (hv : OpV X.K X.mg r g) {σ : L2.St} {H : Hp} {Q : VK} (h : tF X W (f2 g fa fb) σ H Q) : tOp r (tF X W fa) (tF X W fb) σ H Q := by
  obtain ⟨w, ρ, S, s, en, h⟩ := h
  refine ⟨w, ρ, S, s, en, (End.bind h).imp ?_ (fun _ _ _ z => z)⟩
  rintro x H1 ⟨w1, S1, d, e1, s1, r1, h1⟩
  refine ⟨w1, ρ, S1, s1, en.ext e1, (End.bind h1).imp ?_ (fun _ _ _ z => z)⟩
  rintro y H2 ⟨w2, S2, d2, e2, s2, r2, h2⟩
  exact hv w2 S2 H2 x y d d2 Q _ s2 (Rp.ext e2 _ _ r1) r2 h2
theorem q_var (i : Nat) {x : Str} (hN : X.N[i]? = some x := by rfl) (hv : Vis X.env.scope x := by first | exact Or.inl rfl | exact Or.inr (Or.inl rfl) | exact Or.inr (Or.inr rfl)) (hd : (x == ("__debug__" : Str)) = false := by decide)
    (hcd : (x == ("__classdict__" : Str)) = false := by decide) : PE X (.Name x pos) (tF X W (fVar i)) :=
  PE.wk (pe_var hN hv hd hcd) fun σ H Q ⟨w, ρ, S, s, en, h⟩ => by
    unfold fVar at h
    split at h
    · rename_i d hd
      obtain ⟨v, h1, h2⟩ := en.at_ i d hd
      exact ⟨v, h1, h.ret s h2⟩
    · exact h.elim
theorem q_const {d : D} {v : V} (hr : ∀ w H, Rp X.K X.mg w H d v) (h : PE X e (tC v)) : PE X e (tF X W (fC d)) := PE.wk h fun σ H Q ⟨w, ρ, S, s, en, h⟩ => h.ret s (hr w H)
theorem q_int {i j} : PE X (.Constant (.int i) j pos) (tF X W (fC (.int i))) := q_const (fun w H => by unfold Rp; rfl) pe_int
theorem q_bl {i j} : PE X (.Constant (.bool i) j pos) (tF X W (fC (.bl i))) := q_const (fun w H => by unfold Rp; rfl) pe_bl
theorem q_non {j} : PE X (.Constant .none j pos) (tF X W (fC .non)) := q_const (fun w H => by unfold Rp; rfl) pe_non
theorem q_str {i j} : PE X (.Constant (.str i) j pos) (tF X W (fC (.str i))) := q_const (fun w H => by unfold Rp; rfl) pe_str
theorem q_op {op : Operator} {r : R2} {g : D → D → Store → RE D} (ho : OpR X (binaryOp op) r) (hv : OpV X.K X.mg r g) (ha : PE X a (tF X W fa)) (hb : PE X b (tF X W fb)) : PE X (.BinOp a op b pos) (tF X W (f2 g fa fb)) :=
  PE.wk (pe_op ho ha hb) fun σ H Q h => two hv h
theorem q_cmp {op : CmpOp} {r : R2} {g : D → D → Store → RE D} (ho : OpR X (compareOp op) r) (hv : OpV X.K X.mg r g) (ha : PE X a (tF X W fa)) (hb : PE X b (tF X W fb)) (hm : behindInMarks op b = false) : PE X (.Compare a [op] [b] pos) (tF X W (f2 g fa fb)) :=
  PE.wk (pe_cmpR ho ha hb hm) fun σ H Q h => two hv h
/-- a value that is a truth, as a test -/
def fB (f : FE) : FT := fun ρ S => (f ρ S).bnd fun x S1 => match x with
  | .bl k => .ok k S1
  | _ => .no
theorem tF_of_fB {f : FE} {σ : L2.St} {H : Hp} {Q : Bool → Hp → Prop} (h : tT X W (fB f) σ H Q) : tF X W f σ H (fun v H' => ∃ k, v = .bl k ∧ Q k H') := by
  obtain ⟨w, ρ, S, s, en, h⟩ := h
  refine ⟨w, ρ, S, s, en, (End.bind (R := fun w H => Rp X.K X.mg w H) h).imp ?_ (fun _ _ _ z => z)⟩
  rintro x H1 ⟨w1, S1, d, e1, s1, r1, h1⟩
  cases d <;> try exact h1.elim
  unfold Rp at r1
  exact ⟨_, r1, h1.ret s1 rfl⟩
theorem qt_cmp {op : CmpOp} {r : R2} {g : D → D → Store → RE D} (ho : OpR X (compareOp op) r) (hv : OpV X.K X.mg r g) (ha : PE X a (tF X W fa)) (hb : PE X b (tF X W fb)) (hm : behindInMarks op b = false) : PT X (.Compare a [op] [b] pos) (tT X W (fB (f2 g fa fb))) :=
  PT.wk (pt_cmpR ho ha hb hm) fun σ H Q h => two hv (tF_of_fB h)
/-- a op1 b op2 c -/
def fChain (g g' : D → D → Store → RE D) (a b c : FE) : FE := fun ρ S => (a ρ S).bnd fun x S1 => (b ρ S1).bnd fun y S2 => (g x y S2).bnd fun k S3 => match k with
  | .bl true => (c ρ S3).bnd fun z S4 => g' y z S4
  | .bl false => .ok (.bl false) S3
  | _ => .no
theorem chain {r r' : R2} {g g' : D → D → Store → RE D} (hv : OpV X.K X.mg r g) (hv' : OpV X.K X.mg r' g') {fc : FE} {σ : L2.St} {H : Hp} {Q : VK} (h : tF X W (fChain g g' fa fb fc) σ H Q) : tChain r r' (tF X W fa) (tF X W fb) (tF X W fc) σ H Q := by
  obtain ⟨w, ρ, S, s, en, h⟩ := h
  refine ⟨w, ρ, S, s, en, (End.bind h).imp ?_ (fun _ _ _ z => z)⟩
  rintro x H1 ⟨w1, S1, d, e1, s1, r1, h1⟩
  refine ⟨w1, ρ, S1, s1, en.ext e1, (End.bind h1).imp ?_ (fun _ _ _ z => z)⟩
  rintro y H2 ⟨w2, S2, d2, e2, s2, r2, h2⟩
  refine hv w2 S2 H2 x y d d2 _ _ s2 (Rp.ext e2 _ _ r1) r2 ((End.bind h2).imp ?_ (fun _ _ _ z => z))
  rintro z H3 ⟨w3, S3, d3, e3, s3, r3, h3⟩
  cases d3 <;> try exact h3.elim
  rename_i k
  unfold Rp at r3
  refine ⟨k, r3, ?_⟩
  cases k with
  | false => rw [if_neg (by decide)]; exact h3.ret s3 (by unfold Rp; rfl)
  | true =>
    rw [if_pos rfl]
    refine ⟨w3, ρ, S3, s3, ((en.ext e1).ext e2).ext e3, (End.bind h3).imp ?_ (fun _ _ _ z => z)⟩
    rintro u H4 ⟨w4, S4, d4, e4, s4, r4, h4⟩
    exact hv' w4 S4 H4 y u d2 d4 _ _ s4 (Rp.ext e4 _ _ (Rp.ext e3 _ _ r2)) r4 h4
theorem q_chain {c : Expr} {fc : FE} {op op' : CmpOp} {r r' : R2} {g g' : D → D → Store → RE D} (ho : OpR X (compareOp op) r) (hv : OpV X.K X.mg r g) (ho' : OpR X (compareOp op') r') (hv' : OpV X.K X.mg r' g') (ha : PE X a (tF X W fa)) (hb : PE X b (tF X W fb)) (hc : PE X c (tF X W fc))
    (hm : lastMarks [op, op'] [b, c] = false := by with_unfolding_all rfl) : PE X (.Compare a [op, op'] [b, c] pos) (tF X W (fChain g g' fa fb fc)) :=
  PE.wk (pe_chain ho ho' ha hb hc hm) fun σ H Q h => chain hv hv' h
theorem qt_chain {c : Expr} {fc : FE} {op op' : CmpOp} {r r' : R2} {g g' : D → D → Store → RE D} (ho : OpR X (compareOp op) r) (hv : OpV X.K X.mg r g) (ho' : OpR X (compareOp op') r') (hv' : OpV X.K X.mg r' g') (ha : PE X a (tF X W fa)) (hb : PE X b (tF X W fb)) (hc : PE X c (tF X W fc))
    (hm : lastMarks [op, op'] [b, c] = false := by with_unfolding_all rfl) : PT X (.Compare a [op, op'] [b, c] pos) (tT X W (fB (fChain g g' fa fb fc))) :=
  PT.wk (pt_chain ho ho' ha hb hc hm) fun σ H Q h => chain hv hv' (tF_of_fB h)

/-! ### and, or, not, if -/
def fAnd (a b : FT) : FT := fun ρ S => (a ρ S).bnd fun k S1 => match k with
  | true => b ρ S1
  | false => .ok false S1
def fOr (a b : FT) : FT := fun ρ S => (a ρ S).bnd fun k S1 => match k with
  | true => .ok true S1
  | false => b ρ S1
def fNot (a : FT) : FT := fun ρ S => (a ρ S).bnd fun k S1 => .ok (!k) S1
def fIf (c : FT) (a b : FE) : FE := fun ρ S => (c ρ S).bnd fun k S1 => match k with
  | true => a ρ S1
  | false => b ρ S1
/-- a test's value -/
def fV (a : FT) : FE := fun ρ S => (a ρ S).bnd fun k S1 => .ok (.bl k) S1
variable {ta tb : FT} {rest : List Expr}
theorem tT_bind {β : Type} {R' : Wd → Hp → β → β → Prop} {f : FT} {σ : L2.St} {H : Hp} {t : Bool → Hp → Prop} {w : Wd} {ρ : FEnv} {S : Store} {γ δ : Type} {RR : Wd → Hp → γ → δ → Prop} {k : Bool → Store → RE γ} {Q : δ → Hp → Prop}
    (s : Sto X.K X.mg w S H) (en : EnvR X.K X.mg w H ρ σ) (h : End X.K X.mg RR w H ((f ρ S).bnd k) Q (fun c od H' => W c od σ H'))
    (hk : ∀ w1 S1 H1 b, Sto X.K X.mg w1 S1 H1 → EnvR X.K X.mg w1 H1 ρ σ → End X.K X.mg RR w1 H1 (k b S1) Q (fun c od H' => W c od σ H') → t b H1) : tT X W f σ H t := by
  refine ⟨w, ρ, S, s, en, (End.bind h).imp ?_ (fun _ _ _ z => z)⟩
  rintro v H1 ⟨w1, S1, d, e1, s1, r1, h1⟩
  cases r1
  exact hk w1 S1 H1 _ s1 (en.ext e1) h1
theorem qw_one {op : BoolOp} (ha : PT X a (tT X W ta)) : PW X (.BoolOp op [a] pos) (tT X W ta) := by
  cases op
  · exact pw_and1 ha
  · exact pw_or1 ha
theorem qw_and (ha : PT X a (tT X W ta)) (hb : PW X (.BoolOp .And (b :: rest) pos) (tT X W tb)) : PW X (.BoolOp .And (a :: b :: rest) pos) (tT X W (fAnd ta tb)) :=
  PW.wk (pw_and ha hb) fun σ H Q ⟨w, ρ, S, s, en, h⟩ => tT_bind (R' := fun _ _ (a b : Nat) => True) s en h fun w1 S1 H1 k s1 en1 h1 => by
    cases k with
    | true => rw [if_pos rfl]; exact ⟨w1, ρ, S1, s1, en1, h1⟩
    | false => rw [if_neg (by decide)]; exact h1.ret s1 rfl
theorem qw_or (ha : PT X a (tT X W ta)) (hb : PW X (.BoolOp .Or (b :: rest) pos) (tT X W tb)) : PW X (.BoolOp .Or (a :: b :: rest) pos) (tT X W (fOr ta tb)) :=
  PW.wk (pw_or ha hb) fun σ H Q ⟨w, ρ, S, s, en, h⟩ => tT_bind (R' := fun _ _ (a b : Nat) => True) s en h fun w1 S1 H1 k s1 en1 h1 => by
    cases k with
    | true => rw [if_pos rfl]; exact h1.ret s1 rfl
    | false => rw [if_neg (by decide)]; exact ⟨w1, ρ, S1, s1, en1, h1⟩
theorem qt_not (ha : PT X a (tT X W ta)) : PT X (.UnaryOp .Not a pos) (tT X W (fNot ta)) :=
  PT.wk (pt_not ha) fun σ H Q ⟨w, ρ, S, s, en, h⟩ => tT_bind (R' := fun _ _ (a b : Nat) => True) s en h fun w1 S1 H1 k s1 en1 h1 => h1.ret s1 rfl
theorem q_if {c : Expr} {tc : FT} (hc : PT X c (tT X W tc)) (ha : PE X a (tF X W fa)) (hb : PE X b (tF X W fb)) : PE X (.IfExp c a b pos) (tF X W (fIf tc fa fb)) :=
  PE.wk (pe_ifExp hc ha hb) fun σ H Q ⟨w, ρ, S, s, en, h⟩ => tT_bind (R' := fun _ _ (a b : Nat) => True) s en h fun w1 S1 H1 k s1 en1 h1 => by
    cases k with
    | true => rw [if_pos rfl]; exact ⟨w1, ρ, S1, s1, en1, h1⟩
    | false => rw [if_neg (by decide)]; exact ⟨w1, ρ, S1, s1, en1, h1⟩
/-- and, or, not as values: all but the last one truths -/
def fAndV (a b : FE) : FE := fun ρ S => (a ρ S).bnd fun k S1 => match k with
  | .bl true => b ρ S1
  | .bl false => .ok (.bl false) S1
  | _ => .no
def fOrV (a b : FE) : FE := fun ρ S => (a ρ S).bnd fun k S1 => match k with
  | .bl true => .ok (.bl true) S1
  | .bl false => b ρ S1
  | _ => .no
theorem q_one {op : BoolOp} (ha : PE X a (tF X W fa)) : PE X (.BoolOp op [a] pos) (tF X W fa) := pe_one ha
theorem q_and (ha : PE X a (tF X W fa)) (hb : PE X (.BoolOp .And (b :: rest) pos) (tF X W fb)) : PE X (.BoolOp .And (a :: b :: rest) pos) (tF X W (fAndV fa fb)) :=
  PE.wk (pe_and ha hb) fun σ H Q ⟨w, ρ, S, s, en, h⟩ => by
    refine ⟨w, ρ, S, s, en, (End.bind h).imp ?_ (fun _ _ _ z => z)⟩
    rintro x H1 ⟨w1, S1, d, e1, s1, r1, h1⟩
    cases d <;> try exact h1.elim
    rename_i k
    unfold Rp at r1
    refine ⟨k, r1, ?_⟩
    cases k with
    | true => rw [if_pos rfl]; exact ⟨w1, ρ, S1, s1, en.ext e1, h1⟩
    | false => rw [if_neg (by decide)]; exact h1.ret s1 (by unfold Rp; rfl)
theorem q_or (ha : PE X a (tF X W fa)) (hb : PE X (.BoolOp .Or (b :: rest) pos) (tF X W fb)) : PE X (.BoolOp .Or (a :: b :: rest) pos) (tF X W (fOrV fa fb)) :=
  PE.wk (pe_or ha hb) fun σ H Q ⟨w, ρ, S, s, en, h⟩ => by
    refine ⟨w, ρ, S, s, en, (End.bind h).imp ?_ (fun _ _ _ z => z)⟩
    rintro x H1 ⟨w1, S1, d, e1, s1, r1, h1⟩
    cases d <;> try exact h1.elim
    rename_i k
    unfold Rp at r1
    refine ⟨k, r1, ?_⟩
    cases k with
    | true => rw [if_pos rfl]; exact h1.ret s1 (by unfold Rp; rfl)
    | false => rw [if_neg (by decide)]; exact ⟨w1, ρ, S1, s1, en.ext e1, h1⟩
/-- truth -/
def truD (S : Store) : D → Option Bool
  | .non => some false
  | .bl b => some b
  | .int i => some (i != 0)
  | .str y => if y.length ≤ sizeLine then some ((y.length : Int) != 0) else none
  | .tup ds => some (!ds.isEmpty)
  | .lst ds => some (!ds.isEmpty)
  | .fls ds => some (!ds.isEmpty)
  | .loc n => (cellOf S n).map fun ds => !ds.isEmpty
  | _ => none
def fTru (f : FE) : FT := fun ρ S => (f ρ S).bnd fun x S1 => match truD S1 x with
  | some k => .ok k S1
  | none => .no
theorem RpL.emp {K : PySem.W.Frag} {mg : Str → Option Value} {w : Wd} {H : Hp} {ds : List D} {vs : List V} (h : RpL K mg w H ds vs) : (!ds.isEmpty) = !vs.isEmpty := by
  cases ds <;> unfold RpL at h
  · subst h; rfl
  · obtain ⟨v, r, e, _⟩ := h; subst e; rfl
theorem truD_at {K : PySem.W.Frag} {mg : Str → Option Value} {w : Wd} {H : Hp} {S : Store} {d : D} {v : V} {k : Bool} (s : Sto K mg w S H) (r : Rp K mg w H d v) (h : truD S d = some k) : TruV K v H k := by
  cases d with
  | non => unfold Rp at r; subst r; simp only [truD] at h; cases h; rfl
  | bl b => unfold Rp at r; subst r; simp only [truD] at h; cases h; rfl
  | int i => unfold Rp at r; subst r; simp only [truD] at h; cases h; rfl
  | str y =>
    unfold Rp at r; subst r; simp only [truD] at h
    split at h
    · rename_i hl; cases h; exact ⟨hl, rfl⟩
    · cases h
  | tup ds =>
    obtain ⟨a, xs, e, t, q⟩ := tup_at r
    simp only [truD] at h; cases h; subst e
    exact .inr (.inl ⟨xs, t, q.emp⟩)
  | lst ds =>
    obtain ⟨a, xs, e, t, q⟩ := seqL_at (S := S) s r rfl
    simp only [truD] at h; cases h; subst e
    exact .inl ⟨xs, t, q.emp⟩
  | fls ds =>
    obtain ⟨a, xs, e, t, q⟩ := seqL_at (S := S) (d := .fls ds) s r rfl
    simp only [truD] at h; cases h; subst e
    exact .inl ⟨xs, t, q.emp⟩
  | loc n =>
    simp only [truD, Option.map_eq_some_iff] at h
    obtain ⟨ds, h1, h2⟩ := h
    obtain ⟨a, xs, e, t, q⟩ := seqL_at (S := S) (d := .loc n) s r h1
    subst e; subst h2
    exact .inl ⟨xs, t, q.emp⟩
  | _ => simp [truD] at h
theorem qt_tru (ha : PE X a (tF X W fa)) (he : ∀ whole, isTrue a X.env whole = (do let v ← whole; standAt a.pos; holding [v] (truthy v)) := by intro _; rfl) : PT X a (tT X W (fTru fa)) :=
  PT.wk (pt_truth ha he) fun σ H Q ⟨w, ρ, S, s, en, h⟩ => by
    refine ⟨w, ρ, S, s, en, (End.bind (R := fun w H => Rp X.K X.mg w H) h).imp ?_ (fun _ _ _ z => z)⟩
    rintro x H1 ⟨w1, S1, d, e1, s1, r1, h1⟩
    split at h1
    · rename_i k hk
      exact ⟨k, truD_at s1 r1 hk, h1.ret s1 rfl⟩
    · exact h1.elim
/-- not e, as a value, by truth -/
def fNotV (f : FE) : FE := fun ρ S => (f ρ S).bnd fun x S1 => match truD S1 x with
  | some k => .ok (.bl (!k)) S1
  | none => .no
theorem q_not (ha : PE X a (tF X W fa)) : PE X (.UnaryOp .Not a pos) (tF X W (fNotV fa)) :=
  PE.wk (pe_notT ha) fun σ H Q ⟨w, ρ, S, s, en, h⟩ => by
    refine ⟨w, ρ, S, s, en, (End.bind (R := fun w H => Rp X.K X.mg w H) h).imp ?_ (fun _ _ _ z => z)⟩
    rintro x H1 ⟨w1, S1, d, e1, s1, r1, h1⟩
    split at h1
    · rename_i k hk
      exact ⟨k, truD_at s1 r1 hk, h1.ret s1 (by unfold Rp; rfl)⟩
    · exact h1.elim

/-! ### argument lists, displays -/
theorem q_nil : PA X [] (tA X W fNil) := PA.wk pa_nil fun σ H Q ⟨w, ρ, S, s, en, h⟩ => h.ret s RpL.nil
theorem q_cons (ha : PE X e (tF X W fa)) (hr : PA X es (tA X W fs)) (hs : starEach (e :: es) X.env = (false, eval e X.env) :: starEach es X.env := by rfl) : PA X (e :: es) (tA X W (fCons fa fs)) :=
  PA.wk (pa_cons ha hr hs) fun σ H Q ⟨w, ρ, S, s, en, h⟩ => by
    refine ⟨w, ρ, S, s, en, (End.bind h).imp ?_ (fun _ _ _ z => z)⟩
    rintro x H1 ⟨w1, S1, d, e1, s1, r1, h1⟩
    refine ⟨w1, ρ, S1, s1, en.ext e1, (End.bind h1).imp ?_ (fun _ _ _ z => z)⟩
    rintro xs H2 ⟨w2, S2, ds, e2, s2, r2, h2⟩
    exact h2.ret s2 (RpL.cons (Rp.ext e2 _ _ r1) r2)
/-- a new tuple, a new list -/
def mkTup (ds : List D) (S : Store) : RE D := if ds.length ≤ sizeLine then .ok (.tup ds) S else .no
def mkLst (ds : List D) (S : Store) : RE D := if ds.length ≤ sizeLine then .ok (.lst ds) S else .no
def mkCel (ds : List D) (S : Store) : RE D := if ds.length ≤ sizeLine then .ok (.loc S.length) (S ++ [.lst ds]) else .no
section
variable {K : PySem.W.Frag} {mg : Str → Option Value} {w : Wd} {H : Hp} {S : Store} {Q : VK} {E : Value → Option Addr → Hp → Prop} {ds : List D} {xs : List V} {p : Addr}
theorem mkTup_at (s : Sto K mg w S H) (r : RpL K mg w H ds xs) (h : End K mg (fun w H => Rp K mg w H) w H (mkTup ds S) Q E) : xs.length ≤ sizeLine ∧ ∀ p, H p = none → Q (.ref p) (upd H p (.tup xs)) := by
  unfold mkTup at h
  split at h
  · rename_i hl
    refine ⟨by rw [← r.length]; exact hl, fun p np => h w _ _ (Ext.new np) (s.beside np) ?_⟩
    show Rp _ _ _ _ _ _
    unfold Rp
    exact ⟨p, xs, rfl, .inl ⟨upd_same, s.new np⟩, RpL.ext (Ext.new np) _ _ r⟩
  · exact h.elim
theorem mkLst_at (s : Sto K mg w S H) (r : RpL K mg w H ds xs) (h : End K mg (fun w H => Rp K mg w H) w H (mkLst ds S) Q E) : xs.length ≤ sizeLine ∧ ∀ p, H p = none → Q (.ref p) (upd H p (.lst xs)) := by
  unfold mkLst at h
  split at h
  · rename_i hl
    refine ⟨by rw [← r.length]; exact hl, fun p np => h w _ _ (Ext.new np) (s.beside np) ?_⟩
    show Rp _ _ _ _ _ _
    unfold Rp
    exact ⟨p, xs, rfl, upd_same, s.new np, RpL.ext (Ext.new np) _ _ r⟩
  · exact h.elim
theorem Ext.cell {o : HO} (np : H p = none) : Ext w H ⟨w.φ ++ [some p], w.hd⟩ (upd H p o) where
  fr := fun a u e _ => by rw [upd_ne (ne_of_none e np)]; exact e
  ln := by show w.φ.length ≤ (w.φ ++ [some p]).length; rw [List.length_append]; exact Nat.le_add_right _ _
  ph := fun n a h l => by
    have h' : (w.φ ++ [some p])[n]? = some (some a) := h
    rw [List.getElem?_append_left l] at h'; exact h'
  nw := fun a h => by
    rcases List.mem_append.mp (show some a ∈ w.φ ++ [some p] from h) with h | h
    · exact .inl h
    · simp at h; subst h; exact .inr np
  hd := rfl
theorem Sto.cellNew (s : Sto K mg w S H) (np : H p = none) (r : RpL K mg w H ds xs) : Sto K mg ⟨w.φ ++ [some p], w.hd⟩ (S ++ [.lst ds]) (upd H p (.lst xs)) := by
  have s2 := s.beside (o := .lst xs) np
  have ex : Ext w H ⟨w.φ ++ [some p], w.hd⟩ (upd H p (.lst xs)) := Ext.cell np
  refine ⟨by show (w.φ ++ [some p]).length = _; rw [List.length_append, List.length_append, s.len]; rfl, fun m n a h1 h2 => ?_, fun a ha => ⟨upd_some (s.ap a ha).1, fun z => ?_⟩, fun n c hc => ?_⟩
  · have key : ∀ k, (w.φ ++ [some p])[k]? = some (some a) → (w.φ[k]? = some (some a) ∧ k < w.φ.length) ∨ (k = w.φ.length ∧ a = p) := fun k hk => by
      by_cases hl : k < w.φ.length
      · rw [List.getElem?_append_left hl] at hk; exact .inl ⟨hk, hl⟩
      · have hl' : w.φ.length ≤ k := Nat.le_of_not_lt hl
        rw [List.getElem?_append_right hl'] at hk
        have : k - w.φ.length = 0 := by
          cases e : k - w.φ.length with
          | zero => rfl
          | succ j => rw [e] at hk; simp at hk
        rw [this] at hk; simp at hk
        exact .inr ⟨by omega, hk.symm⟩
    rcases key m h1 with ⟨a1, b1⟩ | ⟨a1, b1⟩ <;> rcases key n h2 with ⟨a2, b2⟩ | ⟨a2, b2⟩
    · exact s.nd m n a a1 a2
    · subst b2; exact absurd (List.mem_of_getElem? a1) (s.new np).1
    · subst b1; exact absurd (List.mem_of_getElem? a2) (s.new np).1
    · omega
  · rcases List.mem_append.mp (show some a ∈ w.φ ++ [some p] from z) with h | h
    · exact (s.ap a ha).2 h
    · simp at h; subst h; exact (s.ap a ha).1 np
  · by_cases hl : n < S.length
    · rw [List.getElem?_append_left hl] at hc
      refine CellR.ext ex (fun a ha => ⟨by show (w.φ ++ [some p])[n]? = _; rw [List.getElem?_append_left (s.len ▸ hl)]; exact ha, ?_⟩) (fun hd => by show (w.φ ++ [some p])[n]? = _; rw [List.getElem?_append_left (s.len ▸ hl)]; exact hd) (s.cell n c hc)
      have : a ≠ p := fun z => by subst z; exact (s.new np).1 (List.mem_of_getElem? ha)
      rw [upd_ne this]
    · have hl' : S.length ≤ n := Nat.le_of_not_lt hl
      rw [List.getElem?_append_right hl'] at hc
      have e0 : n - S.length = 0 := by
        cases e : n - S.length with
        | zero => rfl
        | succ j => rw [e] at hc; simp at hc
      rw [e0] at hc; simp at hc; subst hc
      have en : n = w.φ.length := by rw [s.len]; omega
      subst en
      exact ⟨p, xs, by show (w.φ ++ [some p])[w.φ.length]? = _; rw [List.getElem?_append_right (Nat.le_refl _), Nat.sub_self]; rfl, upd_same, RpL.ext ex _ _ r⟩
theorem mkCel_at (s : Sto K mg w S H) (r : RpL K mg w H ds xs) (h : End K mg (fun w H => Rp K mg w H) w H (mkCel ds S) Q E) : xs.length ≤ sizeLine ∧ ∀ p, H p = none → Q (.ref p) (upd H p (.lst xs)) := by
  unfold mkCel at h
  split at h
  · rename_i hl
    refine ⟨by rw [← r.length]; exact hl, fun p np => h _ _ _ (Ext.cell np) (s.cellNew np r) ?_⟩
    show Rp _ _ _ _ _ _
    unfold Rp
    refine ⟨by show S.length < (w.φ ++ [some p]).length; rw [List.length_append, s.len]; exact Nat.lt_succ_self _, fun a ha => ?_⟩
    have ha' : (w.φ ++ [some p])[S.length]? = some (some a) := ha
    rw [← s.len, List.getElem?_append_right (Nat.le_refl _), Nat.sub_self] at ha'
    simp at ha'; rw [ha']
  · exact h.elim
end
theorem q_tup {x1} (h : PA X es (tA X W fs)) : PE X (.Tuple es x1 pos) (tF X W (fArg mkTup fs)) :=
  PE.wk (pe_tup h) fun σ H Q ⟨w, ρ, S, s, en, h⟩ => ⟨w, ρ, S, s, en, (End.bind (R := fun w H => RpL X.K X.mg w H) h).imp (fun xs H1 ⟨w1, S1, ds, e1, s1, r1, h1⟩ => mkTup_at s1 r1 h1) (fun _ _ _ z => z)⟩
theorem q_lst (h : PA X es (tA X W fs)) : PE X (.List es pos) (tF X W (fArg mkLst fs)) :=
  PE.wk (pe_lst h) fun σ H Q ⟨w, ρ, S, s, en, h⟩ => ⟨w, ρ, S, s, en, (End.bind (R := fun w H => RpL X.K X.mg w H) h).imp (fun xs H1 ⟨w1, S1, ds, e1, s1, r1, h1⟩ => mkLst_at s1 r1 h1) (fun _ _ _ z => z)⟩
theorem q_cel (h : PA X es (tA X W fs)) : PE X (.List es pos) (tF X W (fArg mkCel fs)) :=
  PE.wk (pe_lst h) fun σ H Q ⟨w, ρ, S, s, en, h⟩ => ⟨w, ρ, S, s, en, (End.bind (R := fun w H => RpL X.K X.mg w H) h).imp (fun xs H1 ⟨w1, S1, ds, e1, s1, r1, h1⟩ => mkCel_at s1 r1 h1) (fun _ _ _ z => z)⟩
/-! ### calls of built-ins -/
theorem argsTo {r : List V → Hp → VK → Prop} {g : List D → Store → RE D} (hv : CallV X.K X.mg r g) {σ : L2.St} {H : Hp} {Q : VK} (h : tF X W (fArg g fs) σ H Q) : tA X W fs σ H (fun vs H1 => r vs H1 Q) := by
  obtain ⟨w, ρ, S, s, en, h⟩ := h
  refine ⟨w, ρ, S, s, en, (End.bind h).imp ?_ (fun _ _ _ z => z)⟩
  rintro xs H1 ⟨w1, S1, ds, e1, s1, r1, h1⟩
  exact hv w1 S1 H1 xs ds Q _ s1 r1 h1
theorem q_callB {x : Str} {p : Pos} {id : String} {r : List V → Hp → VK → Prop} {g : List D → Store → RE D} (hc : CallR X (.builtin id) r) (hv : CallV X.K X.mg r g) (hg : Gl X x) (hm : X.mg x = none) (hb : bootBuiltins x = some (.builtin id)) (ha : PA X (e :: es) (tA X W fs)) (hn : x ≠ "__name__" := by decide) (hdb : (x == ("__debug__" : Str)) = false := by decide)
    (he : starEach (e :: es) X.env = (false, eval e X.env) :: starEach es X.env := by rfl) (hpl : (backTo pos (starEach es X.env)).any (·.1) = false := by rfl) : PE X (.Call (.Name x p) (e :: es) [] pos) (tF X W (fArg g fs)) :=
  PE.wk (pe_callB hc hg hm hb ha hn hdb he hpl) fun σ H Q h => argsTo hv h
theorem q_callTy {x : Str} {p : Pos} {T : String} {r : List V → Hp → VK → Prop} {g : List D → Store → RE D} (hc : CallR X (.type T) r) (hv : CallV X.K X.mg r g) (hg : Gl X x) (hm : X.mg x = none) (hb : bootBuiltins x = some (.type T)) (ha : PA X (e :: es) (tA X W fs)) (hn : x ≠ "__name__" := by decide) (hdb : (x == ("__debug__" : Str)) = false := by decide)
    (he : starEach (e :: es) X.env = (false, eval e X.env) :: starEach es X.env := by rfl) (hpl : (backTo pos (starEach es X.env)).any (·.1) = false := by rfl) : PE X (.Call (.Name x p) (e :: es) [] pos) (tF X W (fArg g fs)) :=
  PE.wk (pe_callTy hc hg hm hb ha hn hdb he hpl) fun σ H Q h => argsTo hv h
end
end Kw

/-! Kw3: operations by values. -/
namespace Kw
open PySem PySem.Spec PyProof.Rows L2

section
variable {K : PySem.W.Frag} {mg : Str → Option Value} {w : Wd} {H : Hp} {S : Store}
theorem rp_int {i : Int} {v : V} (h : Rp K mg w H (.int i) v) : v = .int i := by unfold Rp at h; exact h
theorem rp_bl {i : Bool} {v : V} (h : Rp K mg w H (.bl i) v) : v = .bl i := by unfold Rp at h; exact h
theorem rp_str {i : Str} {v : V} (h : Rp K mg w H (.str i) v) : v = .str i := by unfold Rp at h; exact h
theorem rp_non {v : V} (h : Rp K mg w H .non v) : v = .non := by unfold Rp at h; exact h
theorem rp_i {i : Int} : Rp K mg w H (.int i) (.int i) := by unfold Rp; rfl
theorem rp_b {i : Bool} : Rp K mg w H (.bl i) (.bl i) := by unfold Rp; rfl
theorem rp_s {i : Str} : Rp K mg w H (.str i) (.str i) := by unfold Rp; rfl
theorem rp_n : Rp K mg w H .non .non := by unfold Rp; rfl
end

/-! ### + -/
def catL (c : Bool) (x y : Option (List D)) (S : Store) : RE D := match x, y with
  | some xs, some ys => if c then mkCel (xs ++ ys) S else mkLst (xs ++ ys) S
  | _, _ => .no
/-- c: the sum of two lists is a cell -/
def gAdd (c : Bool) (x y : D) (S : Store) : RE D := match x with
  | .int i => (match y with
    | .int j => .ok (.int (i + j)) S
    | .bl k => .ok (.int (i + b2i k)) S
    | _ => .no)
  | .str a => (match y with
    | .str b => if a.length + b.length ≤ sizeLine then .ok (.str (a ++ b)) S else .no
    | _ => .no)
  | .tup xs => (match y with
    | .tup ys => mkTup (xs ++ ys) S
    | _ => .no)
  | x => catL c (seqM S x) (seqM S y) S
def gSub (x y : D) (S : Store) : RE D := match x, y with
  | .int i, .int j => .ok (.int (i - j)) S
  | _, _ => .no
instance (i j : Int) : Decidable (CMulW i j) := inferInstanceAs (Decidable (_ < _))
instance (i j : Int) : Decidable (CMul i j) := inferInstanceAs (Decidable (_ ∨ _))
/-- a text so many times -/
def repS (a : Str) (n : Int) : Str := if n < 1 then Str.empty else if (n == 1 || a.length == 0) = true then a else ⟨(List.replicate n.toNat a.cps).foldl (· ++ ·) #[]⟩
/-- c: a list that is repeated is a cell -/
def gMul (c : Bool) (x y : D) (S : Store) : RE D := match y with
  | .int j => (match x with
    | .int i => if CMul i j ∨ CMulW i j then .ok (.int (i * j)) S else .no
    | .str a => if a.length * j.toNat ≤ 16777216 ∧ a.length ≤ 1000 ∧ -(2 ^ 63) ≤ j ∧ j ≤ 100000 then .ok (.str (repS a j)) S else .no
    | x => (match seqM S x with
      | some xs => if xs.length * j.toNat ≤ sizeLine ∧ -(2 ^ 63) ≤ j ∧ j < 2 ^ 63 then (if c then mkCel (List.replicate j.toNat xs).flatten S else mkLst (List.replicate j.toNat xs).flatten S) else .no
      | none => .no))
  | _ => .no
/-- the divisor is positive -/
def gMod (x y : D) (S : Store) : RE D := match x, y with
  | .int i, .int j => if 0 < j then .ok (.int (i % j)) S else .no
  | _, _ => .no
def gDiv (x y : D) (S : Store) : RE D := match x, y with
  | .int i, .int j => if 0 < j ∧ j.natAbs.log2 < 9000 then .ok (.int (i / j)) S else .no
  | _, _ => .no
def gPow (x y : D) (S : Store) : RE D := match x, y with
  | .int i, .int j => if 0 ≤ j ∧ j ≤ 1000000 ∧ i.natAbs < 2 ^ 64 then .ok (.int (i ^ j.toNat)) S else .no
  | _, _ => .no
section
variable {K : PySem.W.Frag} {mg : Str → Option Value}
def rAddU (K : PySem.W.Frag) : R2 := fun x y H Q => (∃ i j, x = .int i ∧ y = .int j ∧ Q (.int (i + j)) H) ∨ (∃ i k, x = .int i ∧ y = .bl k ∧ Q (.int (i + b2i k)) H) ∨
  (∃ i j, x = .str i ∧ y = .str j ∧ i.length + j.length ≤ sizeLine ∧ Q (.str (i ++ j)) H) ∨ rCat x y H Q ∨ rCatA K x y H Q
theorem op_addU {X : Cx} : OpR X (binaryOp .Add) (rAddU X.K) := op_add.or (op_add_ib.or (op_add_str.or (op_cat.or op_catA)))
theorem mk_len (xs ys : List D) (vs us : List V) {w : Wd} {H : Hp} (h1 : RpL K mg w H xs vs) (h2 : RpL K mg w H ys us) : (xs ++ ys).length = vs.length + us.length := by
  rw [List.length_append, h1.length, h2.length]
theorem addU_v {c : Bool} : OpV K mg (rAddU K) (gAdd c) := by
  intro w S H x y d e Q E s r1 r2 h
  have lists : ∀ xs ys, seqM S d = some xs → seqM S e = some ys → End K mg (fun w H => Rp K mg w H) w H (if c then mkCel (xs ++ ys) S else mkLst (xs ++ ys) S) Q E → rCat x y H Q := fun xs ys h1 h2 h => by
    obtain ⟨a, vs, e1, t1, q1⟩ := seqM_at s r1 h1
    obtain ⟨b, us, e2, t2, q2⟩ := seqM_at s r2 h2
    have q := q1.append q2
    refine ⟨a, b, vs, us, e1, e2, t1, t2, ?_⟩
    have l : (vs ++ us).length = vs.length + us.length := List.length_append
    cases c
    · have z := mkLst_at s q h
      rw [l] at z; exact z
    · have z := mkCel_at s q h
      rw [l] at z; exact z
  have lists' : End K mg (fun w H => Rp K mg w H) w H (catL c (seqM S d) (seqM S e) S) Q E → rCat x y H Q := fun h => by
    unfold catL at h
    split at h
    · rename_i xs ys h1 h2; exact lists xs ys h1 h2 h
    · exact h.elim
  cases d <;> simp only [gAdd] at h
  case int i =>
    cases e <;> simp only [] at h <;> try exact h.elim
    · exact .inr (.inl ⟨i, _, rp_int r1, rp_bl r2, h.ret s rp_i⟩)
    · exact .inl ⟨i, _, rp_int r1, rp_int r2, h.ret s rp_i⟩
  case str a =>
    cases e <;> simp only [] at h <;> try exact h.elim
    split at h
    · rename_i hl; exact .inr (.inr (.inl ⟨a, _, rp_str r1, rp_str r2, hl, h.ret s rp_s⟩))
    · exact h.elim
  case tup xs =>
    cases e <;> simp only [] at h <;> try exact h.elim
    rename_i ys
    refine .inr (.inr (.inr (.inr ?_)))
    have r1' := r1
    have r2' := r2
    unfold Rp at r1' r2'
    obtain ⟨a, vs, e1, t1, q1⟩ := r1'
    obtain ⟨b, us, e2, t2, q2⟩ := r2'
    have q := q1.append q2
    have z := mkTup_at s q h
    have l : (vs ++ us).length = vs.length + us.length := List.length_append
    refine ⟨a, b, vs, us, e1, e2, t1.sq, t2.sq, by rw [← l]; exact z.1, fun ev => ?_, fun _ eu => ?_, fun _ _ => z.2⟩
    · subst ev
      have : xs = [] := q1.nil_iff.mpr rfl
      subst this
      unfold mkTup at h
      split at h
      · exact h.ret s (show Rp K mg w H _ _ by unfold Rp; exact ⟨b, us, rfl, t2, q2⟩)
      · exact h.elim
    · subst eu
      have : ys = [] := q2.nil_iff.mpr rfl
      subst this
      unfold mkTup at h
      split at h
      · exact h.ret s (show Rp K mg w H _ _ by unfold Rp; exact ⟨a, vs, rfl, t1, by rw [List.append_nil]; exact q1⟩)
      · exact h.elim
  all_goals exact .inr (.inr (.inr (.inl (lists' h))))
theorem sub_v : OpV K mg (rI0 fun i j => .int (i - j)) gSub := by
  intro w S H x y d e Q E s r1 r2 h
  cases d <;> cases e <;> simp only [gSub] at h <;> try exact h.elim
  exact ⟨_, _, rp_int r1, rp_int r2, h.ret s rp_i⟩
theorem repS_fold : ∀ (k : Nat) (b a : Array Nat), ((List.replicate k a).foldl (· ++ ·) b).size = b.size + a.size * k
  | 0, b, a => by simp
  | k + 1, b, a => by rw [List.replicate_succ, List.foldl_cons, repS_fold k, Array.size_append, Nat.mul_succ]; omega
theorem repS_length (a : Str) (n : Int) : (repS a n).length ≤ a.length * n.toNat := by
  unfold repS
  by_cases h : n < 1
  · rw [if_pos h]; exact Nat.zero_le _
  · rw [if_neg h]
    have h1 : 1 ≤ n.toNat := by omega
    split
    · exact Nat.le_mul_of_pos_right _ h1
    · show ((List.replicate n.toNat a.cps).foldl (· ++ ·) #[]).size ≤ _
      rw [repS_fold]; show 0 + a.cps.size * _ ≤ _; rw [Nat.zero_add]; exact Nat.le_refl _
def rRepS : R2 := fun x y H Q => ∃ a j, x = .str a ∧ y = .int j ∧ a.length * j.toNat ≤ 16777216 ∧ a.length ≤ 1000 ∧ -(2 ^ 63) ≤ j ∧ j ≤ 100000 ∧ Q (.str (repS a j)) H
theorem op_repS {X : Cx} : OpR X (binaryOp .Mult) rRepS := by
  intro pins s σ H x y v u Q I rx ry h
  obtain ⟨a, j, rfl, rfl, h1, h2, h3, h4, q⟩ := h
  obtain ⟨t, rfl⟩ := rx
  obtain ⟨t2, rfl⟩ := ry
  have hz : a.length * j.toNat ≤ sizeLine := by rw [sizeLine_eq]; exact h1
  have n1 : ¬ j < -(2 ^ 63 : Int) := by omega
  have n2 : ¬ j ≥ (2 ^ 63 : Int) := by omega
  refine PySem.P.mul_str (by rw [decide_eq_false n1, decide_eq_false n2]; rfl) (fun g _ z => ?_) (fun _ _ => ?_) ?_
  · have g1 : (92233720368547 : Int) ≤ (2 ^ 63 - 1) / j := by
      rw [Int.le_ediv_iff_mul_le (by omega)]
      omega
    have : (a.length : Int) ≤ 1000 := by omega
    omega
  · unfold Builtin.Str.tooLong
    exact decide_eq_false (by omega)
  · have hl := repS_length a j
    unfold repS at q hl
    by_cases c : j < 1
    · rw [if_pos c] at q ⊢
      exact ⟨Nat.zero_le _, .str _, H, I.tok _, ⟨_, rfl⟩, q⟩
    · rw [if_neg c] at q hl ⊢
      by_cases c2 : (j == 1 || a.length == 0) = true
      · rw [if_pos c2] at q ⊢
        exact ⟨.str a, H, I, ⟨t, rfl⟩, q⟩
      · rw [if_neg c2] at q hl ⊢
        exact ⟨Nat.le_trans hl hz, .str _, H, I.tok _, ⟨_, rfl⟩, q⟩
def rMulU : R2 := fun x y H Q => rI CMul (fun i j => .int (i * j)) x y H Q ∨ rI CMulW (fun i j => .int (i * j)) x y H Q ∨ rRep x y H Q ∨ rRepS x y H Q
theorem op_mulU {X : Cx} : OpR X (binaryOp .Mult) rMulU := op_mul.or (op_mulW.or (op_rep.or op_repS))
theorem RpL.rep {w : Wd} {H : Hp} {xs : List D} {vs : List V} (h : RpL K mg w H xs vs) : ∀ n : Nat, RpL K mg w H (List.replicate n xs).flatten (List.replicate n vs).flatten
  | 0 => RpL.nil
  | n + 1 => by rw [List.replicate_succ, List.replicate_succ, List.flatten_cons, List.flatten_cons]; exact h.append (RpL.rep h n)
theorem mulU_v {c : Bool} : OpV K mg rMulU (gMul c) := by
  intro w S H x y d e Q E s r1 r2 h
  cases e <;> simp only [gMul] at h <;> try exact h.elim
  rename_i j
  have lists : End K mg (fun w H => Rp K mg w H) w H (match seqM S d with
      | some xs => if xs.length * j.toNat ≤ sizeLine ∧ -(2 ^ 63) ≤ j ∧ j < 2 ^ 63 then (if c then mkCel (List.replicate j.toNat xs).flatten S else mkLst (List.replicate j.toNat xs).flatten S) else .no
      | none => .no) Q E → rRep x y H Q := fun h => by
    split at h
    · rename_i xs h1
      split at h
      · rename_i hl
        obtain ⟨a, vs, e1, t1, q1⟩ := seqM_at s r1 h1
        refine ⟨a, j, vs, e1, rp_int r2, t1, hl.2.1, hl.2.2, by rw [← q1.length]; exact hl.1, ?_⟩
        cases c
        · exact (mkLst_at s (q1.rep j.toNat) h).2
        · exact (mkCel_at s (q1.rep j.toNat) h).2
      · exact h.elim
    · exact h.elim
  cases d <;> simp only [] at h
  case int i =>
    split at h
    · rename_i hc
      rcases hc with hc | hc
      · exact .inl ⟨i, j, rp_int r1, rp_int r2, hc, h.ret s rp_i⟩
      · exact .inr (.inl ⟨i, j, rp_int r1, rp_int r2, hc, h.ret s rp_i⟩)
    · exact h.elim
  case str a =>
    split at h
    · rename_i hc
      exact .inr (.inr (.inr ⟨a, j, rp_str r1, rp_int r2, hc.1, hc.2.1, hc.2.2.1, hc.2.2.2, h.ret s rp_s⟩))
    · exact h.elim
  all_goals exact .inr (.inr (.inl (lists h)))
theorem mod_v : OpV K mg (rI (fun _ j => 0 < j) fun i j => .int (i % j)) gMod := by
  intro w S H x y d e Q E s r1 r2 h
  cases d <;> cases e <;> simp only [gMod] at h <;> try exact h.elim
  split at h
  · rename_i hc; exact ⟨_, _, rp_int r1, rp_int r2, hc, h.ret s rp_i⟩
  · exact h.elim
theorem div_v : OpV K mg (rI CDivW fun i j => .int (i / j)) gDiv := by
  intro w S H x y d e Q E s r1 r2 h
  cases d <;> cases e <;> simp only [gDiv] at h <;> try exact h.elim
  split at h
  · rename_i hc; exact ⟨_, _, rp_int r1, rp_int r2, hc, h.ret s rp_i⟩
  · exact h.elim
theorem pow_v : OpV K mg (rI CPow fun i j => .int (i ^ j.toNat)) gPow := by
  intro w S H x y d e Q E s r1 r2 h
  cases d <;> cases e <;> simp only [gPow] at h <;> try exact h.elim
  split at h
  · rename_i hc; exact ⟨_, _, rp_int r1, rp_int r2, hc, h.ret s rp_i⟩
  · exact h.elim
end

/-! ### comparisons -/
def gCmp (p : Int → Int → Bool) (x y : D) (S : Store) : RE D := match x, y with
  | .int i, .int j => .ok (.bl (p i j)) S
  | _, _ => .no
def okPy (d e : PyData) : Bool := d.canLay0 && e.canLay0 && decide (min d.depth e.depth ≤ 200)
/-- a row of anything beside an empty one -/
def eqE (S : Store) (x y : D) : Option Bool := match y with
  | .lst [] => (seqL S x).map (·.isEmpty)
  | .tup [] => (match x with
    | .tup ds => some ds.isEmpty
    | _ => none)
  | .tup [.str b] => (match x with
    | .tup (.str a :: r) => some (a == b && r.isEmpty)
    | _ => none)
  | .str b => (match x with
    | .str a => some (a == b)
    | _ => none)
  | _ => none
def gEq (x y : D) (S : Store) : RE D := match eqE S x y with
  | some b => .ok (.bl b) S
  | none => (match pyS S x, pyS S y with
    | some d, some e => if okPy d e then .ok (.bl (PyData.eqv d e)) S else .no
    | _, _ => .no)
def gNe (x y : D) (S : Store) : RE D := match eqE S x y with
  | some b => .ok (.bl (!b)) S
  | none => (match pyS S x, pyS S y with
    | some d, some e => if okPy d e then .ok (.bl (!PyData.eqv d e)) S else .no
    | _, _ => .no)
def rEqS (K : PySem.W.Frag) (neg : Bool) : R2 := fun x y H Q => (∃ za zb : Str, x = .str za ∧ y = .str zb ∧ Q (.bl (if neg then !(za == zb) else za == zb)) H) ∨ ∃ a b xs, ∃ za zb : Str, x = .ref a ∧ y = .ref b ∧ SqT K H a (.str za :: xs) ∧ SqT K H b [.str zb] ∧ Q (.bl (if neg then !(za == zb && xs.isEmpty) else (za == zb && xs.isEmpty))) H
def rEqE (K : PySem.W.Frag) (neg : Bool) : R2 := fun x y H Q => rEqS K neg x y H Q ∨ ∃ a b xs, x = .ref a ∧ y = .ref b ∧ ((SqL K H a xs ∧ SqL K H b []) ∨ (SqT K H a xs ∧ SqT K H b [])) ∧ Q (.bl (if neg then !xs.isEmpty else xs.isEmpty)) H
def rEqP (K : PySem.W.Frag) : R2 := fun x y H Q => ∃ d e, Dp K H x d ∧ Dp K H y e ∧ okPy d e = true ∧ Q (.bl (PyData.eqv d e)) H
def rNeP (K : PySem.W.Frag) : R2 := fun x y H Q => ∃ d e, Dp K H x d ∧ Dp K H y e ∧ okPy d e = true ∧ Q (.bl (!PyData.eqv d e)) H
theorem okPy_iff {d e : PyData} (h : okPy d e = true) : d.canLay0 = true ∧ e.canLay0 = true ∧ min d.depth e.depth ≤ 200 := by
  unfold okPy at h
  simp only [Bool.and_eq_true, decide_eq_true_eq] at h
  exact ⟨h.1.1, h.1.2, h.2⟩
section
variable {X : Cx}
theorem op_eqP (hu : X.A.units + 200 < cLine) : OpR X (compareOp .Eq) (rEqP X.K) := by
  intro pins s σ H x y v u Q I rx ry h
  obtain ⟨d, e, hd, he, hk, q⟩ := h
  obtain ⟨k1, k2, k3⟩ := okPy_iff hk
  obtain ⟨as, r1⟩ := Dp.reads I d x v hd rx
  obtain ⟨bs, r2⟩ := Dp.reads I e y u he ry
  exact SeqAt.compareEq_reads r1 r2 k1 k2 (by omega) ⟨.bl _, H, I, rfl, q⟩
theorem op_neP (hu : X.A.units + 200 < cLine) : OpR X (compareOp .NotEq) (rNeP X.K) := by
  intro pins s σ H x y v u Q I rx ry h
  obtain ⟨d, e, hd, he, hk, q⟩ := h
  obtain ⟨k1, k2, k3⟩ := okPy_iff hk
  obtain ⟨as, r1⟩ := Dp.reads I d x v hd rx
  obtain ⟨bs, r2⟩ := Dp.reads I e y u he ry
  exact SeqAt.compareNe_reads r1 r2 k1 k2 (by omega) ⟨.bl _, H, I, rfl, q⟩
theorem one_beside {pins : List (Addr × Obj)} {σ : L2.St} {H : Hp} {s : Shared} {a b : Addr} {xs : List V} {za zb : Str} (I : Inv X pins σ H s) (h1 : SqT X.K H a (.str za :: xs)) (h2 : SqT X.K H b [.str zb]) :
    ∃ its its2 : List Value, IsTup s.heap a its.toArray ∧ IsTup s.heap b its2.toArray ∧ its.length = xs.length + 1 ∧ its2.length = 1 ∧ ∀ j (k1 : j < its.toArray.size) (k2 : j < its2.toArray.size), SeqAt.EqAt X.A.in1 s its.toArray[j] its2.toArray[j] ((fun _ => za == zb) j) := by
  obtain ⟨its, rv, t1, _⟩ := I.tuple h1
  obtain ⟨its2, rv2, t2, _⟩ := I.tuple h2
  cases rv with
  | cons r1 rt =>
    cases rv2 with
    | cons r2 rt2 =>
      cases rt2
      obtain ⟨u1, rfl⟩ := r1
      obtain ⟨u2, rfl⟩ := r2
      refine ⟨_, _, t1, t2, by simp [rt.length], rfl, fun j k1 k2 => ?_⟩
      have : j = 0 := by simp at k2; omega
      subst this
      exact SeqAt.EqAt.str_str za u1 zb u2
theorem one_val {α : Type} {xs : List α} {its its2 : List Value} {b : Bool} (l1 : its.length = xs.length + 1) (l2 : its2.length = 1) : ((List.range (min its.toArray.size its2.toArray.size)).all (fun _ => b) && its.toArray.size == its2.toArray.size) = (b && xs.isEmpty) := by
  rw [List.size_toArray, List.size_toArray, l1, l2]
  have : min (xs.length + 1) 1 = 1 := by omega
  rw [this]
  cases xs <;> simp [List.range, List.range.loop]
theorem op_eqE (hu : X.A.units + 200 < cLine) : OpR X (compareOp .Eq) (rEqE X.K false) := by
  intro pins s σ H x y v u Q I rx ry h
  rcases h with (⟨za, zb, rfl, rfl, q⟩ | ⟨a, b, xs, za, zb, rfl, rfl, h1, h2, q⟩) | h
  · obtain ⟨t1, rfl⟩ := rx
    obtain ⟨t2, rfl⟩ := ry
    exact PySem.P.eq_str ⟨.bl _, H, I, congrArg Value.bool (SeqAt.str_beq za zb), q⟩
  · cases rx; cases ry
    obtain ⟨its, its2, t1, t2, l1, l2, he⟩ := one_beside I h1 h2
    refine SeqAt.eq_tupleAt (e := fun _ => za == zb) t1 t2 (by omega) he ⟨.bl _, H, I, ?_, q⟩
    rw [one_val (xs := xs) l1 l2]; rfl
  obtain ⟨a, b, xs, rfl, rfl, hab, q⟩ := h
  cases rx; cases ry
  have hu' : X.A.units < cLine := by omega
  rcases hab with ⟨h1, h2⟩ | ⟨h1, h2⟩
  · obtain ⟨its, rv, t1, _⟩ := I.list h1
    obtain ⟨its2, rv2, t2, _⟩ := I.list h2
    have l1 := rv.length
    have l2 := rv2.length
    cases xs with
    | nil => exact SeqAt.eq_listAt (e := fun _ => true) t1.isList t2.isList (by rw [List.size_toArray, List.size_toArray]; omega) hu' (fun j k1 k2 => by rw [List.size_toArray, ← l1] at k1; exact absurd k1 (Nat.not_lt_zero _)) ⟨.bl _, H, I, by rw [List.all_eq_true.mpr (fun _ _ => rfl)]; rfl, q⟩
    | cons z r => exact SeqAt.eq_list_lengthsAt t1.isList t2.isList (by rw [List.size_toArray, List.size_toArray, ← l1, ← l2]; rfl) hu' ⟨.bl _, H, I, rfl, q⟩
  · obtain ⟨its, rv, t1, _⟩ := I.tuple h1
    obtain ⟨its2, rv2, t2, _⟩ := I.tuple h2
    have l1 := rv.length
    have l2 : its2.length = 0 := by have := rv2.length; simpa using this.symm
    refine SeqAt.eq_tupleAt (e := fun _ => true) t1 t2 hu' (fun j k1 k2 => by rw [List.size_toArray, l2] at k2; exact absurd k2 (Nat.not_lt_zero _)) ⟨.bl _, H, I, ?_, q⟩
    rw [List.all_eq_true.mpr (fun _ _ => rfl), List.size_toArray, List.size_toArray, l2, ← l1]
    cases xs <;> rfl
theorem op_neE (hu : X.A.units + 200 < cLine) : OpR X (compareOp .NotEq) (rEqE X.K true) := by
  intro pins s σ H x y v u Q I rx ry h
  rcases h with (⟨za, zb, rfl, rfl, q⟩ | ⟨a, b, xs, za, zb, rfl, rfl, h1, h2, q⟩) | h
  · obtain ⟨t1, rfl⟩ := rx
    obtain ⟨t2, rfl⟩ := ry
    exact PySem.P.ne_str ⟨.bl _, H, I, congrArg (fun b => Value.bool (!b)) (SeqAt.str_beq za zb), q⟩
  · cases rx; cases ry
    obtain ⟨its, its2, t1, t2, l1, l2, he⟩ := one_beside I h1 h2
    refine SeqAt.RcNeAt.tuples (e := fun _ => za == zb) t1 t2 (by omega) he _ _ _ _ ⟨.bl _, H, I, ?_, q⟩
    rw [one_val (xs := xs) l1 l2]; rfl
  obtain ⟨a, b, xs, rfl, rfl, hab, q⟩ := h
  cases rx; cases ry
  have hu' : X.A.units < cLine := by omega
  rcases hab with ⟨h1, h2⟩ | ⟨h1, h2⟩
  · obtain ⟨its, rv, t1, _⟩ := I.list h1
    obtain ⟨its2, rv2, t2, _⟩ := I.list h2
    have l1 := rv.length
    have l2 := rv2.length
    cases xs with
    | nil => exact SeqAt.RcNeAt.lists (e := fun _ => true) t1.isList t2.isList (by rw [List.size_toArray, List.size_toArray]; omega) hu' (fun j k1 k2 => by rw [List.size_toArray, ← l1] at k1; exact absurd k1 (Nat.not_lt_zero _)) _ _ _ _ ⟨.bl _, H, I, by rw [List.all_eq_true.mpr (fun _ _ => rfl)]; rfl, q⟩
    | cons z r => exact SeqAt.RcNeAt.lists_lengths t1.isList t2.isList (by rw [List.size_toArray, List.size_toArray, ← l1, ← l2]; rfl) hu' _ _ _ _ ⟨.bl _, H, I, rfl, q⟩
  · obtain ⟨its, rv, t1, _⟩ := I.tuple h1
    obtain ⟨its2, rv2, t2, _⟩ := I.tuple h2
    have l1 := rv.length
    have l2 : its2.length = 0 := by have := rv2.length; simpa using this.symm
    refine SeqAt.RcNeAt.tuples (e := fun _ => true) t1 t2 hu' (fun j k1 k2 => by rw [List.size_toArray, l2] at k2; exact absurd k2 (Nat.not_lt_zero _)) _ _ _ _ ⟨.bl _, H, I, ?_, q⟩
    rw [List.all_eq_true.mpr (fun _ _ => rfl), List.size_toArray, List.size_toArray, l2, ← l1]
    cases xs <;> rfl
def rEqU (K : PySem.W.Frag) : R2 := fun x y H Q => rEqE K false x y H Q ∨ rEqP K x y H Q
def rNeU (K : PySem.W.Frag) : R2 := fun x y H Q => rEqE K true x y H Q ∨ rNeP K x y H Q
theorem op_eqU (hu : X.A.units + 200 < cLine) : OpR X (compareOp .Eq) (rEqU X.K) := (op_eqE hu).or (op_eqP hu)
theorem op_neU (hu : X.A.units + 200 < cLine) : OpR X (compareOp .NotEq) (rNeU X.K) := (op_neE hu).or (op_neP hu)
/-- x in ys, a list or a tuple of data -/
def rInP (K : PySem.W.Frag) (neg : Bool) : R2 := fun x y H Q => ∃ d ds, Dp K H x d ∧ (Dp K H y (.list ds) ∨ Dp K H y (.tuple ds)) ∧ d.canLay0 = true ∧ PyData.canLayAll0 ds = true ∧ min (PyData.depthAll ds) d.depth ≤ 190 ∧ Q (.bl (if neg then !ds.any fun z => PyData.eqv z d else ds.any fun z => PyData.eqv z d)) H
theorem op_inP (hu : X.A.units + 200 < cLine) : OpR X (compareOp .In) (rInP X.K false) := by
  intro pins s σ H x y v u Q I rx ry h
  obtain ⟨d, ds, hd, he, k1, k2, k3, q⟩ := h
  obtain ⟨as, r1⟩ := Dp.reads I d x v hd rx
  rcases he with he | he
  · obtain ⟨bs, r2⟩ := Dp.reads I (.list ds) y u he ry
    exact SeqAt.in_list_reads r2 r1 k2 k1 (by omega) ⟨.bl _, H, I, rfl, q⟩
  · obtain ⟨bs, r2⟩ := Dp.reads I (.tuple ds) y u he ry
    exact SeqAt.in_tuple_reads r2 r1 k2 k1 (by omega) ⟨.bl _, H, I, rfl, q⟩
theorem op_notInP (hu : X.A.units + 200 < cLine) : OpR X (compareOp .NotIn) (rInP X.K true) := by
  intro pins s σ H x y v u Q I rx ry h
  obtain ⟨d, ds, hd, he, k1, k2, k3, q⟩ := h
  obtain ⟨as, r1⟩ := Dp.reads I d x v hd rx
  rcases he with he | he
  · obtain ⟨bs, r2⟩ := Dp.reads I (.list ds) y u he ry
    exact SeqAt.notIn_list_reads r2 r1 k2 k1 (by omega) ⟨.bl _, H, I, rfl, q⟩
  · obtain ⟨bs, r2⟩ := Dp.reads I (.tuple ds) y u he ry
    exact SeqAt.notIn_tuple_reads r2 r1 k2 k1 (by omega) ⟨.bl _, H, I, rfl, q⟩
end
/-- in, not in: a list, a tuple, a text -/
def gIn (neg : Bool) (x y : D) (S : Store) : RE D := match pyS S y with
  | some (.str b) => (match x with
    | .str a => .ok (.bl (if neg then !(!(Builtin.Str.occurrences b a 0 b.length 1).isEmpty) else !(Builtin.Str.occurrences b a 0 b.length 1).isEmpty)) S
    | _ => .no)
  | some (.list ds) => (match pyS S x with
    | some d => if d.canLay0 && PyData.canLayAll0 ds && decide (min (PyData.depthAll ds) d.depth ≤ 190) then .ok (.bl (if neg then !ds.any fun z => PyData.eqv z d else ds.any fun z => PyData.eqv z d)) S else .no
    | _ => .no)
  | some (.tuple ds) => (match pyS S x with
    | some d => if d.canLay0 && PyData.canLayAll0 ds && decide (min (PyData.depthAll ds) d.depth ≤ 190) then .ok (.bl (if neg then !ds.any fun z => PyData.eqv z d else ds.any fun z => PyData.eqv z d)) S else .no
    | _ => .no)
  | _ => .no
def rInU (K : PySem.W.Frag) (neg : Bool) : R2 := fun x y H Q => (∃ i j, x = .str i ∧ y = .str j ∧ Q (.bl (if neg then !(!(Builtin.Str.occurrences j i 0 j.length 1).isEmpty) else !(Builtin.Str.occurrences j i 0 j.length 1).isEmpty)) H) ∨ rInP K neg x y H Q
section
variable {X : Cx}
theorem op_inU (hu : X.A.units + 200 < cLine) : OpR X (compareOp .In) (rInU X.K false) := op_in_str.or (op_inP hu)
theorem op_notInU (hu : X.A.units + 200 < cLine) : OpR X (compareOp .NotIn) (rInU X.K true) := op_notin_str.or (op_notInP hu)
variable {K : PySem.W.Frag} {mg : Str → Option Value}
theorem eqE_at {neg : Bool} {w : Wd} {S : Store} {H : Hp} {x y : V} {d e : D} {b : Bool} {Q : VK} (s : Sto K mg w S H) (r1 : Rp K mg w H d x) (r2 : Rp K mg w H e y) (h : eqE S d e = some b) (q : Q (.bl (if neg then !b else b)) H) : rEqE K neg x y H Q := by
  unfold eqE at h
  split at h
  · obtain ⟨ds, h1, h2⟩ := Option.map_eq_some_iff.mp h
    obtain ⟨a, vs, e1, t1, q1⟩ := seqL_at s r1 h1
    obtain ⟨a2, vs2, e2, t2, q2⟩ := seqL_at s r2 (show seqL S (.lst []) = some [] from rfl)
    unfold RpL at q2
    subst q2
    have : vs.isEmpty = ds.isEmpty := by have := q1.length; cases vs <;> cases ds <;> simp_all
    exact .inr ⟨a, a2, vs, e1, e2, .inl ⟨t1, t2⟩, by rw [this, h2]; exact q⟩
  · split at h
    · rename_i ds
      cases h
      obtain ⟨a, vs, e1, t1, q1⟩ := tup_at r1
      obtain ⟨a2, vs2, e2, t2, q2⟩ := tup_at r2
      unfold RpL at q2
      subst q2
      have : vs.isEmpty = ds.isEmpty := by have := q1.length; cases vs <;> cases ds <;> simp_all
      exact .inr ⟨a, a2, vs, e1, e2, .inr ⟨t1, t2⟩, by rw [this]; exact q⟩
    · cases h
  · split at h
    · rename_i zb _ za ds
      cases h
      obtain ⟨a, vs, e1, t1, q1⟩ := tup_at r1
      obtain ⟨a2, vs2, e2, t2, q2⟩ := tup_at r2
      obtain ⟨v2, rfl, q3⟩ := q2.one_inv
      unfold RpL at q1
      obtain ⟨v1, vt, rfl, q4, q5⟩ := q1
      rw [rp_str q3] at t2
      rw [rp_str q4] at t1
      have : vt.isEmpty = ds.isEmpty := by have := q5.length; cases vt <;> cases ds <;> simp_all
      exact .inl (.inr ⟨a, a2, vt, za, zb, e1, e2, t1, t2, by rw [this]; exact q⟩)
    · cases h
  · split at h
    · cases h
      exact .inl (.inl ⟨_, _, rp_str r1, rp_str r2, q⟩)
    · cases h
  · cases h
theorem eqP_v : OpV K mg (rEqU K) gEq := by
  intro w S H x y d e Q E s r1 r2 h
  unfold gEq at h
  split at h
  · rename_i b hb; exact .inl (eqE_at (neg := false) s r1 r2 hb (h.ret s rp_b))
  · split at h
    · rename_i p q h1 h2
      split at h
      · rename_i hk; exact .inr ⟨p, q, pyS_at s d x p r1 h1, pyS_at s e y q r2 h2, hk, h.ret s rp_b⟩
      · exact h.elim
    · exact h.elim
theorem neP_v : OpV K mg (rNeU K) gNe := by
  intro w S H x y d e Q E s r1 r2 h
  unfold gNe at h
  split at h
  · rename_i b hb; exact .inl (eqE_at (neg := true) s r1 r2 hb (h.ret s rp_b))
  · split at h
    · rename_i p q h1 h2
      split at h
      · rename_i hk; exact .inr ⟨p, q, pyS_at s d x p r1 h1, pyS_at s e y q r2 h2, hk, h.ret s rp_b⟩
      · exact h.elim
    · exact h.elim
theorem inU_v {neg : Bool} : OpV K mg (rInU K neg) (gIn neg) := by
  intro w S H x y d e Q E s r1 r2 h
  unfold gIn at h
  split at h
  · rename_i b h1
    split at h
    · rename_i a
      have ye := pyS_at s e y _ r2 h1
      cases ye
      exact .inl ⟨_, _, rp_str r1, rfl, h.ret s rp_b⟩
    · exact h.elim
  · rename_i ds h1
    split at h
    · rename_i p h2
      split at h
      · rename_i hk
        simp only [Bool.and_eq_true, decide_eq_true_eq] at hk
        exact .inr ⟨p, ds, pyS_at s d x p r1 h2, .inl (pyS_at s e y _ r2 h1), hk.1.1, hk.1.2, hk.2, h.ret s rp_b⟩
      · exact h.elim
    · exact h.elim
  · rename_i ds h1
    split at h
    · rename_i p h2
      split at h
      · rename_i hk
        simp only [Bool.and_eq_true, decide_eq_true_eq] at hk
        exact .inr ⟨p, ds, pyS_at s d x p r1 h2, .inr (pyS_at s e y _ r2 h1), hk.1.1, hk.1.2, hk.2, h.ret s rp_b⟩
      · exact h.elim
    · exact h.elim
  · exact h.elim
theorem cmp_v (p : Int → Int → Bool) : OpV K mg (rI0 fun i j => .bl (p i j)) (gCmp p) := by
  intro w S H x y d e Q E s r1 r2 h
  cases d <;> cases e <;> simp only [gCmp] at h <;> try exact h.elim
  exact ⟨_, _, rp_int r1, rp_int r2, h.ret s rp_b⟩
end
/-- whether it is None -/
def isNon (S : Store) : D → Option Bool
  | .non => some true
  | .loc n => (cellOf S n).map fun _ => false
  | _ => some false
/-- is None, is True -/
def gIs (neg : Bool) (x y : D) (S : Store) : RE D := match y with
  | .non => (match isNon S x with
    | some k => .ok (.bl (xor neg k)) S
    | none => .no)
  | .bl b => (match x with
    | .bl a => .ok (.bl (xor neg (decide (a = b)))) S
    | _ => .no)
  | _ => .no
def rIsU (neg : Bool) : R2 := fun x y H Q => (y = .non ∧ Q (.bl (xor neg (decide (x = .non)))) H) ∨ (∃ a b : Bool, x = .bl a ∧ y = .bl b ∧ Q (.bl (xor neg (decide (a = b)))) H)
section
variable {X : Cx}
theorem op_isU : OpR X (compareOp .Is) (rIsU false) := by
  have h := (op_isN (X := X)).or (op_isBl (X := X))
  intro pins s σ H x y v u Q I rx ry q
  refine h pins s σ H x y v u Q I rx ry ?_
  rcases q with ⟨a, b⟩ | ⟨a, b, c, d, e⟩
  · exact .inl ⟨a, by simpa using b⟩
  · exact .inr ⟨a, b, c, d, by simpa using e⟩
theorem op_isNotU : OpR X (compareOp .IsNot) (rIsU true) := by
  have h := (op_notN (X := X)).or (op_notBl (X := X))
  intro pins s σ H x y v u Q I rx ry q
  refine h pins s σ H x y v u Q I rx ry ?_
  rcases q with ⟨a, b⟩ | ⟨a, b, c, d, e⟩
  · exact .inl ⟨a, by simpa using b⟩
  · exact .inr ⟨a, b, c, d, by simpa using e⟩
variable {K : PySem.W.Frag} {mg : Str → Option Value}
theorem isNon_at {w : Wd} {S : Store} {H : Hp} {x : V} {d : D} {k : Bool} (s : Sto K mg w S H) (r1 : Rp K mg w H d x) (h : isNon S d = some k) : decide (x = V.non) = k := by
  cases d with
  | loc n =>
    simp only [isNon, Option.map_eq_some_iff] at h
    obtain ⟨ds, h1, h2⟩ := h
    obtain ⟨a, xs, e, t, q⟩ := seqL_at (S := S) (d := .loc n) s r1 h1
    rw [e, ← h2]; rfl
  | non => simp only [isNon] at h; cases h; rw [rp_non r1]; rfl
  | bl b => simp only [isNon] at h; cases h; rw [rp_bl r1]; rfl
  | int b => simp only [isNon] at h; cases h; rw [rp_int r1]; rfl
  | str b => simp only [isNon] at h; cases h; rw [rp_str r1]; rfl
  | tup ds => simp only [isNon] at h; cases h; unfold Rp at r1; obtain ⟨a, xs, e, _⟩ := r1; rw [e]; rfl
  | lst ds => simp only [isNon] at h; cases h; unfold Rp at r1; obtain ⟨a, xs, e, _⟩ := r1; rw [e]; rfl
  | dic ks ds => simp only [isNon] at h; cases h; unfold Rp at r1; obtain ⟨a, vs, e, _⟩ := r1; rw [e]; rfl
  | ins c fs ds => simp only [isNon] at h; cases h; unfold Rp at r1; obtain ⟨a, C, dx, vs, e, _⟩ := r1; rw [e]; rfl
  | glo n => simp only [isNon] at h; cases h; unfold Rp at r1; obtain ⟨a, e, _⟩ := r1; rw [e]; rfl
  | exn n => simp only [isNon] at h; cases h; unfold Rp at r1; rw [r1]; rfl
  | fls ds => simp only [isNon] at h; cases h; unfold Rp at r1; obtain ⟨a, xs, e, _⟩ := r1; rw [e]; rfl
  | exo c ns ds => simp only [isNon] at h; cases h; unfold Rp at r1; obtain ⟨a, C, od, vs, e, _⟩ := r1; rw [e]; rfl
theorem isU_v {neg : Bool} : OpV K mg (rIsU neg) (gIs neg) := by
  intro w S H x y d e Q E s r1 r2 h
  cases e <;> simp only [gIs] at h <;> try exact h.elim
  · split at h
    · rename_i k hk
      refine .inl ⟨rp_non r2, ?_⟩
      rw [isNon_at s r1 hk]
      exact h.ret s rp_b
    · exact h.elim
  · cases d <;> simp only [] at h <;> try exact h.elim
    exact .inr ⟨_, _, rp_bl r1, rp_bl r2, h.ret s rp_b⟩
end
end Kw

/-! Kw4: subscripts, slices, built-ins, methods of lists, isinstance. -/
namespace Kw
open PySem PySem.Spec PyProof.Rows L2

/-! ### subscripts -/
section
variable {K : PySem.W.Frag} {mg : Str → Option Value} {w : Wd} {H : Hp} {S : Store}
theorem RpL.atI {ds : List D} {xs : List V} {i : Int} {d : D} (r : RpL K mg w H ds xs) (h : L2.atI ds i = some d) : ∃ v, L2.atI xs i = some v ∧ Rp K mg w H d v := by
  unfold L2.atI at h ⊢
  rw [← r.length]
  cases e : ixN ds.length i with
  | none => rw [e] at h; cases h
  | some j =>
    rw [e] at h
    exact r.get h
end
def gIx (x y : D) (S : Store) : RE D := match y with
  | .int i => (match x with
    | .str z => if z.length ≤ sizeLine then (match L2.atI z.cps.toList i with
      | some c => .ok (.str ⟨#[c]⟩) S
      | none => .no) else .no
    | x => (match seqA S x with
      | some ds => (match L2.atI ds i with
        | some d => .ok d S
        | none => .no)
      | none => .no))
  | _ => .no
section
variable {K : PySem.W.Frag} {mg : Str → Option Value}
theorem ix_v : OpV K mg (rIx K) gIx := by
  intro w S H x y d e Q E s r1 r2 h
  cases e <;> simp only [gIx] at h <;> try exact h.elim
  rename_i i
  have seqs : End K mg (fun w H => Rp K mg w H) w H (match seqA S d with
      | some ds => (match L2.atI ds i with
        | some d => .ok d S
        | none => .no)
      | none => .no) Q E → rIx K x y H Q := fun h => by
    split at h
    · rename_i ds h1
      split at h
      · rename_i d' h2
        obtain ⟨a, xs, e1, t1, q1⟩ := seqA_at s r1 h1
        obtain ⟨v, h3, h4⟩ := q1.atI h2
        rcases t1 with t1 | t1
        · exact .inl ⟨a, xs, i, v, e1, rp_int r2, t1, h3, h.ret s h4⟩
        · exact .inr (.inl ⟨a, xs, i, v, e1, rp_int r2, t1, h3, h.ret s h4⟩)
      · exact h.elim
    · exact h.elim
  cases d <;> simp only [] at h
  case str z =>
    split at h
    · rename_i hl
      split at h
      · rename_i c hc
        exact .inr (.inr ⟨z, i, c, rp_str r1, rp_int r2, hl, hc, h.ret s rp_s⟩)
      · exact h.elim
    · exact h.elim
  all_goals exact seqs h
end
section
variable {X : Cx} {W : WX} {a b e : Expr} {es : List Expr} {fa fb : FE} {fs : FA} {pos : Pos}
theorem q_ix (ha : PE X a (tF X W fa)) (hb : PE X b (tF X W fb)) (hs : PlainIx b := by intro _ _; rfl) : PE X (.Subscript a b pos) (tF X W (f2 gIx fa fb)) := PE.wk (pe_ix ix_seq ha hb hs) fun σ H Q h => two ix_v h
end
/-! ### slices -/
abbrev FO := FEnv → Store → RE (Option Int)
def tO (X : Cx) (W : WX) (f : FO) : TO := fun σ H Q => ∃ w ρ S, Sto X.K X.mg w S H ∧ EnvR X.K X.mg w H ρ σ ∧ End X.K X.mg (fun _ _ (a b : Option Int) => b = a) w H (f ρ S) Q (fun c od H' => W c od σ H')
def fNone : FO := fun _ S => .ok none S
def fSome (f : FE) : FO := fun ρ S => (f ρ S).bnd fun x S1 => match x with
  | .int i => .ok (some i) S1
  | _ => .no
def cutL {α : Type} (xs : List α) (lo hi : Option Int) : List α := (xs.drop (HT.sIx xs.length 0 lo)).take (HT.sIx xs.length xs.length hi - HT.sIx xs.length 0 lo)
/-- c: the slice of a list is a cell -/
def gSl (c : Bool) (x : D) (lo hi : Option Int) (S : Store) : RE D := match x with
  | .str z => if z.length ≤ sizeLine then .ok (.str (cutS z lo hi)) S else .no
  | .tup ds => .ok (.tup (cutL ds lo hi)) S
  | x => (match seqL S x with
    | some ds => if c then .ok (.loc S.length) (S ++ [.lst (cutL ds lo hi)]) else .ok (.lst (cutL ds lo hi)) S
    | none => .no)
def fSl (g : D → Option Int → Option Int → Store → RE D) (a : FE) (l u : FO) : FE := fun ρ S => (a ρ S).bnd fun x S1 => (l ρ S1).bnd fun lo S2 => (u ρ S2).bnd fun hi S3 => g x lo hi S3
def rSlU (K : PySem.W.Frag) : V → Option Int → Option Int → Hp → VK → Prop := fun x lo hi H Q => rSlL K x lo hi H Q ∨ rSlA K x lo hi H Q ∨ rSlS x lo hi H Q
theorem sl_U {X : Cx} : SlR X (rSlU X.K) := sl_list.or (sl_tupA.or sl_str)
section
variable {K : PySem.W.Frag} {mg : Str → Option Value} {w : Wd} {H : Hp} {S : Store} {Q : VK} {E : Value → Option Addr → Hp → Prop}
theorem RpL.cut {ds : List D} {xs : List V} (r : RpL K mg w H ds xs) (lo hi : Option Int) : RpL K mg w H (cutL ds lo hi) (cutV xs lo hi) := by
  unfold cutL cutV
  rw [← r.length]
  exact (r.drop _).take _
theorem newLst {ds : List D} {xs : List V} {p : Addr} (s : Sto K mg w S H) (r : RpL K mg w H ds xs) (np : H p = none) (h : End K mg (fun w H => Rp K mg w H) w H (.ok (.lst ds) S) Q E) : Q (.ref p) (upd H p (.lst xs)) := by
  refine h w _ _ (Ext.new np) (s.beside np) ?_
  show Rp _ _ _ _ _ _
  unfold Rp
  exact ⟨p, xs, rfl, upd_same, s.new np, RpL.ext (Ext.new np) _ _ r⟩
theorem newTup {ds : List D} {xs : List V} {p : Addr} (s : Sto K mg w S H) (r : RpL K mg w H ds xs) (np : H p = none) (h : End K mg (fun w H => Rp K mg w H) w H (.ok (.tup ds) S) Q E) : Q (.ref p) (upd H p (.tup xs)) := by
  refine h w _ _ (Ext.new np) (s.beside np) ?_
  show Rp _ _ _ _ _ _
  unfold Rp
  exact ⟨p, xs, rfl, .inl ⟨upd_same, s.new np⟩, RpL.ext (Ext.new np) _ _ r⟩
theorem newCel {ds : List D} {xs : List V} {p : Addr} (s : Sto K mg w S H) (r : RpL K mg w H ds xs) (np : H p = none) (h : End K mg (fun w H => Rp K mg w H) w H (.ok (.loc S.length) (S ++ [.lst ds])) Q E) : Q (.ref p) (upd H p (.lst xs)) := by
  refine h _ _ _ (Ext.cell np) (s.cellNew np r) ?_
  show Rp _ _ _ _ _ _
  unfold Rp
  refine ⟨by show S.length < (w.φ ++ [some p]).length; rw [List.length_append, s.len]; exact Nat.lt_succ_self _, fun a ha => ?_⟩
  have ha' : (w.φ ++ [some p])[S.length]? = some (some a) := ha
  rw [← s.len, List.getElem?_append_right (Nat.le_refl _), Nat.sub_self] at ha'
  simp at ha'; rw [ha']
theorem slU_v {c : Bool} {x : V} {d : D} {lo hi : Option Int} (s : Sto K mg w S H) (r1 : Rp K mg w H d x) (h : End K mg (fun w H => Rp K mg w H) w H (gSl c d lo hi S) Q E) : rSlU K x lo hi H Q := by
  have lists : End K mg (fun w H => Rp K mg w H) w H (match seqL S d with
      | some ds => if c then .ok (.loc S.length) (S ++ [.lst (cutL ds lo hi)]) else .ok (.lst (cutL ds lo hi)) S
      | none => .no) Q E → rSlL K x lo hi H Q := fun h => by
    split at h
    · rename_i ds h1
      obtain ⟨a, xs, e1, t1, q1⟩ := seqL_at s r1 h1
      refine ⟨a, xs, e1, t1, fun p np => ?_⟩
      cases c
      · exact newLst s (q1.cut lo hi) np h
      · exact newCel s (q1.cut lo hi) np h
    · exact h.elim
  cases d <;> simp only [gSl] at h
  case str z =>
    split at h
    · rename_i hl; exact .inr (.inr ⟨z, rp_str r1, hl, h.ret s rp_s⟩)
    · exact h.elim
  case tup ds =>
    have r1' := r1
    unfold Rp at r1'
    obtain ⟨a, xs, e1, t1, q1⟩ := r1'
    refine .inr (.inl ⟨a, xs, e1, t1.sq, fun ⟨z1, z2⟩ => ?_, fun _ p np => newTup s (q1.cut lo hi) np h⟩)
    have e2 : cutL ds lo hi = ds := by
      unfold cutL
      rw [q1.length, z1, z2, List.drop_zero, ← q1.length]
      exact List.take_of_length_le (by omega)
    rw [e2] at h
    exact h.ret s (by rw [← e1]; exact r1)
  all_goals exact .inl (lists h)
end
section
variable {X : Cx} {W : WX} {a b e : Expr} {es : List Expr} {fa fb : FE} {fs : FA} {pos : Pos}
theorem q_none : PO X none (tO X W fNone) := ⟨fun pins s σ H Q I ⟨w, ρ, S, st, en, h⟩ => po_none.run pins s σ H Q I (h.ret st rfl)⟩
theorem q_some (h : PE X e (tF X W fa)) : PO X (some e) (tO X W (fSome fa)) := ⟨fun pins s σ H Q I ⟨w, ρ, S, st, en, hh⟩ => (po_some h).run pins s σ H Q I (by
  refine ⟨w, ρ, S, st, en, (End.bind (R := fun w H => Rp X.K X.mg w H) hh).imp ?_ (fun _ _ _ z => z)⟩
  rintro x H1 ⟨w1, S1, d, e1, s1, r1, h1⟩
  cases d <;> try exact h1.elim
  exact ⟨_, rp_int r1, h1.ret s1 rfl⟩)⟩
theorem q_slice {c : Bool} {lo hi : Option Expr} {fl fu : FO} {p2 : Pos} (he : PE X e (tF X W fa)) (hl : PO X lo (tO X W fl)) (hu : PO X hi (tO X W fu)) : PE X (.Subscript e (.Slice lo hi none p2) pos) (tF X W (fSl (gSl c) fa fl fu)) :=
  PE.wk (pe_slice sl_U he hl hu) fun σ H Q ⟨w, ρ, S, s, en, h⟩ => by
    refine ⟨w, ρ, S, s, en, (End.bind h).imp ?_ (fun _ _ _ z => z)⟩
    rintro x H1 ⟨w1, S1, d, e1, s1, r1, h1⟩
    refine ⟨w1, ρ, S1, s1, en.ext e1, (End.bind h1).imp ?_ (fun _ _ _ z => z)⟩
    rintro l H2 ⟨w2, S2, l', e2, s2, r2, h2⟩
    cases r2
    refine ⟨w2, ρ, S2, s2, (en.ext e1).ext e2, (End.bind h2).imp ?_ (fun _ _ _ z => z)⟩
    rintro u H3 ⟨w3, S3, u', e3, s3, r3, h3⟩
    cases r3
    exact slU_v s3 (Rp.ext e3 _ _ (Rp.ext e2 _ _ r1)) h3
end

/-! ### built-ins -/
def gLen : List D → Store → RE D := fun ds S => match ds with
  | [.str z] => if z.length ≤ sizeLine then .ok (.int z.length) S else .no
  | [d] => (match seqA S d with
    | some xs => .ok (.int xs.length) S
    | none => .no)
  | _ => .no
def gInt : List D → Store → RE D := fun ds S => match ds with
  | [.int i] => .ok (.int i) S
  | [.bl k] => .ok (.int (if k then 1 else 0)) S
  | _ => .no
def gList (c : Bool) : List D → Store → RE D := fun ds S => match ds with
  | [d] => (match seqA S d with
    | some xs => if c then .ok (.loc S.length) (S ++ [.lst xs]) else .ok (.lst xs) S
    | none => .no)
  | _ => .no
def gTuple : List D → Store → RE D := fun ds S => match ds with
  | [d] => (match seqA S d with
    | some xs => .ok (.tup xs) S
    | none => .no)
  | _ => .no
def blsOf : List D → Option (List Bool)
  | [] => some []
  | .bl b :: r => (blsOf r).map (b :: ·)
  | _ => none
def intsOf : List D → Option (List Int)
  | [] => some []
  | .int b :: r => (intsOf r).map (b :: ·)
  | _ => none
def gAll : List D → Store → RE D := fun ds S => match ds with
  | [d] => (match (seqL S d).bind blsOf with
    | some bs => .ok (.bl (bs.all id)) S
    | none => .no)
  | _ => .no
def gAny : List D → Store → RE D := fun ds S => match ds with
  | [d] => (match (seqL S d).bind blsOf with
    | some bs => .ok (.bl (bs.any id)) S
    | none => .no)
  | _ => .no
def gSum : List D → Store → RE D := fun ds S => match ds with
  | [d] => (match (seqL S d).bind intsOf with
    | some bs => .ok (.int bs.sum) S
    | none => .no)
  | _ => .no
def gMax : List D → Store → RE D := fun ds S => match ds with
  | [.int i, .int j] => .ok (.int (if j > i then j else i)) S
  | _ => .no
def gMin : List D → Store → RE D := fun ds S => match ds with
  | [.int i, .int j] => .ok (.int (if j < i then j else i)) S
  | _ => .no
section
variable {K : PySem.W.Frag} {mg : Str → Option Value}
theorem len_v : CallV K mg (fun xs H Q => ∃ x n, xs = [x] ∧ LenV K x H n ∧ Q (.int n) H) gLen := by
  intro w S H xs ds Q E s r h
  unfold gLen at h
  split at h
  · rename_i z
    split at h
    · rename_i hl
      obtain ⟨v, rfl, r1⟩ := r.one_inv
      exact ⟨v, z.length, rfl, by rw [rp_str r1]; exact ⟨hl, rfl⟩, h.ret s rp_i⟩
    · exact h.elim
  · rename_i d _
    split at h
    · rename_i ys h1
      obtain ⟨v, rfl, r1⟩ := r.one_inv
      obtain ⟨a, vs, e1, t1, q1⟩ := seqA_at s r1 h1
      refine ⟨v, ys.length, rfl, ?_, h.ret s rp_i⟩
      rw [e1, q1.length]
      rcases t1 with t1 | t1
      · exact .inl ⟨vs, t1, rfl⟩
      · exact .inr ⟨vs, t1, rfl⟩
    · exact h.elim
  · exact h.elim
theorem int_v : CallV K mg (fun xs H Q => (∃ i, xs = [.int i] ∧ Q (.int i) H) ∨ ∃ k, xs = [.bl k] ∧ Q (.int (if k then 1 else 0)) H) gInt := by
  intro w S H xs ds Q E s r h
  unfold gInt at h
  split at h
  · obtain ⟨v, rfl, r1⟩ := r.one_inv
    exact .inl ⟨_, by rw [rp_int r1], h.ret s rp_i⟩
  · obtain ⟨v, rfl, r1⟩ := r.one_inv
    exact .inr ⟨_, by rw [rp_bl r1], h.ret s rp_i⟩
  · exact h.elim
theorem list_v {c : Bool} : CallV K mg (fun xs H Q => ∃ p ys, xs = [.ref p] ∧ (SqL K H p ys ∨ SqT K H p ys) ∧ ∀ l, H l = none → Q (.ref l) (upd H l (.lst ys))) (gList c) := by
  intro w S H xs ds Q E s r h
  unfold gList at h
  split at h
  · split at h
    · rename_i ys h1
      obtain ⟨v, rfl, r1⟩ := r.one_inv
      obtain ⟨a, vs, e1, t1, q1⟩ := seqA_at s r1 h1
      refine ⟨a, vs, by rw [e1], t1, fun p np => ?_⟩
      cases c
      · exact newLst s q1 np h
      · exact newCel s q1 np h
    · exact h.elim
  · exact h.elim
theorem tuple_v : CallV K mg (fun xs H Q => ∃ p ys, xs = [.ref p] ∧ ((SqL K H p ys ∧ ∀ l, H l = none → Q (.ref l) (upd H l (.tup ys))) ∨ (SqT K H p ys ∧ Q (.ref p) H))) gTuple := by
  intro w S H xs ds Q E s r h
  unfold gTuple at h
  split at h
  · rename_i d
    split at h
    · rename_i ys h1
      obtain ⟨v, rfl, r1⟩ := r.one_inv
      cases d <;> simp only [seqA] at h1 <;> try (cases h1; done)
      · cases h1
        obtain ⟨a, vs, e1, t1, q1⟩ := tup_at r1
        exact ⟨a, vs, by rw [e1], .inr ⟨t1, h.ret s (by rw [← e1]; exact r1)⟩⟩
      · cases h1
        obtain ⟨a, vs, e1, t1, q1⟩ := seqL_at (S := S) s r1 rfl
        exact ⟨a, vs, by rw [e1], .inl ⟨t1, fun p np => newTup s q1 np h⟩⟩
      · rename_i n
        obtain ⟨a, vs, e1, t1, q1⟩ := seqL_at (S := S) (d := .loc n) s r1 h1
        exact ⟨a, vs, by rw [e1], .inl ⟨t1, fun p np => newTup s q1 np h⟩⟩
      · rename_i ds'
        cases h1
        obtain ⟨a, vs, e1, t1, q1⟩ := seqL_at (S := S) (d := .fls ys) s r1 rfl
        exact ⟨a, vs, by rw [e1], .inl ⟨t1, fun p np => newTup s q1 np h⟩⟩
    · exact h.elim
  · exact h.elim
theorem blsOf_at {w : Wd} {H : Hp} : ∀ {ds : List D} {vs : List V} {bs : List Bool}, RpL K mg w H ds vs → blsOf ds = some bs → vs = bs.map V.bl
  | [], vs, bs, r, h => by unfold RpL at r; simp only [blsOf] at h; cases h; rw [r]; rfl
  | d :: ds, vs, bs, r, h => by
    unfold RpL at r
    obtain ⟨v, vs', e, r1, r2⟩ := r
    cases d <;> simp only [blsOf] at h <;> try (cases h; done)
    simp only [Option.map_eq_some_iff] at h
    obtain ⟨b', h1, h2⟩ := h
    rw [e, ← h2, rp_bl r1, blsOf_at r2 h1]; rfl
theorem intsOf_at {w : Wd} {H : Hp} : ∀ {ds : List D} {vs : List V} {bs : List Int}, RpL K mg w H ds vs → intsOf ds = some bs → vs = bs.map V.int
  | [], vs, bs, r, h => by unfold RpL at r; simp only [intsOf] at h; cases h; rw [r]; rfl
  | d :: ds, vs, bs, r, h => by
    unfold RpL at r
    obtain ⟨v, vs', e, r1, r2⟩ := r
    cases d <;> simp only [intsOf] at h <;> try (cases h; done)
    simp only [Option.map_eq_some_iff] at h
    obtain ⟨b', h1, h2⟩ := h
    rw [e, ← h2, rp_int r1, intsOf_at r2 h1]; rfl
theorem all_v : CallV K mg (rAll K) gAll := by
  intro w S H xs ds Q E s r h
  unfold gAll at h
  split at h
  · split at h
    · rename_i bs h1
      obtain ⟨v, rfl, r1⟩ := r.one_inv
      simp only [Option.bind_eq_some_iff] at h1
      obtain ⟨ys, h2, h3⟩ := h1
      obtain ⟨a, vs, e1, t1, q1⟩ := seqL_at s r1 h2
      exact ⟨a, bs, by rw [e1], by rw [← blsOf_at q1 h3]; exact t1, h.ret s rp_b⟩
    · exact h.elim
  · exact h.elim
theorem any_v : CallV K mg (rAny K) gAny := by
  intro w S H xs ds Q E s r h
  unfold gAny at h
  split at h
  · split at h
    · rename_i bs h1
      obtain ⟨v, rfl, r1⟩ := r.one_inv
      simp only [Option.bind_eq_some_iff] at h1
      obtain ⟨ys, h2, h3⟩ := h1
      obtain ⟨a, vs, e1, t1, q1⟩ := seqL_at s r1 h2
      exact ⟨a, bs, by rw [e1], by rw [← blsOf_at q1 h3]; exact t1, h.ret s rp_b⟩
    · exact h.elim
  · exact h.elim
theorem sum_v : CallV K mg (rSum K) gSum := by
  intro w S H xs ds Q E s r h
  unfold gSum at h
  split at h
  · split at h
    · rename_i bs h1
      obtain ⟨v, rfl, r1⟩ := r.one_inv
      simp only [Option.bind_eq_some_iff] at h1
      obtain ⟨ys, h2, h3⟩ := h1
      obtain ⟨a, vs, e1, t1, q1⟩ := seqL_at s r1 h2
      exact ⟨a, bs, by rw [e1], by rw [← intsOf_at q1 h3]; exact t1, h.ret s rp_i⟩
    · exact h.elim
  · exact h.elim
theorem RpL.two_inv {w : Wd} {H : Hp} {d e : D} {vs : List V} (h : RpL K mg w H [d, e] vs) : ∃ v u, vs = [v, u] ∧ Rp K mg w H d v ∧ Rp K mg w H e u := by
  unfold RpL at h
  obtain ⟨v, r, e1, h1, h2⟩ := h
  obtain ⟨u, rfl, h3⟩ := h2.one_inv
  exact ⟨v, u, e1, h1, h3⟩
theorem max_v : CallV K mg (fun xs H Q => ∃ i j, xs = [.int i, .int j] ∧ Q (.int (if j > i then j else i)) H) gMax := by
  intro w S H xs ds Q E s r h
  unfold gMax at h
  split at h
  · obtain ⟨v, u, rfl, r1, r2⟩ := r.two_inv
    exact ⟨_, _, by rw [rp_int r1, rp_int r2], h.ret s rp_i⟩
  · exact h.elim
theorem min_v : CallV K mg (fun xs H Q => ∃ i j, xs = [.int i, .int j] ∧ Q (.int (if j < i then j else i)) H) gMin := by
  intro w S H xs ds Q E s r h
  unfold gMin at h
  split at h
  · obtain ⟨v, u, rfl, r1, r2⟩ := r.two_inv
    exact ⟨_, _, by rw [rp_int r1, rp_int r2], h.ret s rp_i⟩
  · exact h.elim
end

/-! ### isinstance with a built-in type -/
def tyD (S : Store) : D → Option String
  | .non => some "NoneType"
  | .bl _ => some "bool"
  | .int _ => some "int"
  | .str _ => some "str"
  | .tup _ => some "tuple"
  | .lst _ => some "list"
  | .fls _ => some "list"
  | .dic _ _ => some "dict"
  | .loc n => (cellOf S n).map fun _ => "list"
  | _ => none
def isiB (t T : String) : Bool := t == T || (t == "bool" && T == "int")
def fIsi (T : String) (f : FE) : FE := fun ρ S => (f ρ S).bnd fun x S1 => match tyD S1 x with
  | some t => .ok (.bl (isiB t T)) S1
  | none => .no
theorem tyX_of {K : PySem.W.Frag} {mg : Str → Option Value} {w : Wd} {H : Hp} {S : Store} {d : D} {v : V} {t : String} (s : Sto K mg w S H) (r : Rp K mg w H d v) (h : tyD S d = some t) : TyX K H v (.type t) := by
  cases d with
  | non => simp only [tyD] at h; cases h; rw [rp_non r]; exact .base .non
  | bl b => simp only [tyD] at h; cases h; rw [rp_bl r]; exact .base (.bl b)
  | int b => simp only [tyD] at h; cases h; rw [rp_int r]; exact .base (.int b)
  | str b => simp only [tyD] at h; cases h; rw [rp_str r]; exact .base (.str b)
  | tup ds =>
    simp only [tyD] at h; cases h
    unfold Rp at r
    obtain ⟨a, xs, e, t, _⟩ := r
    rw [e]
    rcases t with t | ⟨o, its, n, h1, h2, _⟩
    · exact .base (.tup t.1)
    · exact .kTuple h1 h2
  | lst ds =>
    simp only [tyD] at h; cases h
    unfold Rp at r
    obtain ⟨a, xs, e, t, _⟩ := r
    rw [e]; exact .base (.lst t)
  | dic ks ds =>
    simp only [tyD] at h; cases h
    unfold Rp at r
    obtain ⟨a, xs, e, t, _⟩ := r
    rw [e]; exact .base (.dK t)
  | loc n =>
    simp only [tyD, Option.map_eq_some_iff] at h
    obtain ⟨ds, h1, h2⟩ := h
    obtain ⟨a, xs, h3, h4, h5⟩ := cellOf_at s h1
    unfold Rp at r
    rw [r.2 a h3, ← h2]
    rcases h4 with h4 | ⟨o, h4⟩
    · exact .base (.lst h4)
    · exact .base (.frz h4)
  | fls ds =>
    simp only [tyD] at h; cases h
    unfold Rp at r
    obtain ⟨a, xs, e, t, _⟩ := r
    rw [e]
    rcases t with ⟨o, t, _⟩ | ⟨o, its, n, h1, h2, _⟩
    · exact .base (.frz t)
    · exact .kList h1 h2
  | ins _ _ _ => simp [tyD] at h
  | glo _ => simp [tyD] at h
  | exn _ => simp [tyD] at h
  | exo _ _ _ => simp [tyD] at h
theorem kitB_ok {t T : String} (ht : t ∈ ["NoneType", "bool", "int", "str", "tuple", "list", "dict"]) (hT : T ∈ ["bool", "int", "str", "tuple", "list", "dict"]) : kitB t T = some (isiB t T) := by
  have key : ∀ t ∈ ["NoneType", "bool", "int", "str", "tuple", "list", "dict"], ∀ T ∈ ["bool", "int", "str", "tuple", "list", "dict"], kitB t T = some (isiB t T) := by decide +kernel
  exact key t ht T hT
theorem tyD_mem {S : Store} {d : D} {t : String} (h : tyD S d = some t) : t ∈ ["NoneType", "bool", "int", "str", "tuple", "list", "dict"] := by
  cases d <;> simp only [tyD, Option.map_eq_some_iff] at h <;> first | (cases h; decide) | (obtain ⟨_, _, rfl⟩ := h; decide) | (cases h)
section
variable {X : Cx} {W : WX} {a b e : Expr} {es : List Expr} {fa fb : FE} {fs : FA} {pos : Pos}
theorem q_isi {T : String} {x : Str} {p q : Pos} (hg : Gl X "isinstance") (hm : X.mg "isinstance" = none) (hgT : Gl X x) (hmT : X.mg x = none) (hvT : bootBuiltins x = some (.type T)) (hT : T ∈ ["bool", "int", "str", "tuple", "list", "dict"]) (ha : PE X a (tF X W fa))
    (hn : x ≠ "__name__" := by decide) (hd : (x == ("__debug__" : Str)) = false := by decide)
    (h1 : starEach [a, .Name x q] X.env = (false, eval a X.env) :: starEach [.Name x q] X.env := by rfl) (h2 : starEach [.Name x q] X.env = (false, eval (.Name x q) X.env) :: starEach [] X.env := by rfl) (hpl : (backTo pos (starEach [.Name x q] X.env)).any (·.1) = false := by rfl) :
    PE X (.Call (.Name "isinstance" p) [a, .Name x q] [] pos) (tF X W (fIsi T fa)) := by
  have hx : PE X (.Name x q) (tC (.ty T)) := pe_bltn hgT hmT hvT rfl hn hd
  refine PE.wk (pe_callB call_isi hg hm (by decide +kernel) (pa_cons ha (pa_cons hx pa_nil h2) h1) (by decide) (by decide) h1 hpl) fun σ H Q ⟨w, ρ, S, s, en, h⟩ => ?_
  refine ⟨w, ρ, S, s, en, (End.bind (R := fun w H => Rp X.K X.mg w H) h).imp ?_ (fun _ _ _ z => z)⟩
  rintro v H1 ⟨w1, S1, d, e1, s1, r1, h3⟩
  split at h3
  · rename_i t ht
    exact ⟨v, .ty T, .type t, .type T, isiB t T, rfl, .ty T, tyX_of s1 r1 ht, kit_ty (kitB_ok (tyD_mem ht) hT), h3.ret s1 rp_b⟩
  · exact h3.elim
end

/-! ### methods of lists -/
section
variable {K : PySem.W.Frag} {mg : Str → Option Value} {w : Wd} {H : Hp} {S : Store}
theorem Ext.write {n : Nat} {l : Addr} {o : HO} (hw : w.φ[n]? = some (some l)) : Ext w H w (upd H l o) := ⟨fun a u e n => by
  have : a ≠ l := fun z => by subst z; exact n (List.mem_of_getElem? hw)
  rw [upd_ne this]; exact e, Nat.le_refl _, fun _ _ h _ => h, fun _ h => .inl h, rfl⟩
theorem Sto.write {n : Nat} {l : Addr} {ds : List D} {xs : List V} (s : Sto K mg w S H) (hw : w.φ[n]? = some (some l)) (hn : n < S.length) (r : RpL K mg w H ds xs) : Sto K mg w (S.set n (.lst ds)) (upd H l (.lst xs)) := by
  have ex : Ext w H w (upd H l (.lst xs)) := Ext.write hw
  refine ⟨by rw [List.length_set]; exact s.len, s.nd, fun a ha => ⟨upd_some (s.ap a ha).1, (s.ap a ha).2⟩, fun m c hc => ?_⟩
  by_cases e : m = n
  · subst e
    rw [List.getElem?_set_self hn] at hc
    cases hc
    exact ⟨l, xs, hw, upd_same, RpL.ext ex _ _ r⟩
  · rw [List.getElem?_set_ne (Ne.symm e)] at hc
    refine CellR.ext ex (fun a ha => ⟨ha, ?_⟩) id (s.cell m c hc)
    have : a ≠ l := fun z => by subst z; exact e (s.nd m n a ha hw)
    rw [upd_ne this]
theorem cellM_lt {n : Nat} {ds : List D} (h : cellM S n = some ds) : n < S.length := by
  unfold cellM at h
  split at h
  · rename_i e he; exact (List.getElem?_eq_some_iff.mp he).1
  · cases h
/-- a cell is written -/
theorem wrote {n : Nat} {ds ds' : List D} {xs' : List V} {x : V} {Q : VK} {E : Value → Option Addr → Hp → Prop} {d : D} {v : V} (s : Sto K mg w S H) (r : Rp K mg w H (.loc n) x) (h : cellM S n = some ds) (r' : RpL K mg w H ds' xs') (rv : Rp K mg w H d v)
    (he : End K mg (fun w H => Rp K mg w H) w H (.ok d (S.set n (.lst ds'))) Q E) : ∀ l, x = .ref l → Q v (upd H l (.lst xs')) := fun l el => by
  obtain ⟨a, xs, h1, h2, h3⟩ := cellM_at s h
  have e := r.2 a h1
  rw [el] at e; cases e
  exact he w _ v (Ext.write h1) (s.write h1 (cellM_lt h) r') (Rp.ext (Ext.write h1) _ _ rv)
end
def MtV (K : PySem.W.Frag) (mg : Str → Option Value) (r : V → List V → Hp → VK → Prop) (g : D → List D → Store → RE D) : Prop :=
  ∀ (w : Wd) (S : Store) (H : Hp) (x : V) (xs : List V) (d : D) (ds : List D) (Q : VK) (E : Value → Option Addr → Hp → Prop), Sto K mg w S H → Rp K mg w H d x → RpL K mg w H ds xs → End K mg (fun w H => Rp K mg w H) w H (g d ds S) Q E → r x xs H Q
def gAppend (x : D) (ds : List D) (S : Store) : RE D := match x, ds with
  | .loc n, [y] => (match cellM S n with
    | some xs => if xs.length < sizeLine then .ok .non (S.set n (.lst (xs ++ [y]))) else .no
    | none => .no)
  | _, _ => .no
def gExtend (x : D) (ds : List D) (S : Store) : RE D := match x, ds with
  | .loc n, [y] => (match cellM S n, seqM S y with
    | some xs, some ys => if xs.length + ys.length ≤ sizeLine then .ok .non (S.set n (.lst (xs ++ ys))) else .no
    | _, _ => .no)
  | _, _ => .no
def gPop0 (x : D) (ds : List D) (S : Store) : RE D := match x, ds with
  | .loc n, [] => (match cellM S n with
    | some xs => (match xs[xs.length - 1]? with
      | some y => .ok y (S.set n (.lst xs.dropLast))
      | none => .no)
    | none => .no)
  | _, _ => .no
def gPop1 (x : D) (ds : List D) (S : Store) : RE D := match x, ds with
  | .loc n, [.int i] => (match cellM S n with
    | some xs => if -(2 ^ 63) ≤ i ∧ i < 2 ^ 63 then (match seqIndex? i xs.length with
      | some k => (match xs[k]? with
        | some y => .ok y (S.set n (.lst (xs.eraseIdx k)))
        | none => .no)
      | none => .no) else .no
    | none => .no)
  | _, _ => .no
def gRev (x : D) (ds : List D) (S : Store) : RE D := match x, ds with
  | .loc n, [] => (match cellM S n with
    | some xs => .ok .non (S.set n (.lst xs.reverse))
    | none => .no)
  | _, _ => .no
def gClear (x : D) (ds : List D) (S : Store) : RE D := match x, ds with
  | .loc n, [] => (match cellM S n with
    | some xs => .ok .non (S.set n (.lst []))
    | none => .no)
  | _, _ => .no
section
variable {K : PySem.W.Frag} {mg : Str → Option Value}
theorem RpL.dropLast {w : Wd} {H : Hp} {ds : List D} {xs : List V} (r : RpL K mg w H ds xs) : RpL K mg w H ds.dropLast xs.dropLast := by
  rw [List.dropLast_eq_take, List.dropLast_eq_take, r.length]; exact r.take _
theorem RpL.erase {w : Wd} {H : Hp} : ∀ {ds : List D} {xs : List V} (k : Nat), RpL K mg w H ds xs → RpL K mg w H (ds.eraseIdx k) (xs.eraseIdx k)
  | [], xs, k, h => by unfold RpL at h; rw [h]; simp; unfold RpL; rfl
  | d :: ds, xs, 0, h => by
    unfold RpL at h
    obtain ⟨v, r, e1, h1, h2⟩ := h
    rw [e1]; exact h2
  | d :: ds, xs, k + 1, h => by
    unfold RpL at h
    obtain ⟨v, r, e1, h1, h2⟩ := h
    rw [e1, List.eraseIdx_cons_succ, List.eraseIdx_cons_succ]
    exact RpL.cons h1 (RpL.erase k h2)
theorem RpL.reverse {w : Wd} {H : Hp} : ∀ {ds : List D} {xs : List V}, RpL K mg w H ds xs → RpL K mg w H ds.reverse xs.reverse
  | [], xs, h => by unfold RpL at h; rw [h]; exact RpL.nil
  | d :: ds, xs, h => by
    unfold RpL at h
    obtain ⟨v, r, e1, h1, h2⟩ := h
    rw [e1, List.reverse_cons, List.reverse_cons]
    exact (RpL.reverse h2).append (RpL.one h1)
theorem append_v : MtV K mg rAppend gAppend := by
  intro w S H x xs d ds Q E s r1 r2 h
  unfold gAppend at h
  split at h
  · rename_i n y
    split at h
    · rename_i zs hz
      split at h
      · rename_i hl
        obtain ⟨v, rfl, r3⟩ := r2.one_inv
        obtain ⟨l, vs, e1, t1, q1⟩ := seqM_at (S := S) (d := .loc n) s r1 hz
        exact ⟨l, vs, v, e1, rfl, t1, by rw [← q1.length]; exact hl, wrote s r1 hz (q1.append (RpL.one r3)) rp_n h l e1⟩
      · exact h.elim
    · exact h.elim
  · exact h.elim
theorem extend_v : MtV K mg rExtend gExtend := by
  intro w S H x xs d ds Q E s r1 r2 h
  unfold gExtend at h
  split at h
  · rename_i n y
    split at h
    · rename_i zs ys hz hy
      split at h
      · rename_i hl
        obtain ⟨v, rfl, r3⟩ := r2.one_inv
        obtain ⟨l, vs, e1, t1, q1⟩ := seqM_at (S := S) (d := .loc n) s r1 hz
        obtain ⟨b, us, e2, t2, q2⟩ := seqM_at s r3 hy
        exact ⟨l, b, vs, us, e1, by rw [e2], t1, t2, by rw [← q1.length, ← q2.length]; exact hl, wrote s r1 hz (q1.append q2) rp_n h l e1⟩
      · exact h.elim
    · exact h.elim
  · exact h.elim
theorem pop0_v : MtV K mg rPop gPop0 := by
  intro w S H x xs d ds Q E s r1 r2 h
  unfold gPop0 at h
  split at h
  · rename_i n
    split at h
    · rename_i zs hz
      split at h
      · rename_i y hy
        obtain ⟨l, vs, e1, t1, q1⟩ := seqM_at (S := S) (d := .loc n) s r1 hz
        obtain ⟨u, h3, h4⟩ := q1.get hy
        unfold RpL at r2
        exact ⟨l, vs, u, e1, r2, t1, by rw [← q1.length]; exact h3, wrote s r1 hz q1.dropLast h4 h l e1⟩
      · exact h.elim
    · exact h.elim
  · exact h.elim
theorem pop1_v : MtV K mg rPopAt gPop1 := by
  intro w S H x xs d ds Q E s r1 r2 h
  unfold gPop1 at h
  split at h
  · rename_i n i
    split at h
    · rename_i zs hz
      split at h
      · rename_i hb
        split at h
        · rename_i k hk
          split at h
          · rename_i y hy
            obtain ⟨v, rfl, r3⟩ := r2.one_inv
            obtain ⟨l, vs, e1, t1, q1⟩ := seqM_at (S := S) (d := .loc n) s r1 hz
            obtain ⟨u, h3, h4⟩ := q1.get hy
            exact ⟨l, vs, i, k, u, e1, by rw [rp_int r3], t1, hb.1, hb.2, by rw [← q1.length]; exact hk, h3, wrote s r1 hz (q1.erase k) h4 h l e1⟩
          · exact h.elim
        · exact h.elim
      · exact h.elim
    · exact h.elim
  · exact h.elim
theorem rev_v : MtV K mg rReverse gRev := by
  intro w S H x xs d ds Q E s r1 r2 h
  unfold gRev at h
  split at h
  · rename_i n
    split at h
    · rename_i zs hz
      obtain ⟨l, vs, e1, t1, q1⟩ := seqM_at (S := S) (d := .loc n) s r1 hz
      unfold RpL at r2
      exact ⟨l, vs, e1, r2, t1, wrote s r1 hz q1.reverse rp_n h l e1⟩
    · exact h.elim
  · exact h.elim
theorem clear_v : MtV K mg rClear gClear := by
  intro w S H x xs d ds Q E s r1 r2 h
  unfold gClear at h
  split at h
  · rename_i n
    split at h
    · rename_i zs hz
      obtain ⟨l, vs, e1, t1, q1⟩ := seqM_at (S := S) (d := .loc n) s r1 hz
      unfold RpL at r2
      exact ⟨l, vs, e1, r2, t1, wrote s r1 hz RpL.nil rp_n h l e1⟩
    · exact h.elim
  · exact h.elim
end
/-- o.m(..), o a list -/
def fMth (g : D → List D → Store → RE D) (o : FE) (a : FA) : FE := fun ρ S => (o ρ S).bnd fun x S1 => match seqL S1 x with
  | some _ => (a ρ S1).bnd fun ds S2 => g x ds S2
  | none => .no
section
variable {X : Cx} {W : WX} {o e : Expr} {es : List Expr} {fo : FE} {fs : FA} {name : Str} {apos cpos : Pos} {id : String} {r : V → List V → Hp → VK → Prop} {g : D → List D → Store → RE D}
theorem q_mth (slot : Slot "list" name id) (hty : typeOf (.builtin id) = pure (.type "method_descriptor")) (hm : MtR X id r) (hv : MtV X.K X.mg r g) (ho : PE X o (tF X W fo)) (ha : PA X (e :: es) (tA X W fs))
    (hbase : attributeBase o name X.env (eval o X.env) = eval o X.env := by rfl)
    (hfew : ((backTo cpos (starEach (e :: es) X.env)).all (fun x => !x.1) && (backToKw cpos (keywordEach [] X.env)).all (fun x => x.1.isSome)
      && decide ((e :: es).length + ([] : List Keyword).length + (if ([] : List Keyword).isEmpty then 0 else 1) < 30)) = true := by rfl)
    (hline : (apos.endLine == cpos.line) = true := by rfl) (hs : starEach (e :: es) X.env = (false, eval e X.env) :: starEach es X.env := by rfl) (hplain : (backTo cpos (starEach es X.env)).any (·.1) = false := by rfl) :
    PE X (.Call (.Attribute o name apos) (e :: es) [] cpos) (tF X W (fMth g fo fs)) :=
  PE.wk (pe_bm PySem.F.plainAttrs_list slot hty hm ho ha hbase hfew hline hs hplain) fun σ H Q ⟨w, ρ, S, s, en, h⟩ => by
    refine ⟨w, ρ, S, s, en, (End.bind (R := fun w H => Rp X.K X.mg w H) h).imp ?_ (fun _ _ _ z => z)⟩
    rintro x H1 ⟨w1, S1, d, e1, s1, r1, h1⟩
    split at h1
    · rename_i ys hy
      obtain ⟨a, vs, e2, t2, q2⟩ := seqL_at s1 r1 hy
      refine ⟨by rw [e2]; exact .inl ⟨rfl, vs, t2⟩, w1, ρ, S1, s1, en.ext e1, (End.bind (R := fun w H => RpL X.K X.mg w H) h1).imp ?_ (fun _ _ _ z => z)⟩
      rintro us H2 ⟨w2, S2, ds, e3, s2, r2, h2⟩
      exact hv w2 S2 H2 x us d ds Q _ s2 (Rp.ext e3 _ _ r1) r2 h2
    · exact h1.elim
theorem q_mth0 (slot : Slot "list" name id) (hty : typeOf (.builtin id) = pure (.type "method_descriptor")) (hm : MtR X id r) (hv : MtV X.K X.mg r g) (ho : PE X o (tF X W fo))
    (hbase : attributeBase o name X.env (eval o X.env) = eval o X.env := by rfl) (hline : (apos.endLine == cpos.line) = true := by rfl) :
    PE X (.Call (.Attribute o name apos) [] [] cpos) (tF X W (fMth g fo fNil)) :=
  PE.wk (pe_bm0 PySem.F.plainAttrs_list slot hty hm ho hbase hline) fun σ H Q ⟨w, ρ, S, s, en, h⟩ => by
    refine ⟨w, ρ, S, s, en, (End.bind (R := fun w H => Rp X.K X.mg w H) h).imp ?_ (fun _ _ _ z => z)⟩
    rintro x H1 ⟨w1, S1, d, e1, s1, r1, h1⟩
    split at h1
    · rename_i ys hy
      obtain ⟨a, vs, e2, t2, q2⟩ := seqL_at s1 r1 hy
      exact ⟨by rw [e2]; exact .inl ⟨rfl, vs, t2⟩, hv w1 S1 H1 x [] d [] Q _ s1 r1 RpL.nil h1⟩
    · exact h1.elim
end
end Kw

/-! Kw5: calls of the text's own defs, statements, a def by its body. -/
namespace Kw
open PySem PySem.Spec PyProof.Rows L2

/-! ### calls -/
abbrev FF := List D → Store → RE D
def spF (K : PySem.W.Frag) (mg : Str → Option Value) (m : Nat) (f : FF) : Sp := fun vs H Q E => ∃ w S ds, Sto K mg w S H ∧ RpL K mg w H ds vs ∧ ds.length = m ∧ End K mg (fun w H => Rp K mg w H) w H (f ds S) Q E
/-- room, and nothing is being shown -/
structure RoomG (k : Nat) (A : Around) : Prop where
  rm : Room k A
  gd : A.guards = some []
theorem RoomG.down {k : Nat} {A : Around} (r : RoomG (k + 1) A) (env : Env) : RoomG k (A.deeper env) := ⟨r.rm.deeper env, r.gd⟩
/-- a def's promise where nothing is being shown -/
structure FnG (P : Program) (w : World) (K : PySem.W.Frag) (mg : Str → Option Value) (base : Heap) (k : Nat) (a : Addr) (fd : FuncData) (ps : List Str) (sp : Sp) : Prop where
  size : ∀ vs H Q E, sp vs H Q E → vs.length = ps.length
  runs : ∀ (A : Around) (stk : List Env) (s : Shared) (H : Hp) (ar : Args) (us : List Value) (vs : List V) (Q : VK) (E : XK), RoomG k A → Env0 P w K mg base A stk s H → BindsTo s fd ar (ps.zip us) → Vals vs us → sp vs H Q E →
    codeAny (model P w) A (.call (.ref a) ar) (CR (L2.CX P w) stk P w H s Q E) s
theorem FnG.weak {P : Program} {w : World} {K : PySem.W.Frag} {mg : Str → Option Value} {base : Heap} {k : Nat} {a : Addr} {fd : FuncData} {ps : List Str} {sp sp' : Sp} (F : FnG P w K mg base k a fd ps sp) (h : ∀ vs H Q E, sp' vs H Q E → sp vs H Q E) : FnG P w K mg base k a fd ps sp' :=
  ⟨fun vs H Q E q => F.size vs H Q E (h _ _ _ _ q), fun A stk s H ar us vs Q E hr e0 hb hv hs => F.runs A stk s H ar us vs Q E hr e0 hb hv (h _ _ _ _ hs)⟩
/-- the name x stands for a def that computes f -/
def Cal (P : Program) (w : World) (K : PySem.W.Frag) (mg : Str → Option Value) (base : Heap) (k : Nat) (x : Str) (f : FF) : Prop :=
  ∃ a fd ps, FnG P w K mg base k a fd ps (spF K mg ps.length f) ∧ mg x = some (.ref a) ∧ PySem.W.keepIn K (.ref a) = true ∧ Binds K fd ps [] ∧ (∀ ds S, ds.length ≠ ps.length → f ds S = .no) ∧ ps = fd.params.args.map (·.arg) ∧ ∃ oc od osl, K.lookup a = some ⟨oc, od, .func fd, osl⟩
section
variable {X : Cx} {W : WX} {e : Expr} {es : List Expr} {fs : FA} {pos : Pos} {k : Nat} {x : Str} {f : FF} {p : Pos}
theorem run_g {a : Addr} {fd : FuncData} {ps : List Str} {sp : Sp} {pins : List (Addr × Obj)} {σ : L2.St} {H : Hp} {s : Shared} {Q : VK} {us : List Value} {vs : List V} (F : FnG X.prog X.w X.K X.mg X.base k a fd ps sp) (hr : RoomG k X.A) (tk : Takes X W)
    (I : Inv X pins σ H s) (r : Vals vs us) (hbd : BindsTo s fd ⟨us, []⟩ (ps.zip us)) (h : sp vs H Q (WE W σ)) : wpAny (model X.prog X.w) X.A (call (.ref a) us) (EP X pins σ Q) X.xe s :=
  wpAny_call (codeAny_mono (F.runs X.A X.stack s H ⟨us, []⟩ us vs Q (WE W σ) hr I.env0 hbd r h) fun res s' hq => by
    match res, hq with
    | .error e, hq => exact passAt tk σ pins H s e s' I hq
    | .ok (.ret u), hq => exact I.after hq
    | .ok .next, hq => exact hq.elim
    | .ok .brk, hq => exact hq.elim
    | .ok .cont, hq => exact hq.elim)
theorem binds0 {K : PySem.W.Frag} {fd : FuncData} {ps : List Str} (hb : Binds K fd ps []) {s : Shared} {us : List Value} (kin : K.In s.heap) (hl : us.length = ps.length) : BindsTo s fd ⟨us, []⟩ (ps.zip us) := by
  have z := hb s us kin (by simpa using hl)
  simpa using z
theorem q_call (C : Cal X.prog X.w X.K X.mg X.base k x f) (hr : RoomG k X.A) (tk : Takes X W) (hg : Gl X x) (ha : PA X (e :: es) (tA X W fs)) (hdb : (x == ("__debug__" : Str)) = false := by decide)
    (he : starEach (e :: es) X.env = (false, eval e X.env) :: starEach es X.env := by rfl) (hpl : (backTo pos (starEach es X.env)).any (·.1) = false := by rfl) : PE X (.Call (.Name x p) (e :: es) [] pos) (tF X W (fArg f fs)) := by
  obtain ⟨a, fd, ps, F, hm, hk, hb, ar, _⟩ := C
  refine ⟨fun pins s σ H Q I ⟨w, ρ, S, s0, en, h⟩ => wpAny_Call_Name_kw (ld_glob I hg hm ?_ hdb)⟩
  refine PySem.W.callWith_K (h₀ := X.base) I.ok.mod.kin hk (thn (ha.run pos pins s σ H (fun vs H1 => spF X.K X.mg ps.length f vs H1 Q (WE W σ)) I
    ⟨w, ρ, S, s0, en, (End.bind (R := fun w H => RpL X.K X.mg w H) h).imp ?_ (fun _ _ _ z => z)⟩) fun us s1 ⟨vs, H1, I1, r, q⟩ => ⟨I1.kIn, run_g (us := us) F hr tk I1 r (binds0 (us := us) hb I1.kIn (by rw [← r.length]; exact F.size _ _ _ _ q)) q⟩) he hpl
  rintro vs H1 ⟨w1, S1, ds, e1, s1, r1, h1⟩
  refine ⟨w1, S1, ds, s1, r1, ?_, h1⟩
  apply Classical.byContradiction
  intro hn
  rw [ar ds S1 hn] at h1
  exact h1
end

/-! ### statements -/
inductive RS where
  | nx (ρ : FEnv) (S : Store) | rt (d : D) (S : Store) | bk (ρ : FEnv) (S : Store) | ct (ρ : FEnv) (S : Store) | ex (x : Ex) (ρ : FEnv) (S : Store) | no
abbrev FS := FEnv → Store → RS
def RE.toS {α : Type} (m : RE α) (ρ : FEnv) (k : α → Store → RS) : RS := match m with
  | .ok a S => k a S
  | .ex x S => .ex x ρ S
  | .no => .no
def RS.bnd (m : RS) (k : FS) : RS := match m with
  | .nx ρ S => k ρ S
  | r => r
def EndS (K : PySem.W.Frag) (mg : Str → Option Value) (w : Wd) (H : Hp) (r : RS) (D : Ends) (W : WX) : Prop := match r with
  | .nx ρ S => ∀ w' H' σ', Ext w H w' H' → Sto K mg w' S H' → EnvR K mg w' H' ρ σ' → D.nx σ' H'
  | .rt d S => ∀ w' H' v, Ext w H w' H' → Sto K mg w' S H' → Rp K mg w' H' d v → D.rt v H'
  | .bk ρ S => ∀ w' H' σ', Ext w H w' H' → Sto K mg w' S H' → EnvR K mg w' H' ρ σ' → D.bk σ' H'
  | .ct ρ S => ∀ w' H' σ', Ext w H w' H' → Sto K mg w' S H' → EnvR K mg w' H' ρ σ' → D.ct σ' H'
  | .ex x ρ S => ∀ w' H' σ' c od, Ext w H w' H' → Sto K mg w' S H' → EnvR K mg w' H' ρ σ' → ExR K mg w' H' x c od → W c od σ' H'
  | .no => False
def tS (X : Cx) (W : WX) (f : FS) : TS := fun D σ H => ∃ w ρ S, Sto X.K X.mg w S H ∧ EnvR X.K X.mg w H ρ σ ∧ EndS X.K X.mg w H (f ρ S) D W
section
variable {K : PySem.W.Frag} {mg : Str → Option Value} {w w1 : Wd} {H H1 : Hp} {r : RS} {D D' : Ends} {W W' : WX} {ρ : FEnv} {σ : L2.St} {S : Store}
theorem EndS.on (x : Ext w H w1 H1) (h : EndS K mg w H r D W) : EndS K mg w1 H1 r D W := by
  unfold EndS at h ⊢
  split
  · exact fun w' H' b e s k => h w' H' b (x.trans e) s k
  · exact fun w' H' b e s k => h w' H' b (x.trans e) s k
  · exact fun w' H' b e s k => h w' H' b (x.trans e) s k
  · exact fun w' H' b e s k => h w' H' b (x.trans e) s k
  · exact fun w' H' b c od e s k l => h w' H' b c od (x.trans e) s k l
  · exact h
theorem EndS.imp (h : EndS K mg w H r D W) (h1 : ∀ σ H, D.nx σ H → D'.nx σ H) (h2 : ∀ v H, D.rt v H → D'.rt v H) (h3 : ∀ σ H, D.bk σ H → D'.bk σ H) (h4 : ∀ σ H, D.ct σ H → D'.ct σ H) (h5 : ∀ c od σ H, W c od σ H → W' c od σ H) : EndS K mg w H r D' W' := by
  unfold EndS at h ⊢
  split
  · exact fun w' H' b e s k => h1 _ _ (h w' H' b e s k)
  · exact fun w' H' b e s k => h2 _ _ (h w' H' b e s k)
  · exact fun w' H' b e s k => h3 _ _ (h w' H' b e s k)
  · exact fun w' H' b e s k => h4 _ _ (h w' H' b e s k)
  · exact fun w' H' b c od e s k l => h5 _ _ _ _ (h w' H' b c od e s k l)
  · exact h
theorem EndS.of {α β : Type} {R : Wd → Hp → α → β → Prop} {m : RE α} {k : α → Store → RS} (h : EndS K mg w H (m.toS ρ k) D W) (en : EnvR K mg w H ρ σ) :
    End K mg R w H m (fun b H1 => ∃ w1 S1 a, Ext w H w1 H1 ∧ Sto K mg w1 S1 H1 ∧ R w1 H1 a b ∧ EndS K mg w1 H1 (k a S1) D W) (fun c od H' => W c od σ H') := by
  cases m with
  | ok a S1 =>
    have h' : EndS K mg w H (k a S1) D W := h
    exact fun w' H' b e s kk => ⟨w', S1, a, e, s, kk, h'.on e⟩
  | ex x S1 => exact fun w' H' c od e s kk => h w' H' σ c od e s (en.ext e) kk
  | no => exact h
theorem EndS.bind {k : FS} (h : EndS K mg w H (r.bnd k) D W) : EndS K mg w H r { D with nx := fun σ H1 => ∃ w1 ρ1 S1, Sto K mg w1 S1 H1 ∧ EnvR K mg w1 H1 ρ1 σ ∧ EndS K mg w1 H1 (k ρ1 S1) D W } W := by
  cases r with
  | nx ρ1 S1 =>
    have h' : EndS K mg w H (k ρ1 S1) D W := h
    exact fun w' H' b e s kk => ⟨w', ρ1, S1, s, kk, h'.on e⟩
  | _ => exact h
theorem EnvR.set {i : Nat} {d : Kw.D} {v : V} (en : EnvR K mg w H ρ σ) (r : Rp K mg w H d v) : EnvR K mg w H (ρ.set i (some d)) (σ.set i (some v)) := by
  refine ⟨by rw [List.length_set, List.length_set]; exact en.len, fun j d' h => ?_⟩
  by_cases e : j = i
  · subst e
    have hj : j < ρ.length := by
      have := (List.getElem?_eq_some_iff.mp h).1
      rwa [List.length_set] at this
    rw [List.getElem?_set_self hj] at h
    cases h
    exact ⟨v, by rw [List.getElem?_set_self (en.len ▸ hj)], r⟩
  · rw [List.getElem?_set_ne (Ne.symm e)] at h
    obtain ⟨u, h1, h2⟩ := en.at_ j d' h
    exact ⟨u, by rw [List.getElem?_set_ne (Ne.symm e)]; exact h1, h2⟩
theorem EnvR.wipe1 {i : Nat} (en : EnvR K mg w H ρ σ) : EnvR K mg w H (ρ.set i none) (σ.set i none) := by
  refine ⟨by rw [List.length_set, List.length_set]; exact en.len, fun j d' h => ?_⟩
  by_cases e : j = i
  · subst e
    have hj : j < ρ.length := by
      have := (List.getElem?_eq_some_iff.mp h).1
      rwa [List.length_set] at this
    rw [List.getElem?_set_self hj] at h
    cases h
  · rw [List.getElem?_set_ne (Ne.symm e)] at h
    obtain ⟨u, h1, h2⟩ := en.at_ j d' h
    exact ⟨u, by rw [List.getElem?_set_ne (Ne.symm e)]; exact h1, h2⟩
theorem EndS.nx' {ρ' : FEnv} {σ' : L2.St} (h : EndS K mg w H (.nx ρ' S) D W) (s : Sto K mg w S H) (en : EnvR K mg w H ρ' σ') : D.nx σ' H := h w H σ' Ext.refl s en
theorem EndS.rt' {d : Kw.D} {v : V} (h : EndS K mg w H (.rt d S) D W) (s : Sto K mg w S H) (r : Rp K mg w H d v) : D.rt v H := h w H v Ext.refl s r
end
def sNil : FS := fun ρ S => .nx ρ S
def sSeq (f g : FS) : FS := fun ρ S => (f ρ S).bnd g
def sBrk : FS := fun ρ S => .bk ρ S
def sCnt : FS := fun ρ S => .ct ρ S
def sExp (f : FE) : FS := fun ρ S => (f ρ S).toS ρ fun _ S1 => .nx ρ S1
def sRet (f : FE) : FS := fun ρ S => (f ρ S).toS ρ fun d S1 => .rt d S1
def sRetN : FS := fun _ S => .rt .non S
def sSet (i : Nat) (f : FE) : FS := fun ρ S => (f ρ S).toS ρ fun d S1 => .nx (ρ.set i (some d)) S1
def sIf (c : FT) (a b : FS) : FS := fun ρ S => (c ρ S).toS ρ fun k S1 => match k with
  | true => a ρ S1
  | false => b ρ S1
section
variable {X : Cx} {W : WX} {st : Stmt} {rest : List Stmt} {f g : FS} {e : Expr} {fe : FE} {pos : Pos}
theorem q_snil : PSs X [] (tS X W sNil) := PSs.wk pss_nil fun D σ H ⟨w, ρ, S, s, en, h⟩ => h.nx' s en
theorem q_seq (h1 : PS X st (tS X W f)) (h2 : PSs X rest (tS X W g)) : PSs X (st :: rest) (tS X W (sSeq f g)) :=
  PSs.wk (pss_cons h1 h2) fun D σ H ⟨w, ρ, S, s, en, h⟩ => ⟨w, ρ, S, s, en, h.bind⟩
theorem q_last (h1 : PS X st (tS X W f)) : PSs X [st] (tS X W f) := pss_one h1
theorem q_brk : PS X (.Break pos) (tS X W sBrk) := PS.wk ps_break fun D σ H ⟨w, ρ, S, s, en, h⟩ => h w H σ Ext.refl s en
theorem q_cnt : PS X (.Continue pos) (tS X W sCnt) := PS.wk ps_continue fun D σ H ⟨w, ρ, S, s, en, h⟩ => h w H σ Ext.refl s en
theorem q_pass : PS X (.Pass pos) (tS X W sNil) := PS.wk ps_pass fun D σ H ⟨w, ρ, S, s, en, h⟩ => h.nx' s en
theorem q_expr (he : PE X e (tF X W fe)) (hs : swapsWith e none pos.line X.env = pure false := by rfl) : PS X (.Expr e pos) (tS X W (sExp fe)) :=
  PS.wk (ps_expr he hs) fun D σ H ⟨w, ρ, S, s, en, h⟩ => ⟨w, ρ, S, s, en, (h.of (R := fun w H => Rp X.K X.mg w H) en).imp (fun v H1 ⟨w1, S1, d, e1, s1, r1, h1⟩ => h1.nx' s1 (en.ext e1)) (fun _ _ _ z => z)⟩
theorem q_ret (he : PE X e (tF X W fe)) : PS X (.Return (some e) pos) (tS X W (sRet fe)) :=
  PS.wk (ps_ret he) fun D σ H ⟨w, ρ, S, s, en, h⟩ => ⟨w, ρ, S, s, en, (h.of (R := fun w H => Rp X.K X.mg w H) en).imp (fun v H1 ⟨w1, S1, d, e1, s1, r1, h1⟩ => h1.rt' s1 r1) (fun _ _ _ z => z)⟩
theorem q_retN : PS X (.Return none pos) (tS X W sRetN) := PS.wk ps_retN fun D σ H ⟨w, ρ, S, s, en, h⟩ => h.rt' s rp_n
theorem q_set {i : Nat} {x : Str} {pos' : Pos} (hN : X.N.Nodup) (hi : X.N[i]? = some x) (hx : Loc X.env.scope x) (he : PE X e (tF X W fe)) (hs : swapsWith e (some (.Name x pos')) pos.line X.env = pure false := by rfl) (hf : X.fn x = true ∨ X.env.scope.names.lookup x = some .local := by first | exact .inl rfl | exact .inr rfl | assumption) :
    PS X (.Assign [.Name x pos'] e pos) (tS X W (sSet i fe)) :=
  PS.wk (ps_set hN hi hx he hs hf) fun D σ H ⟨w, ρ, S, s, en, h⟩ => ⟨w, ρ, S, s, en, (h.of (R := fun w H => Rp X.K X.mg w H) en).imp (fun v H1 ⟨w1, S1, d, e1, s1, r1, h1⟩ => h1.nx' s1 ((en.ext e1).set r1)) (fun _ _ _ z => z)⟩
theorem q_ifS {c : Expr} {a b : List Stmt} {tc : FT} (hc : PT X c (tT X W tc)) (ha : PSs X a (tS X W f)) (hb : PSs X b (tS X W g)) : PS X (.If c a b pos) (tS X W (sIf tc f g)) :=
  PS.wk (ps_if hc ha hb) fun D σ H ⟨w, ρ, S, s, en, h⟩ => ⟨w, ρ, S, s, en, (h.of (R := fun _ _ (a b : Bool) => b = a) en).imp (fun v H1 ⟨w1, S1, d, e1, s1, r1, h1⟩ => by
    cases r1
    cases v with
    | true => rw [if_pos rfl]; exact ⟨w1, ρ, S1, s1, en.ext e1, h1⟩
    | false => rw [if_neg (by decide)]; exact ⟨w1, ρ, S1, s1, en.ext e1, h1⟩) (fun _ _ _ z => z)⟩
end
/-- name op= e: two whole numbers -/
def sAug (i : Nat) (g : D → D → Store → RE D) (f : FE) : FS := fun ρ S => match ρ[i]? with
  | some (some x) => (f ρ S).toS ρ fun y S1 => (g x y S1).toS ρ fun z S2 => .nx (ρ.set i (some z)) S2
  | _ => .no
def gIAdd (x y : D) (S : Store) : RE D := match x, y with
  | .int i, .int j => .ok (.int (i + j)) S
  | _, _ => .no
section
variable {X : Cx} {W : WX} {e : Expr} {fe : FE} {pos : Pos}
theorem iadd_v {K : PySem.W.Frag} {mg : Str → Option Value} : OpV K mg (ipI fun i j => i + j) gIAdd := by
  intro w S H x y d e Q E s r1 r2 h
  cases d <;> cases e <;> simp only [gIAdd] at h <;> try exact h.elim
  exact ⟨_, _, rp_int r1, rp_int r2, h.ret s rp_i⟩
theorem isub_v {K : PySem.W.Frag} {mg : Str → Option Value} : OpV K mg (ipI fun i j => i - j) gSub := sub_v
theorem q_aug {i : Nat} {x : Str} {op : Operator} {ti : TIp} {g : D → D → Store → RE D} {pos' : Pos} (hN : X.N.Nodup) (hi : X.N[i]? = some x) (hx : Loc X.env.scope x) (he : PE X e (tF X W fe)) (ho : PIp X op ti) (hv : OpV X.K X.mg ti g) (hf : X.fn x = true ∨ X.env.scope.names.lookup x = some .local := by first | exact .inl rfl | exact .inr rfl | assumption) :
    PS X (.AugAssign (.Name x pos') op e pos) (tS X W (sAug i g fe)) :=
  PS.wk (ps_aug hN hi hx he ho hf) fun D σ H ⟨w, ρ, S, s, en, h⟩ => by
    unfold sAug at h
    split at h
    · rename_i d hd
      obtain ⟨v, h1, h2⟩ := en.at_ i d hd
      refine ⟨v, h1, w, ρ, S, s, en, (h.of (R := fun w H => Rp X.K X.mg w H) en).imp ?_ (fun _ _ _ z => z)⟩
      rintro u H1 ⟨w1, S1, d1, e1, s1, r1, h3⟩
      refine hv w1 S1 H1 v u d d1 _ _ s1 (Rp.ext e1 _ _ h2) r1 ((h3.of (R := fun w H => Rp X.K X.mg w H) (en.ext e1)).imp ?_ (fun _ _ _ z => z))
      rintro z H2 ⟨w2, S2, d2, e2, s2, r2, h4⟩
      exact h4.nx' s2 (((en.ext e1).ext e2).set r2)
    · exact h.elim
end

/-! ### what is thrown away behind a def: the cells that it made -/
mutual
/-- no cell from n on is in it -/
def D.under (n : Nat) : D → Bool
  | .tup ds => underL n ds
  | .lst ds => underL n ds
  | .fls ds => underL n ds
  | .dic _ ds => underL n ds
  | .ins _ _ ds => underL n ds
  | .exo _ _ ds => underL n ds
  | .loc m => decide (m < n)
  | _ => true
def underL (n : Nat) : List D → Bool
  | [] => true
  | d :: ds => D.under n d && underL n ds
end
def Cell.under (n : Nat) : Cell → Bool
  | .lst ds => underL n ds
  | .frz ds => underL n ds
  | .dead => true
  | .tab _ => true
  | .sys => true
  | .gst ρ _ => ρ.all fun o => match o with
    | some d => d.under n
    | none => true
  | .ob _ _ ds => underL n ds
/-- the cells ahead of S's end are as they were, or have nothing that was made since -/
def CutOk (S S' : Store) : Prop := S.length ≤ S'.length ∧ ∀ (i : Nat) c, i < S.length → S'[i]? = some c → S[i]? = some c ∨ c.under S.length = true
open Classical in
noncomputable def cutR (S : Store) (r : RE D) : RE D := match r with
  | .ok d S' => if d.under S.length = true ∧ CutOk S S' then .ok d (S'.take S.length) else .no
  | .ex x S' => if underL S.length x.ds = true ∧ CutOk S S' then .ex x (S'.take S.length) else .no
  | .no => .no
def RS.fin (r : RS) : RE D := match r with
  | .nx _ S => .ok .non S
  | .rt d S => .ok d S
  | .ex x _ S => .ex x S
  | _ => .no
/-- a def with m parameters, n names -/
def fnB (m n : Nat) (b : FS) : FF := fun ds S => if ds.length = m then (b (ds.map some ++ List.replicate (n - m) none) S).fin else .no
/-- .. that throws its cells away -/
noncomputable def fnC (m n : Nat) (b : FS) : FF := fun ds S => cutR S (fnB m n b ds S)
section
variable {K : PySem.W.Frag} {mg : Str → Option Value} {w : Wd} {H : Hp} {S S' : Store}
theorem getElem?_of_take {α : Type} {l : List α} {n m : Nat} {x : α} (h : (l.take n)[m]? = some x) : l[m]? = some x ∧ m < n := by
  by_cases e : m < n
  · rw [List.getElem?_take_of_lt e] at h; exact ⟨h, e⟩
  · rw [List.getElem?_eq_none (by rw [List.length_take]; omega)] at h; exact (nomatch h)
def Wd.cut (w : Wd) (n : Nat) : Wd := ⟨w.φ.take n, w.hd⟩
theorem Wd.off_cut {n : Nat} {a : Addr} (h : w.Off a) : (w.cut n).Off a := ⟨fun z => h.1 (List.mem_of_mem_take z), h.2⟩
theorem Tp.cut {n : Nat} {a : Addr} {xs : List V} (h : Tp K w H a xs) : Tp K (w.cut n) H a xs := by
  rcases h with ⟨h, k⟩ | h
  · exact .inl ⟨h, Wd.off_cut k⟩
  · exact .inr h
theorem Fp.cut {n : Nat} {a : Addr} {xs : List V} (h : Fp K w H a xs) : Fp K (w.cut n) H a xs := by
  rcases h with ⟨o, h, k⟩ | h
  · exact .inl ⟨o, h, Wd.off_cut k⟩
  · exact .inr h
mutual
theorem Rp.cut {n : Nat} (hn : n ≤ w.φ.length) : ∀ (d : D) (v : V), d.under n = true → Rp K mg w H d v → Rp K mg (w.cut n) H d v
  | .non, _, _, h => by unfold Rp at h ⊢; exact h
  | .bl _, _, _, h => by unfold Rp at h ⊢; exact h
  | .int _, _, _, h => by unfold Rp at h ⊢; exact h
  | .str _, _, _, h => by unfold Rp at h ⊢; exact h
  | .tup ds, v, b, h => by
    unfold Rp at h ⊢
    obtain ⟨a, xs, e1, t, r⟩ := h
    exact ⟨a, xs, e1, t.cut, RpL.cutW hn ds xs (by simpa [D.under] using b) r⟩
  | .lst ds, v, b, h => by
    unfold Rp at h ⊢
    obtain ⟨a, xs, e1, t, o, r⟩ := h
    exact ⟨a, xs, e1, t, Wd.off_cut o, RpL.cutW hn ds xs (by simpa [D.under] using b) r⟩
  | .dic ks ds, v, b, h => by
    unfold Rp at h ⊢
    obtain ⟨a, vs, e1, t, o, l, r⟩ := h
    exact ⟨a, vs, e1, t, Wd.off_cut o, l, RpL.cutW hn ds vs (by simpa [D.under] using b) r⟩
  | .ins c fs ds, v, b, h => by
    unfold Rp at h ⊢
    obtain ⟨a, C, dx, vs, e1, m, t, o, l, r⟩ := h
    exact ⟨a, C, dx, vs, e1, m, t, Wd.off_cut o, l, RpL.cutW hn ds vs (by simpa [D.under] using b) r⟩
  | .loc m, v, b, h => by
    have hm : m < n := by simpa [D.under] using b
    unfold Rp at h ⊢
    refine ⟨?_, fun a q => h.2 a ?_⟩
    · show m < (w.φ.take n).length
      rw [List.length_take]; omega
    · have q' : (w.φ.take n)[m]? = some (some a) := q
      exact (getElem?_of_take q').1
  | .glo _, _, _, h => by unfold Rp at h ⊢; exact h
  | .exn _, _, _, h => by unfold Rp at h ⊢; exact h
  | .exo c ns ds, v, b, h => by
    unfold Rp at h ⊢
    obtain ⟨a, C, od, vs, e1, m, t, o, z, q, l, r⟩ := h
    exact ⟨a, C, od, vs, e1, m, t, Wd.off_cut o, z, fun d hd => ⟨(q d hd).1, Wd.off_cut (q d hd).2⟩, l, RpL.cutW hn ds vs (by simpa [D.under] using b) r⟩
  | .fls ds, v, b, h => by
    unfold Rp at h ⊢
    obtain ⟨a, xs, e1, t, r⟩ := h
    exact ⟨a, xs, e1, t.cut, RpL.cutW hn ds xs (by simpa [D.under] using b) r⟩
theorem RpL.cutW {n : Nat} (hn : n ≤ w.φ.length) : ∀ (ds : List D) (vs : List V), underL n ds = true → RpL K mg w H ds vs → RpL K mg (w.cut n) H ds vs
  | [], _, _, h => by unfold RpL at h ⊢; exact h
  | d :: ds, vs, b, h => by
    have b' : d.under n = true ∧ underL n ds = true := by simpa [underL] using b
    unfold RpL at h ⊢
    obtain ⟨v, r, e1, h1, h2⟩ := h
    exact ⟨v, r, e1, Rp.cut hn d v b'.1 h1, RpL.cutW hn ds r b'.2 h2⟩
end
mutual
theorem Rp.isUnder : ∀ (d : D) (v : V), Rp K mg w H d v → d.under w.φ.length = true
  | .non, _, h => rfl
  | .bl _, _, h => rfl
  | .int _, _, h => rfl
  | .str _, _, h => rfl
  | .tup ds, v, h => by
    unfold Rp at h
    obtain ⟨a, xs, e1, t, r⟩ := h
    simpa [D.under] using RpL.isUnder ds xs r
  | .lst ds, v, h => by
    unfold Rp at h
    obtain ⟨a, xs, e1, t, o, r⟩ := h
    simpa [D.under] using RpL.isUnder ds xs r
  | .dic ks ds, v, h => by
    unfold Rp at h
    obtain ⟨a, vs, e1, t, o, l, r⟩ := h
    simpa [D.under] using RpL.isUnder ds vs r
  | .ins c fs ds, v, h => by
    unfold Rp at h
    obtain ⟨a, C, dx, vs, e1, m, t, o, l, r⟩ := h
    simpa [D.under] using RpL.isUnder ds vs r
  | .loc m, v, h => by
    unfold Rp at h
    simpa [D.under] using h.1
  | .glo _, _, h => rfl
  | .exn _, _, h => rfl
  | .exo c ns ds, v, h => by
    unfold Rp at h
    obtain ⟨a, C, od, vs, e1, m, t, o, z, q, l, r⟩ := h
    simpa [D.under] using RpL.isUnder ds vs r
  | .fls ds, v, h => by
    unfold Rp at h
    obtain ⟨a, xs, e1, t, r⟩ := h
    simpa [D.under] using RpL.isUnder ds xs r
theorem RpL.isUnder : ∀ (ds : List D) (vs : List V), RpL K mg w H ds vs → underL w.φ.length ds = true
  | [], _, h => rfl
  | d :: ds, vs, h => by
    unfold RpL at h
    obtain ⟨v, r, e1, h1, h2⟩ := h
    simp [underL, Rp.isUnder d v h1, RpL.isUnder ds r h2]
end
theorem CellR.isUnder {c : Cell} {n : Nat} (h : CellR K mg w H c n) : c.under w.φ.length = true := by
  unfold CellR at h
  split at h
  · obtain ⟨_, _, _, _, h⟩ := h; exact RpL.isUnder _ _ h
  · obtain ⟨_, _, _, _, _, h⟩ := h; exact RpL.isUnder _ _ h
  · rfl
  · rfl
  · rfl
  · rename_i ρ σ
    show (ρ.all fun o => match o with
      | some d => D.under w.φ.length d
      | none => true) = true
    rw [List.all_eq_true]
    intro o ho
    cases o with
    | none => rfl
    | some d =>
      obtain ⟨i, hi, e⟩ := List.mem_iff_getElem.mp ho
      obtain ⟨v, _, r⟩ := h.2.at_ i d (by rw [List.getElem?_eq_getElem hi, e])
      exact Rp.isUnder _ _ r
  · obtain ⟨_, _, _, _, _, _, _, _, h⟩ := h; exact RpL.isUnder _ _ h
theorem CellR.cut {c : Cell} {m n : Nat} (hn : n ≤ w.φ.length) (hm : m < n) (b : c.under n = true) (h : CellR K mg w H c m) : CellR K mg (w.cut n) H c m := by
  have g : (w.cut n).φ[m]? = w.φ[m]? := by
    show (w.φ.take n)[m]? = _
    rw [List.getElem?_take, if_pos hm]
  unfold CellR at h ⊢
  split at h
  · obtain ⟨a, xs, h1, h2, h3⟩ := h; exact ⟨a, xs, by rw [g]; exact h1, h2, RpL.cutW hn _ _ (by simpa [Cell.under] using b) h3⟩
  · obtain ⟨a, xs, o, h1, h2, h3⟩ := h; exact ⟨a, xs, o, by rw [g]; exact h1, h2, RpL.cutW hn _ _ (by simpa [Cell.under] using b) h3⟩
  · show _ = _; rw [g]; exact h
  · obtain ⟨c0, P, ht, h1, ps, h2, h3, h4⟩ := h
    refine ⟨c0, P, ht, by rw [g]; exact h1, ps, h2, h3, fun pos cv hc => ?_⟩
    obtain ⟨c, e1, e2, e3⟩ := h4 pos cv hc
    exact ⟨c, e1, e2, fun z => e3.1 (List.mem_of_mem_take z), e3.2⟩
  · exact ⟨by rw [g]; exact h.1, h.2.1, fun z => h.2.2.1 (List.mem_of_mem_take z), h.2.2.2⟩
  · refine ⟨by rw [g]; exact h.1, h.2.len, fun i d q => ?_⟩
    obtain ⟨v, h1, h2⟩ := h.2.at_ i d q
    have b' := List.all_eq_true.mp b (some d) (List.mem_of_getElem? q)
    exact ⟨v, h1, Rp.cut hn _ _ b' h2⟩
  · obtain ⟨a, C, dx, vs, h1, h2, h3, h4, h5⟩ := h; exact ⟨a, C, dx, vs, by rw [g]; exact h1, h2, h3, h4, RpL.cutW hn _ _ (by simpa [Cell.under] using b) h5⟩
theorem Sto.cut {w0 : Wd} {H0 : Hp} (s0 : Sto K mg w0 S H0) (s : Sto K mg w S' H) (h : CutOk S S') : Sto K mg (w.cut S.length) (S'.take S.length) H := by
  have hl : S.length ≤ w.φ.length := by rw [s.len]; exact h.1
  refine ⟨by show (w.φ.take _).length = _; rw [List.length_take, List.length_take, s.len], fun m n a h1 h2 => ?_, fun a ha => ⟨(s.ap a ha).1, fun z => (s.ap a ha).2 (List.mem_of_mem_take z)⟩, fun n c hc => ?_⟩
  · have k : ∀ m : Nat, (w.φ.take S.length)[m]? = some (some a) → w.φ[m]? = some (some a) := fun m q => by
      rw [List.getElem?_take] at q
      split at q
      · exact q
      · cases q
    exact s.nd m n a (k m h1) (k n h2)
  · rw [List.getElem?_take] at hc
    split at hc
    · rename_i hn
      have c0 := s.cell n c hc
      refine CellR.cut hl hn ?_ c0
      rcases h.2 n c hn hc with z | z
      · have := (s0.cell n c z).isUnder
        rw [s0.len] at this; exact this
      · exact z
    · cases hc
theorem Ext.cut {w0 : Wd} {H0 : Hp} (e : Ext w0 H0 w H) : Ext w0 H0 (w.cut w0.φ.length) H where
  fr := e.fr
  ln := by show _ ≤ (w.φ.take _).length; rw [List.length_take]; have := e.ln; omega
  ph := fun n a h l => by
    have q : (w.φ.take w0.φ.length)[n]? = some (some a) := h
    exact e.ph n a (getElem?_of_take q).1 l
  nw := fun a h => e.nw a (List.mem_of_mem_take h)
  hd := e.hd
theorem ExR.cutX {n : Nat} {x : Ex} {c : Value} {od : Option Addr} (hn : n ≤ w.φ.length) (b : underL n x.ds = true) (h : ExR K mg w H x c od) : ExR K mg (w.cut n) H x c od := by
  obtain ⟨h1, h2⟩ := h
  refine ⟨h1, ?_⟩
  rcases h2 with h2 | ⟨d, vs, a0, a1, a2, a3, a4, a5⟩
  · exact .inl h2
  · exact .inr ⟨d, vs, a0, a1, a2, Wd.off_cut a3, a4, RpL.cutW hn _ _ b a5⟩
/-- the cells that were made since are thrown away -/
theorem End.cutE {Q : VK} {E : Value → Option Addr → Hp → Prop} {r : RE D} (s : Sto K mg w S H) (h : End K mg (fun w H => Rp K mg w H) w H (cutR S r) Q E) : End K mg (fun w H => Rp K mg w H) w H r Q E := by
  cases r with
  | ok d S' =>
    have h' : End K mg (fun w H => Rp K mg w H) w H (cutR S (.ok d S')) Q E := h
    unfold cutR at h'
    simp only at h'
    split at h'
    · rename_i hc
      intro w1 H1 v e s1 r1
      have hl : S.length ≤ w1.φ.length := by rw [s1.len]; exact hc.2.1
      refine h' (w1.cut S.length) H1 v (s.len ▸ e.cut) (Sto.cut s s1 hc.2) (Rp.cut hl d v hc.1 r1)
    · exact h'.elim
  | ex x S' =>
    have h' : End K mg (fun w H => Rp K mg w H) w H (cutR S (.ex x S')) Q E := h
    unfold cutR at h'
    simp only at h'
    split at h'
    · rename_i hc
      intro w1 H1 c od e s1 r1
      have hl : S.length ≤ w1.φ.length := by rw [s1.len]; exact hc.2.1
      refine h' (w1.cut S.length) H1 c od (s.len ▸ e.cut) (Sto.cut s s1 hc.2) (ExR.cutX hl hc.1 r1)
    · exact h'.elim
  | no => exact h
end

/-! ### a def by its body -/
theorem envStart {K : PySem.W.Frag} {mg : Str → Option Value} {w : Wd} {H : Hp} {ds : List D} {vs : List V} {N : List Str} (r : RpL K mg w H ds vs) : EnvR K mg w H (ds.map some ++ List.replicate (N.length - ds.length) none) (L2.start N vs) := by
  unfold L2.start
  refine ⟨by simp [r.length], fun i d h => ?_⟩
  by_cases hi : i < ds.length
  · rw [List.getElem?_append_left (by rw [List.length_map]; exact hi), List.getElem?_map] at h
    cases e : ds[i]? with
    | none => rw [e] at h; cases h
    | some d' =>
      rw [e] at h
      have ed : d' = d := by simpa using h
      subst ed
      obtain ⟨v, h1, h2⟩ := r.get e
      refine ⟨v, ?_, h2⟩
      rw [List.getElem?_append_left (by rw [List.length_map, ← r.length]; exact hi), List.getElem?_map, h1]
      rfl
  · rw [List.getElem?_append_right (by rw [List.length_map]; omega)] at h
    have := List.mem_of_getElem? h
    have := List.eq_of_mem_replicate this
    cases this
section
variable {P : Program} {w : World} {K : PySem.W.Frag} {mg : Str → Option Value} {base : Heap}
/-- a def by its body -/
theorem fn_g {x qual : Str} {st : Stmt} {f : Addr} {fd : FuncData} {N ps : List Str} {k : Nat} {sp : Sp} (F : Fun K x qual st f fd) (S : FnScope N ps (defScope st)) (size : ∀ vs H Q E, sp vs H Q E → vs.length = ps.length)
    (hb : ∀ (cdv : Value) (A : Around) (stk : List Env) (s : Shared) (H : Hp) (vs : List V) (Q : VK) (E : XK), RoomG k (A.deeper (envOfC qual (defScope st) s.heap.objs.size f cdv)) → sp vs H Q E →
      ∃ t, PSs (cxOf (L2.CX P w) P w K mg base N qual (defScope st) f cdv A stk s H E) (defBody st) t ∧ t { nx := fun _ H' => Q .non H', rt := Q } (L2.start N vs) H) : FnG P w K mg base (k + 1) f fd ps sp := by
  obtain ⟨oc, od, kV, doc, pm, an, cdv, ct, osl, rfl, lk, hcd⟩ := F.ex
  refine ⟨size, fun A stk s H ar us vs Q E hr e0 hbd hv hsp => ?_⟩
  have up : ∀ b o, base.get? b = some o → s.heap.get? b = some o := fun b o z => (e0.bs b o z).1
  have KX : K.In s.heap := e0.mod.kin.keeps up
  refine codeAny_call_function hr.rm.depth (KX _ _ lk) rfl S.co S.gen rfl (PySem.W.codeRec_of KX hcd) (hbd _ _ _ _ (wpAny_newFunctionEnv_cells S.kind (fun ⟨n, v⟩ hn => ?par) fun env he s1 x => ?run))
  case par =>
    have hn' := S.par n (List.of_mem_zip hn).1
    exact hn'.imp id fun z => ⟨z, PySem.W.cellsFrom_some _ _ _ (.inl z)⟩
  case run =>
    subst he
    obtain ⟨t, ht, hq⟩ := hb cdv A stk s H vs Q E (hr.down _) hsp
    have I0 := inv_start (CX := L2.CX P w) (E := E) S hr.rm.hd e0 (size _ _ _ _ hsp) hv x
    refine ⟨(e0.mod.nolimit.keeps up).keeps x.toInCall.keep, codeAny_func (wpAny_mono (ht.run [] s1 (L2.start N vs) H _ I0 hq) (fun fl s' hs => ?_) fun e s' hs => hs)⟩
    match fl, hs with
    | .ret u, ⟨v, σ', H', J, rv, q⟩ => exact ⟨v, H', J.os, J.bare, J.base, J.hok, rv, q⟩
    | .next, ⟨σ', H', J, q⟩ => exact ⟨.non, H', J.os, J.bare, J.base, J.hok, rfl, q⟩
    | .brk, ⟨_, _, _, q⟩ => exact q.elim
    | .cont, ⟨_, _, _, q⟩ => exact q.elim
theorem fn_ok {x qual : Str} {st : Stmt} {f : Addr} {fd : FuncData} {N ps : List Str} {k : Nat} {b : FS} (F : Fun K x qual st f fd) (S : FnScope N ps (defScope st))
    (hb : ∀ (cdv : Value) (A : Around) (outer : List Env) (s : Shared) (H : Hp) (E : XK), RoomG k (A.deeper (envOfC qual (defScope st) s.heap.objs.size f cdv)) →
      PSs (cxOf (L2.CX P w) P w K mg base N qual (defScope st) f cdv A outer s H E) (defBody st) (tS (cxOf (L2.CX P w) P w K mg base N qual (defScope st) f cdv A outer s H E) (fun c d _ H => E c d H) b)) :
    FnG P w K mg base (k + 1) f fd ps (spF K mg ps.length (fnB ps.length N.length b)) := by
  refine fn_g F S (fun vs H Q E ⟨w, st, ds, s, r, l, h⟩ => by rw [← r.length]; exact l) fun cdv A outer s H vs Q E hr ⟨w1, S1, ds, s1, r1, l, h⟩ => ⟨_, hb cdv A outer s H E hr, w1, _, S1, s1, envStart (N := N) r1, ?_⟩
  unfold fnB at h
  rw [if_pos l] at h
  rw [l]
  revert h
  cases hbb : b (ds.map some ++ List.replicate (N.length - ps.length) none) S1 with
  | nx ρ S2 => exact fun h w' H' σ' e s' en => h w' H' _ e s' rp_n
  | rt d S2 => exact fun h w' H' v e s' r' => h w' H' v e s' r'
  | ex x ρ S2 => exact fun h w' H' σ' c od e s' en ex => h w' H' c od e s' ex
  | bk ρ S2 => exact fun h => h.elim
  | ct ρ S2 => exact fun h => h.elim
  | no => exact fun h => h.elim
theorem fun_look {x qual : Str} {st : Stmt} {f : Addr} {fd : FuncData} (F : Fun K x qual st f fd) : ∃ oc od osl, K.lookup f = some ⟨oc, od, .func fd, osl⟩ := by
  obtain ⟨oc, od, kV, doc, pm, an, cdv, ct, osl, rfl, lk, hcd⟩ := F.ex
  exact ⟨oc, od, osl, lk⟩
theorem fun_names {x qual : Str} {st : Stmt} {f : Addr} {fd : FuncData} (F : Fun K x qual st f fd) : fd.params.args.map (·.arg) = (defArgs st).args.map (·.arg) := by
  obtain ⟨oc, od, kV, doc, pm, an, cdv, ct, osl, rfl, lk, hcd⟩ := F.ex
  rfl
theorem spF_cut {m : Nat} {f : FF} {k : Nat} {a : Addr} {fd : FuncData} {ps : List Str} (F : FnG P w K mg base k a fd ps (spF K mg m f)) : FnG P w K mg base k a fd ps (spF K mg m (fun ds S => cutR S (f ds S))) :=
  F.weak fun vs H Q E ⟨w1, S1, ds, s1, r1, l, h⟩ => ⟨w1, S1, ds, s1, r1, l, h.cutE s1⟩
theorem fnB_ar {m n : Nat} {b : FS} : ∀ ds S, ds.length ≠ m → fnB m n b ds S = .no := fun ds S h => by unfold fnB; rw [if_neg h]
theorem fnC_ar {m n : Nat} {b : FS} : ∀ ds S, ds.length ≠ m → fnC m n b ds S = .no := fun ds S h => by unfold fnC; rw [fnB_ar ds S h]; rfl
theorem cal_B {x : Str} {st : Stmt} {f : Addr} {fd : FuncData} {N ps : List Str} {k : Nat} {b : FS} (F : Fun K x x st f fd) (S : FnScope N ps (defScope st)) (hm : mg x = some (.ref f)) (hbd : Binds K fd ps []) (hps : ps = (defArgs st).args.map (·.arg))
    (hb : ∀ (cdv : Value) (A : Around) (outer : List Env) (s : Shared) (H : Hp) (E : XK), RoomG k (A.deeper (envOfC x (defScope st) s.heap.objs.size f cdv)) →
      PSs (cxOf (L2.CX P w) P w K mg base N x (defScope st) f cdv A outer s H E) (defBody st) (tS (cxOf (L2.CX P w) P w K mg base N x (defScope st) f cdv A outer s H E) (fun c d _ H => E c d H) b)) :
    Cal P w K mg base (k + 1) x (fnB ps.length N.length b) := ⟨f, fd, ps, fn_ok F S hb, hm, F.kp, hbd, fnB_ar, hps.trans (fun_names F).symm, fun_look F⟩
theorem cal_C {x : Str} {st : Stmt} {f : Addr} {fd : FuncData} {N ps : List Str} {k : Nat} {b : FS} (F : Fun K x x st f fd) (S : FnScope N ps (defScope st)) (hm : mg x = some (.ref f)) (hbd : Binds K fd ps []) (hps : ps = (defArgs st).args.map (·.arg))
    (hb : ∀ (cdv : Value) (A : Around) (outer : List Env) (s : Shared) (H : Hp) (E : XK), RoomG k (A.deeper (envOfC x (defScope st) s.heap.objs.size f cdv)) →
      PSs (cxOf (L2.CX P w) P w K mg base N x (defScope st) f cdv A outer s H E) (defBody st) (tS (cxOf (L2.CX P w) P w K mg base N x (defScope st) f cdv A outer s H E) (fun c d _ H => E c d H) b)) :
    Cal P w K mg base (k + 1) x (fnC ps.length N.length b) := ⟨f, fd, ps, spF_cut (fn_ok F S hb), hm, F.kp, hbd, fnC_ar, hps.trans (fun_names F).symm, fun_look F⟩
end
/-! ### a cell is made a value -/
def gFz (x : D) (S : Store) : RE D := match x with
  | .loc n => (match cellM S n with
    | some ds => .ok (.lst ds) (S.set n .dead)
    | none => .no)
  | _ => .no
section
variable {K : PySem.W.Frag} {mg : Str → Option Value} {w : Wd} {H : Hp} {S : Store} {Q : VK} {E : Value → Option Addr → Hp → Prop}
theorem fz_at {x : D} {v : V} (s : Sto K mg w S H) (r : Rp K mg w H x v) (h : End K mg (fun w H => Rp K mg w H) w H (gFz x S) Q E) : Q v H := by
  unfold gFz at h
  split at h
  · rename_i n
    split at h
    · rename_i ds hz
      obtain ⟨a, xs, h1, h2, h3⟩ := cellM_at s hz
      unfold Rp at r
      have ev := r.2 a h1
      have hn : n < w.φ.length := r.1
      have gs : (w.φ.set n none)[n]? = some none := by rw [List.getElem?_set_self hn]
      have gn : ∀ m : Nat, m ≠ n → (w.φ.set n none)[m]? = w.φ[m]? := fun m hm => List.getElem?_set_ne (Ne.symm hm)
      have sub : ∀ (m : Nat) b, (w.φ.set n none)[m]? = some (some b) → w.φ[m]? = some (some b) ∧ m ≠ n := fun m b q => by
        by_cases e : m = n
        · subst e; rw [gs] at q; cases q
        · rw [gn m e] at q; exact ⟨q, e⟩
      have mem : ∀ b, some b ∈ w.φ.set n none → some b ∈ w.φ := fun b q => by
        obtain ⟨m, hm⟩ := List.mem_iff_getElem?.mp q
        exact List.mem_of_getElem? (sub m b hm).1
      have out : some a ∉ w.φ.set n none := fun q => by
        obtain ⟨m, hm⟩ := List.mem_iff_getElem?.mp q
        obtain ⟨q1, q2⟩ := sub m a hm
        exact q2 (s.nd m n a q1 h1)
      have ex : Ext w H ⟨w.φ.set n none, w.hd⟩ H := ⟨fun _ _ h _ => h, by show _ ≤ (w.φ.set n none).length; rw [List.length_set]; exact Nat.le_refl _, fun m b q _ => (sub m b q).1, fun b q => .inl (mem b q), rfl⟩
      have s' : Sto K mg ⟨w.φ.set n none, w.hd⟩ (S.set n .dead) H := by
        refine ⟨by show (w.φ.set n none).length = _; rw [List.length_set, List.length_set]; exact s.len, fun m k b q1 q2 => s.nd m k b (sub m b q1).1 (sub k b q2).1, fun b hb => ⟨(s.ap b hb).1, fun z => (s.ap b hb).2 (mem b z)⟩, fun m c hc => ?_⟩
        by_cases e : m = n
        · subst e
          rw [List.getElem?_set_self (s.len ▸ hn)] at hc
          cases hc
          exact gs
        · rw [List.getElem?_set_ne (Ne.symm e)] at hc
          exact CellR.ext ex (fun b hb => ⟨by show (w.φ.set n none)[m]? = _; rw [gn m e]; exact hb, rfl⟩) (fun hb => by show (w.φ.set n none)[m]? = _; rw [gn m e]; exact hb) (s.cell m c hc)
      refine h ⟨w.φ.set n none, w.hd⟩ H v ex s' ?_
      show Rp _ _ _ _ _ _
      unfold Rp
      exact ⟨a, xs, ev, h2, ⟨out, fun z => (s.ap a z).2 (List.mem_of_getElem? h1)⟩, RpL.ext ex _ _ h3⟩
    · exact h.elim
  · exact h.elim
end
theorem q_fz {X : Cx} {W : WX} {e : Expr} {f : FE} (he : PE X e (tF X W f)) : PE X e (tF X W (f1 gFz f)) := PE.wk he fun σ H Q ⟨w, ρ, S, s, en, h⟩ =>
  ⟨w, ρ, S, s, en, (End.bind (R := fun w H => Rp X.K X.mg w H) h).imp (fun x H1 ⟨w1, S1, d, e1, s1, r1, h1⟩ => fz_at s1 r1 h1) (fun _ _ _ z => z)⟩
end Kw

/-! Kw6: targets, for, while, comprehensions. -/
namespace Kw
open PySem PySem.Spec PyProof.Rows L2

/-! ### what carries a tree over -/
structure Mv (w : Wd) (H : Hp) (w' : Wd) (H' : Hp) : Prop where
  fr : ∀ a o, H a = some o → w.Off a → H' a = some o ∧ w'.Off a
  ln : w.φ.length ≤ w'.φ.length
  ph : ∀ (n : Nat) a, w'.φ[n]? = some (some a) → n < w.φ.length → w.φ[n]? = some (some a)
section
variable {K : PySem.W.Frag} {mg : Str → Option Value} {w w' w'' : Wd} {H H' H'' : Hp} {S : Store}
mutual
theorem Rp.mv (e : Mv w H w' H') : ∀ (d : D) (v : V), Rp K mg w H d v → Rp K mg w' H' d v
  | .non, _, h => by unfold Rp at h ⊢; exact h
  | .bl _, _, h => by unfold Rp at h ⊢; exact h
  | .int _, _, h => by unfold Rp at h ⊢; exact h
  | .str _, _, h => by unfold Rp at h ⊢; exact h
  | .tup ds, v, h => by
    unfold Rp at h ⊢
    obtain ⟨a, xs, e1, t, r⟩ := h
    refine ⟨a, xs, e1, ?_, RpL.mv e ds xs r⟩
    rcases t with ⟨t, n⟩ | t
    · exact .inl (e.fr _ _ t n)
    · exact .inr t
  | .lst ds, v, h => by
    unfold Rp at h ⊢
    obtain ⟨a, xs, e1, t, n, r⟩ := h
    exact ⟨a, xs, e1, (e.fr _ _ t n).1, (e.fr _ _ t n).2, RpL.mv e ds xs r⟩
  | .dic ks ds, v, h => by
    unfold Rp at h ⊢
    obtain ⟨a, vs, e1, t, n, l, r⟩ := h
    exact ⟨a, vs, e1, (e.fr _ _ t n).1, (e.fr _ _ t n).2, l, RpL.mv e ds vs r⟩
  | .ins c fs ds, v, h => by
    unfold Rp at h ⊢
    obtain ⟨a, C, dx, vs, e1, m, t, n, l, r⟩ := h
    exact ⟨a, C, dx, vs, e1, m, (e.fr _ _ t n).1, (e.fr _ _ t n).2, l, RpL.mv e ds vs r⟩
  | .loc n, v, h => by
    unfold Rp at h ⊢
    exact ⟨Nat.lt_of_lt_of_le h.1 e.ln, fun a q => h.2 a (e.ph n a q h.1)⟩
  | .glo _, _, h => by unfold Rp at h ⊢; exact h
  | .exn _, _, h => by unfold Rp at h ⊢; exact h
  | .exo c ns ds, v, h => by
    unfold Rp at h ⊢
    obtain ⟨a, C, od, vs, e1, m, t, n, z, q, l, r⟩ := h
    exact ⟨a, C, od, vs, e1, m, (e.fr _ _ t n).1, (e.fr _ _ t n).2, z, fun d hd => ⟨(e.fr _ _ (q d hd).1 (q d hd).2).1, (e.fr _ _ (q d hd).1 (q d hd).2).2⟩, l, RpL.mv e ds vs r⟩
  | .fls ds, v, h => by
    unfold Rp at h ⊢
    obtain ⟨a, xs, e1, t, r⟩ := h
    refine ⟨a, xs, e1, ?_, RpL.mv e ds xs r⟩
    rcases t with ⟨o, t, n⟩ | t
    · exact .inl ⟨o, e.fr _ _ t n⟩
    · exact .inr t
theorem RpL.mv (e : Mv w H w' H') : ∀ (ds : List D) (vs : List V), RpL K mg w H ds vs → RpL K mg w' H' ds vs
  | [], _, h => by unfold RpL at h ⊢; exact h
  | d :: ds, vs, h => by
    unfold RpL at h ⊢
    obtain ⟨v, r, e1, h1, h2⟩ := h
    exact ⟨v, r, e1, Rp.mv e d v h1, RpL.mv e ds r h2⟩
end
theorem EnvR.mv {ρ : FEnv} {σ : L2.St} (e : Mv w H w' H') (h : EnvR K mg w H ρ σ) : EnvR K mg w' H' ρ σ := ⟨h.len, fun i d q => by
  obtain ⟨v, h1, h2⟩ := h.at_ i d q
  exact ⟨v, h1, Rp.mv e _ _ h2⟩⟩
theorem TabW.mv {P : Addr} {q : Str} (m : Mv w H w' H') (hP : H' P = H P) (h : TabW w H P q) : TabW w' H' P q := by
  obtain ⟨ps, h1, h2, h3⟩ := h
  refine ⟨ps, by rw [hP]; exact h1, h2, fun pos cv hc => ?_⟩
  obtain ⟨c, e1, e2, e3⟩ := h3 pos cv hc
  exact ⟨c, e1, m.fr _ _ e2 e3⟩
theorem Ext.mv (e : Ext w H w' H') : Mv w H w' H' := ⟨fun a o h n => ⟨e.fr a o h n.1, e.out h n⟩, e.ln, e.ph⟩
theorem Mv.trans (a : Mv w H w' H') (b : Mv w' H' w'' H'') : Mv w H w'' H'' :=
  ⟨fun c o h n => b.fr c o (a.fr c o h n).1 (a.fr c o h n).2, Nat.le_trans a.ln b.ln, fun n c h l => a.ph n c (b.ph n c h (Nat.lt_of_lt_of_le l a.ln)) l⟩
theorem Mv.refl : Mv w H w H := Ext.refl.mv
/-- the object at C is built, hidden -/
structure ExtD (C : Addr) (w : Wd) (H : Hp) (w' : Wd) (H' : Hp) : Prop where
  c0 : H C = none
  fr : ∀ a o, a ≠ C → H a = some o → some a ∉ w.φ → H' a = some o
  ln : w.φ.length ≤ w'.φ.length
  ph : ∀ (n : Nat) a, w'.φ[n]? = some (some a) → n < w.φ.length → w.φ[n]? = some (some a)
  nw : ∀ a, some a ∈ w'.φ → some a ∈ w.φ ∨ H a = none
  hd : w'.hd = C :: w.hd
theorem ExtD.step {C : Addr} (a : ExtD C w H w' H') (b : Ext w' H' w'' H'') : ExtD C w H w'' H'' where
  c0 := a.c0
  fr := fun c o hc h n => b.fr c o (a.fr c o hc h n) fun z => by
    rcases a.nw c z with z | z
    · exact n z
    · rw [h] at z; cases z
  ln := Nat.le_trans a.ln b.ln
  ph := fun n c h l => a.ph n c (b.ph n c h (Nat.lt_of_lt_of_le l a.ln)) l
  nw := fun c h => by
    rcases b.nw c h with z | z
    · exact a.nw c z
    · by_cases q : some c ∈ w.φ
      · exact .inl q
      · cases e : H c with
        | none => exact .inr rfl
        | some o =>
          have hc : c ≠ C := fun z => by subst z; rw [a.c0] at e; cases e
          rw [a.fr c o hc e q] at z; cases z
  hd := b.hd.trans a.hd
theorem ExtD.poke {C : Addr} {o : HO} (a : ExtD C w H w' H') : ExtD C w H w' (upd H' C o) := ⟨a.c0, fun c u hc h n => by rw [upd_ne hc]; exact a.fr c u hc h n, a.ln, a.ph, a.nw, a.hd⟩
theorem ExtD.mv {C : Addr} (a : ExtD C w H w' H') : Mv w H w' H' := ⟨fun c o h n => by
  have hc : c ≠ C := fun z => by subst z; rw [a.c0] at h; cases h
  refine ⟨a.fr c o hc h n.1, fun z => ?_, fun z => ?_⟩
  · rcases a.nw c z with z | z
    · exact n.1 z
    · rw [h] at z; cases z
  · rw [a.hd] at z
    rcases List.mem_cons.mp z with z | z
    · exact hc z
    · exact n.2 z, a.ln, a.ph⟩
theorem ExtD.begin_ {C : Addr} {o : HO} (hC : H C = none) : ExtD C w H ⟨w.φ, C :: w.hd⟩ (upd H C o) := ⟨hC, fun a u e h _ => by rw [upd_ne e]; exact h, Nat.le_refl _, fun _ _ h _ => h, fun _ h => .inl h, rfl⟩
theorem ExtD.done {C : Addr} (a : ExtD C w H w' H') : Ext w H ⟨w'.φ, w.hd⟩ H' := ⟨fun c o h n => a.fr c o (fun z => by subst z; rw [a.c0] at h; cases h) h n, a.ln, a.ph, a.nw, rfl⟩
theorem Sto.mvd {C : Addr} (s : Sto K mg w S H) (hC : H C = none) {o : HO} : Sto K mg ⟨w.φ, C :: w.hd⟩ S (upd H C o) := by
  have m : Mv w H ⟨w.φ, C :: w.hd⟩ (upd H C o) := (ExtD.begin_ hC).mv
  refine ⟨s.len, s.nd, fun a ha => ?_, fun n c hc => ?_⟩
  · rcases List.mem_cons.mp ha with e | ha
    · subst e; exact ⟨by rw [upd_same]; exact fun z => (nomatch z), (s.new hC).1⟩
    · exact ⟨upd_some (s.ap a ha).1, (s.ap a ha).2⟩
  · have c0 := s.cell n c hc
    have ne : ∀ a, w.φ[n]? = some (some a) → upd H C o a = H a := fun a ha => upd_ne fun z => by subst z; exact (s.new hC).1 (List.mem_of_getElem? ha)
    unfold CellR at c0 ⊢
    split at c0
    · obtain ⟨b, xs, h2, h3, h4⟩ := c0; exact ⟨b, xs, h2, by rw [ne b h2]; exact h3, RpL.mv m _ _ h4⟩
    · obtain ⟨b, xs, o', h2, h3, h4⟩ := c0; exact ⟨b, xs, o', h2, by rw [ne b h2]; exact h3, RpL.mv m _ _ h4⟩
    · exact c0
    · obtain ⟨c1, P, ht, t1, t2⟩ := c0; exact ⟨c1, P, ht, t1, TabW.mv m (ne _ t1) t2⟩
    · obtain ⟨h1, h2, h3, ⟨φ, h4, h6⟩, h5⟩ := c0
      exact ⟨h1, List.mem_cons_of_mem _ h2, h3, ⟨φ, by rw [upd_ne (fun z => by rw [z, hC] at h4; cases h4)]; exact h4, h6⟩, h5⟩
    · exact ⟨c0.1, EnvR.mv m c0.2⟩
    · obtain ⟨b, C1, dx, vs, h2, h3, h4, h5, h6⟩ := c0; exact ⟨b, C1, dx, vs, h2, h3, by rw [ne b h2]; exact h4, h5, RpL.mv m _ _ h6⟩
theorem Mv.poke {C : Addr} {o : HO} (hC : C ∈ w.hd) : Mv w H w (upd H C o) := ⟨fun a u h n => ⟨by rw [upd_ne (fun z => by subst z; exact n.2 hC)]; exact h, n⟩, Nat.le_refl _, fun _ _ h _ => h⟩
theorem Sto.poke {C : Addr} {o : HO} (s : Sto K mg w S H) (hC : C ∈ w.hd) (hx : ∃ xs, H C = some (.lst xs)) : Sto K mg w S (upd H C o) := by
  have m : Mv w H w (upd H C o) := Mv.poke hC
  refine ⟨s.len, s.nd, fun a ha => ⟨upd_some (s.ap a ha).1, (s.ap a ha).2⟩, fun n c hc => ?_⟩
  have c0 := s.cell n c hc
  have ne : ∀ a, w.φ[n]? = some (some a) → upd H C o a = H a := fun a ha => upd_ne fun z => by subst z; exact (s.ap a hC).2 (List.mem_of_getElem? ha)
  unfold CellR at c0 ⊢
  split at c0
  · obtain ⟨b, xs, h2, h3, h4⟩ := c0; exact ⟨b, xs, h2, by rw [ne b h2]; exact h3, RpL.mv m _ _ h4⟩
  · obtain ⟨b, xs, o', h2, h3, h4⟩ := c0; exact ⟨b, xs, o', h2, by rw [ne b h2]; exact h3, RpL.mv m _ _ h4⟩
  · exact c0
  · obtain ⟨c1, P, ht, t1, t2⟩ := c0; exact ⟨c1, P, ht, t1, TabW.mv m (ne _ t1) t2⟩
  · obtain ⟨h1, h2, h3, ⟨φ, h4, h6⟩, h5⟩ := c0
    obtain ⟨xs, hx⟩ := hx
    exact ⟨h1, h2, h3, ⟨φ, by rw [upd_ne (fun z => by rw [z, hx] at h4; cases h4)]; exact h4, h6⟩, h5⟩
  · exact ⟨c0.1, EnvR.mv m c0.2⟩
  · obtain ⟨b, C1, dx, vs, h2, h3, h4, h5, h6⟩ := c0; exact ⟨b, C1, dx, vs, h2, h3, by rw [ne b h2]; exact h4, h5, RpL.mv m _ _ h6⟩
theorem Mv.show {C : Addr} {h0 : List Addr} (e : w.hd = C :: h0) : Mv w H ⟨w.φ, h0⟩ H := ⟨fun a o h n => ⟨h, n.1, fun z => n.2 (by rw [e]; exact List.mem_cons_of_mem _ z)⟩, Nat.le_refl _, fun _ _ h _ => h⟩
theorem Sto.show {C : Addr} {h0 : List Addr} (s : Sto K mg w S H) (e : w.hd = C :: h0) (hx : ∃ xs, H C = some (.lst xs)) : Sto K mg ⟨w.φ, h0⟩ S H := by
  have m : Mv w H ⟨w.φ, h0⟩ H := Mv.show e
  refine ⟨s.len, s.nd, fun a ha => s.ap a (by rw [e]; exact List.mem_cons_of_mem _ ha), fun n c hc => ?_⟩
  have c0 := s.cell n c hc
  unfold CellR at c0 ⊢
  split at c0
  · obtain ⟨b, xs, h2, h3, h4⟩ := c0; exact ⟨b, xs, h2, h3, RpL.mv m _ _ h4⟩
  · obtain ⟨b, xs, o', h2, h3, h4⟩ := c0; exact ⟨b, xs, o', h2, h3, RpL.mv m _ _ h4⟩
  · exact c0
  · obtain ⟨c1, P, ht, t1, t2⟩ := c0; exact ⟨c1, P, ht, t1, TabW.mv m rfl t2⟩
  · obtain ⟨h1, h2, h3, ⟨φ, h4, h6⟩, h5⟩ := c0
    obtain ⟨xs, hx⟩ := hx
    refine ⟨h1, ?_, h3, ⟨φ, h4, h6⟩, h5⟩
    rw [e] at h2
    rcases List.mem_cons.mp h2 with z | z
    · rw [z, hx] at h4; cases h4
    · exact z
  · exact ⟨c0.1, EnvR.mv m c0.2⟩
  · obtain ⟨b, C1, dx, vs, h2, h3, h4, h5, h6⟩ := c0; exact ⟨b, C1, dx, vs, h2, h3, h4, h5, RpL.mv m _ _ h6⟩
end

/-! ### targets -/
abbrev FG := D → FEnv → Store → Option (FEnv × Store)
abbrev FGs := List D → FEnv → Store → Option (FEnv × Store)
def GOk (X : Cx) (w : Wd) (H : Hp) (sl : List Nat) (σ : L2.St) (r : Option (FEnv × Store)) (Q : L2.St → Hp → Prop) : Prop := match r with
  | some (ρ', S') => ∀ w' H' σ', Ext w H w' H' → Sto X.K X.mg w' S' H' → EnvR X.K X.mg w' H' ρ' σ' → (∀ i, i ∉ sl → σ'[i]? = σ[i]?) → σ'.length = σ.length → Q σ' H'
  | none => False
def tG (X : Cx) (sl : List Nat) (g : FG) : TG := fun v σ H Q => ∃ w ρ S d, Sto X.K X.mg w S H ∧ EnvR X.K X.mg w H ρ σ ∧ Rp X.K X.mg w H d v ∧ GOk X w H sl σ (g d ρ S) Q
def tGs (X : Cx) (sl : List Nat) (g : FGs) : TGs := fun vs σ H Q => ∃ w ρ S ds, Sto X.K X.mg w S H ∧ EnvR X.K X.mg w H ρ σ ∧ RpL X.K X.mg w H ds vs ∧ GOk X w H sl σ (g ds ρ S) Q
theorem PG.wk {X : Cx} {e : Expr} {t t' : TG} (h : PG X e t) (m : ∀ v σ H Q, t' v σ H Q → t v σ H Q) : PG X e t' := ⟨fun pins s σ H v u Q I r k => h.run pins s σ H v u Q I r (m v σ H Q k)⟩
theorem PGs.wk {X : Cx} {e : List Expr} {t t' : TGs} (h : PGs X e t) (m : ∀ v σ H Q, t' v σ H Q → t v σ H Q) : PGs X e t' := ⟨fun pins s σ H v u Q I r k => h.run pins s σ H v u Q I r (m v σ H Q k)⟩
def gN (i : Nat) : FG := fun d ρ S => some (ρ.set i (some d), S)
def gsNil : FGs := fun ds ρ S => match ds with
  | [] => some (ρ, S)
  | _ => none
def gsCons (g : FG) (gs : FGs) : FGs := fun ds ρ S => match ds with
  | d :: r => (match g d ρ S with
    | some (ρ1, S1) => gs r ρ1 S1
    | none => none)
  | [] => none
def gTu (n : Nat) (gs : FGs) : FG := fun d ρ S => match d with
  | .tup ds => if ds.length = n then gs ds ρ S else none
  | _ => none
def gSetI (o i d : D) (S : Store) : Option Store := match o, i with
  | .loc n, .int k => (match cellM S n with
    | some xs => (match ixN xs.length k with
      | some j => some (S.set n (.lst (xs.set j d)))
      | none => none)
    | none => none)
  | _, _ => none
def gSb (fo fi : FE) : FG := fun d ρ S => match fo ρ S with
  | .ok o S1 => (match fi ρ S1 with
    | .ok i S2 => (match gSetI o i d S2 with
      | some S3 => some (ρ, S3)
      | none => none)
    | _ => none)
  | _ => none
section
variable {X : Cx} {W : WX} {pos : Pos} {e : Expr} {es : List Expr}
theorem GOk.imp {w : Wd} {H : Hp} {sl sl' : List Nat} {σ : L2.St} {r : Option (FEnv × Store)} {Q Q' : L2.St → Hp → Prop} (h : GOk X w H sl σ r Q) (hs : ∀ i, i ∉ sl → i ∉ sl') (hq : ∀ σ H, Q σ H → Q' σ H) : GOk X w H sl' σ r Q' := by
  unfold GOk at h ⊢
  split
  · intro w' H' σ' e s en k l
    exact hq _ _ (h w' H' σ' e s en (fun i hi => k i (hs i hi)) l)
  · exact h
theorem q_gn {i : Nat} {x : Str} (hN : X.N.Nodup) (hi : X.N[i]? = some x) (hx : Loc X.env.scope x) (hf : X.fn x = true ∨ X.env.scope.names.lookup x = some .local := by first | exact .inl rfl | exact .inr rfl | assumption) : PG X (.Name x pos) (tG X [i] (gN i)) :=
  PG.wk (pg_name hN hi hx hf) fun v σ H Q ⟨w, ρ, S, d, s, en, r, h⟩ => h w H _ Ext.refl s (en.set r) (fun j hj => by
    rw [List.getElem?_set_ne (fun z => hj (by rw [z]; exact List.mem_singleton.mpr rfl))]) (by rw [List.length_set])
theorem q_gsnil : PGs X [] (tGs X [] gsNil) := PGs.wk pgs_nil fun v σ H Q ⟨w, ρ, S, ds, s, en, r, h⟩ => by
  unfold gsNil at h
  split at h
  · unfold RpL at r
    exact ⟨r, h w H σ Ext.refl s en (fun _ _ => rfl) rfl⟩
  · exact h.elim
theorem q_gscons {g : FG} {gs : FGs} {sl sl2 : List Nat} (h1 : PG X e (tG X sl g)) (h2 : PGs X es (tGs X sl2 gs)) (hs : (assignEach (e :: es) X.env).map (·.2) = assign e X.env :: (assignEach es X.env).map (·.2) := by rfl) : PGs X (e :: es) (tGs X (sl ++ sl2) (gsCons g gs)) :=
  PGs.wk (pgs_cons h1 h2 hs) fun vs σ H Q ⟨w, ρ, S, ds, s, en, r, h⟩ => by
    unfold gsCons at h
    split at h
    · rename_i d ds'
      unfold RpL at r
      obtain ⟨v, vs', e1, r1, r2⟩ := r
      refine ⟨v, vs', e1, w, ρ, S, d, s, en, r1, ?_⟩
      split at h
      · rename_i ρ1 S1 hg
        rw [hg]
        intro w' H' σ' ex s' en' k l
        refine ⟨w', ρ1, S1, ds', s', en', RpL.ext ex _ _ r2, ?_⟩
        unfold GOk at h ⊢
        split at h
        · intro w2 H2 σ2 ex2 s2 en2 k2 l2
          exact h w2 H2 σ2 (ex.trans ex2) s2 en2 (fun i hi => by
            rw [k2 i (fun z => hi (List.mem_append_right _ z)), k i (fun z => hi (List.mem_append_left _ z))]) (l2.trans l)
        · exact h
      · exact h.elim
    · exact h.elim
theorem q_gtu {k n : Nat} {gs : FGs} {sl : List Nat} (hc : X.calm = true) (h : PGs X es (tGs X sl gs)) (hn : (assignEach es X.env).length = n := by rfl) (hst : (assignEach es X.env).findIdx? (·.1) = none := by rfl) : PG X (.Tuple es k pos) (tG X sl (gTu n gs)) :=
  PG.wk (pg_tup hc h hn hst) fun v σ H Q ⟨w, ρ, S, d, s, en, r, h⟩ => by
    unfold gTu at h
    split at h
    · rename_i ds
      split at h
      · rename_i hl
        obtain ⟨a, xs, e1, t1, q1⟩ := tup_at r
        exact ⟨a, xs, e1, t1, by rw [← q1.length]; exact hl, w, ρ, S, ds, s, en, q1, h⟩
      · exact h.elim
    · exact h.elim
theorem setI_at {w : Wd} {S S' : Store} {H : Hp} {o i d : D} {ov iv v : V} (s : Sto X.K X.mg w S H) (ro : Rp X.K X.mg w H o ov) (ri : Rp X.K X.mg w H i iv) (rd : Rp X.K X.mg w H d v) (h : gSetI o i d S = some S') {Q : Hp → Prop} (hq : ∀ H', Ext w H w H' → Sto X.K X.mg w S' H' → Q H') : rSetL ov iv v H Q := by
  unfold gSetI at h
  split at h
  · rename_i n k
    split at h
    · rename_i xs hx
      split at h
      · rename_i j hj
        cases h
        obtain ⟨a, vs, h1, h2, h3⟩ := cellM_at s hx
        unfold Rp at ro
        refine ⟨a, vs, k, j, ro.2 a h1, rp_int ri, h2, by rw [← h3.length]; exact hj, hq _ (Ext.write h1) (s.write h1 (cellM_lt hx) (h3.set j rd))⟩
      · cases h
    · cases h
  · cases h
theorem q_gsb {o i : Expr} {fo fi : FE} (ho : PE X o (tF X W fo)) (hi : PE X i (tF X W fi)) (ha : ∀ v, assign (.Subscript o i pos) X.env v = (do
      let ov ← holding [v] (eval o X.env)
      let iv ← holding [v, ov] (eval i X.env)
      standAt pos
      holding [v, ov, iv] (setItem ov iv v)
      release [v, ov, iv] []) := by intro _; rfl) : PG X (.Subscript o i pos) (tG X [] (gSb fo fi)) :=
  PG.wk (pg_sub ho hi set_list ha) fun v σ H Q ⟨w, ρ, S, d, s, en, r, h⟩ => by
    unfold gSb at h
    split at h
    · rename_i od S1 h1
      split at h
      · rename_i id S2 h2
        split at h
        · rename_i S3 h3
          refine ⟨w, ρ, S, s, en, ?_⟩
          rw [h1]
          intro w1 H1 ov e1 s1 r1
          refine ⟨w1, ρ, S1, s1, en.ext e1, ?_⟩
          rw [h2]
          intro w2 H2 iv e2 s2 r2
          have ex := e1.trans e2
          refine setI_at s2 (Rp.ext e2 _ _ r1) r2 (Rp.ext ex _ _ r) h3 fun H3 e3 s3 => ?_
          exact h w2 H3 σ (ex.trans e3) s3 (en.ext (ex.trans e3)) (fun _ _ => rfl) rfl
        · exact h.elim
      · exact h.elim
    · exact h.elim
/-- target = value -/
def sAsg (f : FE) (g : FG) : FS := fun ρ S => (f ρ S).toS ρ fun d S1 => match g d ρ S1 with
  | some (ρ', S') => .nx ρ' S'
  | none => .no
theorem q_asg {tg : Expr} {fe : FE} {g : FG} {sl : List Nat} (he : PE X e (tF X W fe)) (hg : PG X tg (tG X sl g)) (hs : swapsWithSole [tg] e pos.line X.env = pure false := by rfl) (hw : swappedStores [tg] e X.env = pure none := by rfl) (h1 : (assignEach [tg] X.env).map (·.2) = [assign tg X.env] := by rfl) : PS X (.Assign [tg] e pos) (tS X W (sAsg fe g)) :=
  PS.wk (ps_asg he hg hs hw h1) fun D σ H ⟨w, ρ, S, s, en, h⟩ => ⟨w, ρ, S, s, en, (h.of (R := fun w H => Rp X.K X.mg w H) en).imp (fun v H1 ⟨w1, S1, d, e1, s1, r1, h1⟩ => by
    refine ⟨w1, ρ, S1, d, s1, en.ext e1, r1, ?_⟩
    split at h1
    · rename_i ρ' S' hg'
      rw [hg']
      intro w2 H2 σ2 e2 s2 en2 _ _
      exact h1 w2 H2 σ2 e2 s2 en2
    · exact h1.elim) (fun _ _ _ z => z)⟩
/-- a, b = x, y -/
def sPar (i j : Nat) (f : FA) : FS := fun ρ S => (f ρ S).toS ρ fun ds S1 => match ds with
  | [x, y] => .nx ((ρ.set i (some x)).set j (some y)) S1
  | _ => .no
theorem q_par {i j : Nat} {x y : Str} {a b : Expr} {fa : FA} {px py pt : Pos} {kt k2 pt2} (hc : X.calm = true) (hN : X.N.Nodup) (hi : X.N[i]? = some x) (hj : X.N[j]? = some y) (hij : i ≠ j)
    (hx : X.env.scope.names.lookup x = some .local) (hy : X.env.scope.names.lookup y = some .local) (ha : PA X [a, b] (tA X W fa))
    (hw : swappedStores [.Tuple [.Name x px, .Name y py] kt pt] (.Tuple [a, b] k2 pt2) X.env = pure (some [x, y]))
    (hs : swapsWithSole [.Tuple [.Name x px, .Name y py] kt pt] (.Tuple [a, b] k2 pt2) pos.line X.env = pure false := by rfl) : PS X (.Assign [.Tuple [.Name x px, .Name y py] kt pt] (.Tuple [a, b] k2 pt2) pos) (tS X W (sPar i j fa)) :=
  PS.wk (ps_par hc hN hi hj hij hx hy ha hw hs) fun D σ H ⟨w, ρ, S, s, en, h⟩ => ⟨w, ρ, S, s, en, (h.of (R := fun w H => RpL X.K X.mg w H) en).imp (fun v H1 ⟨w1, S1, ds, e1, s1, r1, h1⟩ => by
    split at h1
    · obtain ⟨u, t, e2, r2, r3⟩ := r1.two_inv
      exact ⟨u, t, e2, h1.nx' s1 (((en.ext e1).set r2).set r3)⟩
    · exact h1.elim) (fun _ _ _ z => z)⟩
end

/-! ### what is walked -/
abbrev Its' := List D × Option (Nat × List D)
/-- the list that is walked is as it was -/
def gd (g : Option (Nat × List D)) (S : Store) : Prop := match g with
  | none => True
  | some (n, ds) => cellOf S n = some ds
open Classical in
noncomputable def gchk (g : Option (Nat × List D)) (S : Store) {α : Type} (a b : α) : α := if gd g S then a else b
def ItOk (K : PySem.W.Frag) (mg : Str → Option Value) (w : Wd) (H : Hp) (p : Its') (J : It) : Prop :=
  ∀ w' S' H', Mv w H w' H' → Sto K mg w' S' H' → gd p.2 S' → (∀ i, p.1.length ≤ i → J.stop i H') ∧ ∀ i d, p.1[i]? = some d → J.go i H' ∧ ∀ x H'', J.yld i H' x H'' → Ext w' H' w' H'' ∧ Sto K mg w' S' H'' ∧ Rp K mg w' H'' d x
abbrev FI := FEnv → Store → RE Its'
def tI (X : Cx) (W : WX) (f : FI) : TI := fun σ H R => ∃ w ρ S, Sto X.K X.mg w S H ∧ EnvR X.K X.mg w H ρ σ ∧ End X.K X.mg (ItOk X.K X.mg) w H (f ρ S) R (fun c od H' => W c od σ H')
theorem PI.wk {X : Cx} {tg e : Expr} {t t' : TI} (h : PI X tg e t) (m : ∀ σ H R, t' σ H R → t σ H R) : PI X tg e t' := ⟨fun pins s σ H R I k => h.run pins s σ H R I (m σ H R k)⟩
/-- a list or a tuple -/
def iSeq (S : Store) : D → Option Its'
  | .lst ds => some (ds, none)
  | .fls ds => some (ds, none)
  | .loc n => (cellOf S n).map fun ds => (ds, some (n, ds))
  | _ => none
def fiL (f : FE) : FI := fun ρ S => (f ρ S).bnd fun x S1 => match iSeq S1 x with
  | some p => .ok p S1
  | none => .no
def fiT (f : FE) : FI := fun ρ S => (f ρ S).bnd fun x S1 => match x with
  | .tup ds => .ok (ds, none) S1
  | _ => .no
def chrs (z : Str) : List D := z.cps.toList.map fun c => .str ⟨#[c]⟩
def fiS (f : FE) : FI := fun ρ S => (f ρ S).bnd fun x S1 => match x with
  | .str z => .ok (chrs z, none) S1
  | _ => .no
def rngD (lo : Int) : Nat → List D
  | 0 => []
  | n + 1 => .int lo :: rngD (lo + 1) n
def fiR1 (f : FA) : FI := fun ρ S => (f ρ S).bnd fun ds S1 => match ds with
  | [.int j] => if -(2 ^ 62) ≤ j ∧ j < 2 ^ 62 then .ok (rngD 0 j.toNat, none) S1 else .no
  | _ => .no
def fiR2 (f : FA) : FI := fun ρ S => (f ρ S).bnd fun ds S1 => match ds with
  | [.int i, .int j] => if -(2 ^ 62) ≤ i ∧ i < 2 ^ 62 ∧ -(2 ^ 62) ≤ j ∧ j < 2 ^ 62 then .ok (rngD i (j - i).toNat, none) S1 else .no
  | _ => .no
def enumD : Nat → List D → List D
  | _, [] => []
  | i, d :: r => .tup [.int i, d] :: enumD (i + 1) r
def fiE (f : FA) : FI := fun ρ S => (f ρ S).bnd fun ds S1 => match ds with
  | [x] => (match iSeq S1 x with
    | some (xs, g) => .ok (enumD 0 xs, g) S1
    | none => .no)
  | _ => .no
def zipD : List D → List D → List D
  | a :: r, b :: q => .tup [a, b] :: zipD r q
  | _, _ => []
/-- zip of two lists, one of them no cell at least -/
def fiZ (f : FA) : FI := fun ρ S => (f ρ S).bnd fun ds S1 => match ds with
  | [x, y] => (match iSeq S1 x, iSeq S1 y with
    | some (xs, none), some (ys, g) => .ok (zipD xs ys, g) S1
    | some (xs, g), some (ys, none) => .ok (zipD xs ys, g) S1
    | _, _ => .no)
  | _ => .no
section
variable {K : PySem.W.Frag} {mg : Str → Option Value} {w w' : Wd} {H H' : Hp} {S S' : Store}
/-- a walked list, at any later time -/
theorem iSeq_at {x : D} {v : V} {p : Its'} (s : Sto K mg w S H) (r : Rp K mg w H x v) (h : iSeq S x = some p) : ∃ a, v = .ref a ∧ (∃ xs, SqL K H a xs) ∧
    ∀ w' S' H', Mv w H w' H' → Sto K mg w' S' H' → gd p.2 S' → ∃ xs, SqL K H' a xs ∧ RpL K mg w' H' p.1 xs := by
  cases x <;> simp only [iSeq] at h <;> try (cases h; done)
  · cases h
    unfold Rp at r
    obtain ⟨a, xs, e, t, o, q⟩ := r
    refine ⟨a, e, ⟨xs, .of t⟩, fun w' S' H' m s' _ => ?_⟩
    obtain ⟨t', o'⟩ := m.fr a _ t o
    exact ⟨xs, .of t', RpL.mv m _ _ q⟩
  · rename_i n
    simp only [Option.map_eq_some_iff] at h
    obtain ⟨ds, h1, h2⟩ := h
    subst h2
    obtain ⟨a, xs, h3, h4, h5⟩ := cellOf_at s h1
    unfold Rp at r
    refine ⟨a, r.2 a h3, ⟨xs, .inl h4⟩, fun w' S' H' m s' g => ?_⟩
    obtain ⟨b, ys, k3, k4, k5⟩ := cellOf_at s' (show cellOf S' n = some ds from g)
    have := m.ph n b k3 r.1
    rw [h3] at this
    cases this
    exact ⟨ys, .inl k4, k5⟩
  · cases h
    unfold Rp at r
    obtain ⟨a, xs, e, t, q⟩ := r
    refine ⟨a, e, ⟨xs, t.sq⟩, fun w' S' H' m s' _ => ?_⟩
    have t' : Fp K w' H' a xs := by
      rcases t with ⟨o, t, n⟩ | t
      · exact .inl ⟨o, m.fr _ _ t n⟩
      · exact .inr t
    exact ⟨xs, t'.sq, RpL.mv m _ _ q⟩
theorem Rd.inj {a : Addr} {u u' : HO} (h : Rd H a u) (h' : Rd H a u') (n : ∀ o q, u ≠ .frz o q) (n' : ∀ o q, u' ≠ .frz o q) : u = u' := by
  rcases h with h | ⟨o, h⟩ <;> rcases h' with h' | ⟨o', h'⟩
  · rw [h] at h'; cases h'; rfl
  · rw [h] at h'; cases h'; exact absurd rfl (n _ _)
  · rw [h] at h'; cases h'; exact absurd rfl (n' _ _)
  · rw [h] at h'; cases h'; rfl
theorem itl_ok {x : D} {v : V} {p : Its'} (s : Sto K mg w S H) (r : Rp K mg w H x v) (h : iSeq S x = some p) {R : It → Hp → Prop} {E : Value → Option Addr → Hp → Prop} (he : End K mg (ItOk K mg) w H (.ok p S) R E) : ∃ a, v = .ref a ∧ (∃ xs, SqL K H a xs) ∧ R (Itl K a) H := by
  obtain ⟨a, e, ex, k⟩ := iSeq_at s r h
  refine ⟨a, e, ex, he w H _ Ext.refl s fun w' S' H' m s' g => ?_⟩
  obtain ⟨xs, q1, q2⟩ := k w' S' H' m s' g
  refine ⟨fun i hi => ⟨xs, q1, by rw [← q2.length]; exact hi⟩, fun i d hd => ?_⟩
  obtain ⟨u, h1, h2⟩ := q2.get hd
  refine ⟨⟨xs, u, q1, h1⟩, fun y H'' hy => ?_⟩
  obtain ⟨rfl, hy⟩ := hy
  have := hy xs q1
  rw [h1] at this
  cases this
  exact ⟨Ext.refl, s', h2⟩
theorem enumD_get : ∀ (l : List D) (k i : Nat) (d : D), (enumD k l)[i]? = some d → ∃ y, l[i]? = some y ∧ d = .tup [.int ((k + i : Nat) : Int), y]
  | [], k, i, d, h => by simp [enumD] at h
  | y :: l, k, 0, d, h => by simp [enumD] at h; exact ⟨y, rfl, by rw [← h]; rfl⟩
  | y :: l, k, i + 1, d, h => by
    simp only [enumD, List.getElem?_cons_succ] at h
    obtain ⟨z, h1, h2⟩ := enumD_get l (k + 1) i d h
    exact ⟨z, by simpa using h1, by rw [h2]; rw [show k + 1 + i = k + (i + 1) by omega]⟩
theorem enumD_len : ∀ (l : List D) (k : Nat), (enumD k l).length = l.length
  | [], _ => rfl
  | _ :: l, k => by simp [enumD, enumD_len l (k + 1)]
theorem zipD_get : ∀ (l m : List D) (i : Nat) (d : D), (zipD l m)[i]? = some d → ∃ x y, l[i]? = some x ∧ m[i]? = some y ∧ d = .tup [x, y]
  | [], _, i, d, h => by simp [zipD] at h
  | _ :: _, [], i, d, h => by simp [zipD] at h
  | x :: l, y :: m, 0, d, h => by simp [zipD] at h; exact ⟨x, y, rfl, rfl, h.symm⟩
  | x :: l, y :: m, i + 1, d, h => by
    simp only [zipD, List.getElem?_cons_succ] at h
    obtain ⟨a, b, h1, h2, h3⟩ := zipD_get l m i d h
    exact ⟨a, b, by simpa using h1, by simpa using h2, h3⟩
theorem zipD_len : ∀ (l m : List D), (zipD l m).length = min l.length m.length
  | [], _ => by simp [zipD]
  | _ :: _, [] => by simp [zipD]
  | x :: l, y :: m => by simp [zipD, zipD_len l m]
theorem pair_new {p : Addr} {d e : D} {x y : V} (s : Sto K mg w S H) (np : H p = none) (r1 : Rp K mg w H d x) (r2 : Rp K mg w H e y) : Ext w H w (upd H p (.tup [x, y])) ∧ Sto K mg w S (upd H p (.tup [x, y])) ∧ Rp K mg w (upd H p (.tup [x, y])) (.tup [d, e]) (.ref p) := by
  have ex : Ext w H w (upd H p (.tup [x, y])) := Ext.new np
  refine ⟨ex, s.beside np, ?_⟩
  unfold Rp
  exact ⟨p, _, rfl, .inl ⟨upd_same, s.new np⟩, RpL.cons (Rp.ext ex _ _ r1) (RpL.one (Rp.ext ex _ _ r2))⟩
end
section
variable {X : Cx} {W : WX} {tg e e2 : Expr} {fe : FE} {fa : FA} {p pos : Pos}
theorem qi_list (he : PE X e (tF X W fe)) : PI X tg e (tI X W (fiL fe)) := PI.wk (pi_list he) fun σ H R ⟨w, ρ, S, s, en, h⟩ =>
  ⟨w, ρ, S, s, en, (End.bind (R := fun w H => Rp X.K X.mg w H) h).imp (fun v H1 ⟨w1, S1, d, e1, s1, r1, h1⟩ => by
    split at h1
    · rename_i q hq; exact itl_ok s1 r1 hq h1
    · exact h1.elim) (fun _ _ _ z => z)⟩
theorem qi_tup (he : PE X e (tF X W fe)) : PI X tg e (tI X W (fiT fe)) := PI.wk (pi_tup he) fun σ H R ⟨w, ρ, S, s, en, h⟩ =>
  ⟨w, ρ, S, s, en, (End.bind (R := fun w H => Rp X.K X.mg w H) h).imp (fun v H1 ⟨w1, S1, d, e1, s1, r1, h1⟩ => by
    split at h1
    · rename_i ds
      have r1' := r1
      unfold Rp at r1'
      obtain ⟨a, xs, e, t, q⟩ := r1'
      refine ⟨a, e, ⟨xs, t.sq⟩, h1 w1 H1 _ Ext.refl s1 fun w' S' H' m s' g => ?_⟩
      have t' : SqT X.K H' a xs := by
        rcases t with ⟨t, o⟩ | t
        · exact .of (m.fr a _ t o).1
        · exact .inr t
      have q' := RpL.mv m _ _ q
      refine ⟨fun i hi => ⟨xs, t', by rw [← q.length]; exact hi⟩, fun i d hd => ?_⟩
      obtain ⟨u, k1, k2⟩ := q'.get hd
      refine ⟨⟨xs, u, t', k1⟩, fun y H'' hy => ?_⟩
      obtain ⟨rfl, hy⟩ := hy
      have := hy xs t'
      rw [k1] at this
      cases this
      exact ⟨Ext.refl, s', k2⟩
    · exact h1.elim) (fun _ _ _ z => z)⟩
theorem qi_str (he : PE X e (tF X W fe)) : PI X tg e (tI X W (fiS fe)) := PI.wk (pi_str he) fun σ H R ⟨w, ρ, S, s, en, h⟩ =>
  ⟨w, ρ, S, s, en, (End.bind (R := fun w H => Rp X.K X.mg w H) h).imp (fun v H1 ⟨w1, S1, d, e1, s1, r1, h1⟩ => by
    split at h1
    · rename_i z
      refine ⟨z, rp_str r1, h1 w1 H1 _ Ext.refl s1 fun w' S' H' m s' g => ?_⟩
      refine ⟨fun i hi => (show z.cps.size ≤ i by simpa [chrs] using hi), fun i d hd => ?_⟩
      have hd' : ∃ c, z.cps.toList[i]? = some c ∧ d = .str ⟨#[c]⟩ := by
        simp only [chrs, List.getElem?_map, Option.map_eq_some_iff] at hd
        obtain ⟨c, a, b⟩ := hd
        exact ⟨c, a, b.symm⟩
      obtain ⟨c, k1, k2⟩ := hd'
      rw [Array.getElem?_toList] at k1
      refine ⟨(Array.getElem?_eq_some_iff.mp k1).1, fun y H'' hy => ?_⟩
      obtain ⟨rfl, c', k3, rfl⟩ := hy
      rw [k1] at k3
      cases k3
      subst k2
      exact ⟨Ext.refl, s', rp_s⟩
    · exact h1.elim) (fun _ _ _ z => z)⟩
theorem rngD_len : ∀ (n : Nat) (lo : Int), (rngD lo n).length = n
  | 0, _ => rfl
  | n + 1, lo => by simp [rngD, rngD_len n (lo + 1)]
theorem rngD_get : ∀ (n : Nat) (lo : Int) (i : Nat) (d : D), (rngD lo n)[i]? = some d → i < n ∧ d = .int (lo + i)
  | 0, lo, i, d, h => by simp [rngD] at h
  | n + 1, lo, 0, d, h => by simp [rngD] at h; exact ⟨Nat.succ_pos _, by rw [← h]; simp⟩
  | n + 1, lo, i + 1, d, h => by
    simp only [rngD, List.getElem?_cons_succ] at h
    obtain ⟨h1, h2⟩ := rngD_get n (lo + 1) i d h
    exact ⟨Nat.succ_lt_succ h1, by rw [h2]; congr 1; omega⟩
theorem rng_ok {K : PySem.W.Frag} {mg : Str → Option Value} {w : Wd} {H : Hp} (lo : Int) (n : Nat) : ItOk K mg w H (rngD lo n, none) (Itr lo n) := by
  intro w' S' H' m s' g
  refine ⟨fun i hi => (show n ≤ i by have h2 : (rngD lo n).length ≤ i := hi; rw [rngD_len] at h2; exact h2), fun i d hd => ?_⟩
  obtain ⟨h1, rfl⟩ := rngD_get n lo i d hd
  refine ⟨h1, fun y H'' hy => ?_⟩
  obtain ⟨rfl, rfl⟩ := hy
  exact ⟨Ext.refl, s', rp_i⟩
theorem qi_range1 (hg : Gl X "range") (hm : X.mg "range" = none) (ha : PA X [e] (tA X W fa)) (hs : starEach [e] X.env = [(false, eval e X.env)] := by rfl) : PI X tg (.Call (.Name "range" p) [e] [] pos) (tI X W (fiR1 fa)) := PI.wk (pi_range1 hg hm ha hs) fun σ H R ⟨w, ρ, S, s, en, h⟩ =>
  ⟨w, ρ, S, s, en, (End.bind (R := fun w H => RpL X.K X.mg w H) h).imp (fun vs H1 ⟨w1, S1, ds, e1, s1, r1, h1⟩ => by
    split at h1
    · split at h1
      · rename_i j hj
        obtain ⟨v, rfl, r2⟩ := r1.one_inv
        exact ⟨j, by rw [rp_int r2], hj.1, hj.2, h1.ret s1 (rng_ok 0 _)⟩
      · exact h1.elim
    · exact h1.elim) (fun _ _ _ z => z)⟩
theorem qi_range2 (hg : Gl X "range") (hm : X.mg "range" = none) (ha : PA X [e, e2] (tA X W fa)) (hs : starEach [e, e2] X.env = [(false, eval e X.env), (false, eval e2 X.env)] := by rfl) (hs2 : starEach [e2] X.env = [(false, eval e2 X.env)] := by rfl) : PI X tg (.Call (.Name "range" p) [e, e2] [] pos) (tI X W (fiR2 fa)) := PI.wk (pi_range2 hg hm ha hs hs2) fun σ H R ⟨w, ρ, S, s, en, h⟩ =>
  ⟨w, ρ, S, s, en, (End.bind (R := fun w H => RpL X.K X.mg w H) h).imp (fun vs H1 ⟨w1, S1, ds, e1, s1, r1, h1⟩ => by
    split at h1
    · split at h1
      · rename_i i j hj
        obtain ⟨v, u, rfl, r2, r3⟩ := r1.two_inv
        exact ⟨i, j, by rw [rp_int r2, rp_int r3], hj, h1.ret s1 (rng_ok _ _)⟩
      · exact h1.elim
    · exact h1.elim) (fun _ _ _ z => z)⟩
theorem qi_enum {elts : List Expr} {kk : Nat} {tpos : Pos} (hg : Gl X "enumerate") (hm : X.mg "enumerate" = none) (ha : PA X [e] (tA X W fa)) (hs : starEach [e] X.env = [(false, eval e X.env)] := by rfl) : PI X (.Tuple elts kk tpos) (.Call (.Name "enumerate" p) [e] [] pos) (tI X W (fiE fa)) := PI.wk (pi_enum hg hm ha hs) fun σ H R ⟨w, ρ, S, s, en, h⟩ =>
  ⟨w, ρ, S, s, en, (End.bind (R := fun w H => RpL X.K X.mg w H) h).imp (fun vs H1 ⟨w1, S1, ds, e1, s1, r1, h1⟩ => by
    split at h1
    · rename_i x
      split at h1
      · rename_i xs g hx
        obtain ⟨v, rfl, r2⟩ := r1.one_inv
        obtain ⟨a, e, ⟨ys, ey⟩, k⟩ := iSeq_at s1 r2 hx
        refine ⟨a, ys, by rw [e], ey, h1.ret s1 fun w' S' H' m s' g' => ?_⟩
        obtain ⟨zs, q1, q2⟩ := k w' S' H' m s' g'
        refine ⟨fun i hi => ⟨zs, q1, ?_⟩, fun i d hd => ?_⟩
        · have h2 : (enumD 0 xs).length ≤ i := hi
          rw [enumD_len] at h2
          rw [← q2.length]; exact h2
        · obtain ⟨y, k1, k2⟩ := enumD_get _ _ _ _ hd
          obtain ⟨u, k3, k4⟩ := q2.get k1
          refine ⟨⟨zs, u, q1, k3⟩, fun z H'' hz => ?_⟩
          obtain ⟨T, x', rfl, nT, rfl, hx'⟩ := hz
          have := hx' zs q1
          rw [k3] at this
          cases this
          subst k2
          have pr := pair_new (d := .int ((0 + i : Nat) : Int)) s' nT rp_i k4
          rw [Nat.zero_add] at pr ⊢
          exact pr
      · exact h1.elim
    · exact h1.elim) (fun _ _ _ z => z)⟩
theorem zip_ok {K : PySem.W.Frag} {mg : Str → Option Value} {w : Wd} {H : Hp} {S : Store} {x y : D} {v u : V} {xs ys : List D} {g1 g2 g : Option (Nat × List D)} {R : It → Hp → Prop} {E : Value → Option Addr → Hp → Prop} (s : Sto K mg w S H) (r1 : Rp K mg w H x v) (r2 : Rp K mg w H y u)
    (h1 : iSeq S x = some (xs, g1)) (h2 : iSeq S y = some (ys, g2)) (hg : ∀ S', gd g S' → gd g1 S' ∧ gd g2 S') (he : End K mg (ItOk K mg) w H (.ok (zipD xs ys, g) S) R E) : ∃ a b as bs, [v, u] = [.ref a, .ref b] ∧ SqL K H a as ∧ SqL K H b bs ∧ R (Itz K a b) H := by
  obtain ⟨a, e1, ⟨as, ea⟩, k1⟩ := iSeq_at s r1 h1
  obtain ⟨b, e2, ⟨bs, eb⟩, k2⟩ := iSeq_at s r2 h2
  refine ⟨a, b, as, bs, by rw [e1, e2], ea, eb, he.ret s fun w' S' H' m s' g' => ?_⟩
  obtain ⟨zs, q1, q2⟩ := k1 w' S' H' m s' (hg _ g').1
  obtain ⟨us, p1, p2⟩ := k2 w' S' H' m s' (hg _ g').2
  refine ⟨fun i hi => ⟨zs, us, q1, p1, ?_⟩, fun i d hd => ?_⟩
  · have h3 : (zipD xs ys).length ≤ i := hi
    rw [zipD_len] at h3
    rw [← q2.length, ← p2.length]
    show xs.length ≤ i ∨ ys.length ≤ i
    omega
  · obtain ⟨d1, d2, t1, t2, t3⟩ := zipD_get _ _ _ _ hd
    obtain ⟨v1, t4, t5⟩ := q2.get t1
    obtain ⟨v2, t6, t7⟩ := p2.get t2
    refine ⟨⟨zs, us, v1, v2, q1, p1, t4, t6⟩, fun z H'' hz => ?_⟩
    obtain ⟨T, x', y', rfl, nT, rfl, hx', hy'⟩ := hz
    have z1 := hx' zs q1
    have z2 := hy' us p1
    rw [t4] at z1; rw [t6] at z2
    cases z1; cases z2
    subst t3
    exact pair_new s' nT t5 t7
theorem qi_zip {elts : List Expr} {kk : Nat} {tpos : Pos} (hg : Gl X "zip") (hm : X.mg "zip" = none) (ha : PA X [e, e2] (tA X W fa)) (hs : starEach [e, e2] X.env = (false, eval e X.env) :: starEach [e2] X.env := by rfl) (hpl : (backTo pos (starEach [e2] X.env)).any (·.1) = false := by rfl) : PI X (.Tuple elts kk tpos) (.Call (.Name "zip" p) [e, e2] [] pos) (tI X W (fiZ fa)) := PI.wk (pi_zip hg hm ha hs hpl) fun σ H R ⟨w, ρ, S, s, en, h⟩ =>
  ⟨w, ρ, S, s, en, (End.bind (R := fun w H => RpL X.K X.mg w H) h).imp (fun vs H1 ⟨w1, S1, ds, e1, s1, r1, h1⟩ => by
    split at h1
    · rename_i x y
      obtain ⟨v, u, rfl, r2, r3⟩ := r1.two_inv
      split at h1
      · rename_i xs ys g hx hy; exact zip_ok s1 r2 r3 hx hy (fun S' g' => ⟨trivial, g'⟩) h1
      · rename_i xs g ys hx hy; exact zip_ok s1 r2 r3 hx hy (fun S' g' => ⟨g', trivial⟩) h1
      · exact h1.elim
    · exact h1.elim) (fun _ _ _ z => z)⟩
end

/-! ### for -/
noncomputable def forL (tg : FG) (b : FS) (g : Option (Nat × List D)) : List D → FS
  | [] => fun ρ S => gchk g S (.nx ρ S) .no
  | d :: r => fun ρ S => gchk g S (match tg d ρ S with
    | some (ρ1, S1) => (match b ρ1 S1 with
      | .nx ρ2 S2 => forL tg b g r ρ2 S2
      | .ct ρ2 S2 => forL tg b g r ρ2 S2
      | .bk ρ2 S2 => .nx ρ2 S2
      | z => z)
    | none => .no) .no
noncomputable def sFor (fi : FI) (tg : FG) (b : FS) : FS := fun ρ S => (fi ρ S).toS ρ fun p S1 => forL tg b p.2 p.1 ρ S1
theorem gchk_in {K : PySem.W.Frag} {mg : Str → Option Value} {w : Wd} {H : Hp} {D : Ends} {W : WX} {g : Option (Nat × List Kw.D)} {S : Store} {r : RS} (h : EndS K mg w H (gchk g S r .no) D W) : gd g S ∧ EndS K mg w H r D W := by
  unfold gchk at h
  split at h
  · rename_i k; exact ⟨k, h⟩
  · exact h.elim
section
variable {X : Cx} {W : WX} {tg iter : Expr} {body : List Stmt} {fi : FI} {g : FG} {sl : List Nat} {b : FS} {pos : Pos}
theorem q_for (hp : PassesOwn (model X.prog X.w) X.A X.env X.xe) (hc : X.calm = true) (hi : PI X tg iter (tI X W fi)) (hg : PG X tg (tG X sl g)) (hb : PSs X body (tS X W b)) (hs : ∀ x, foldedSetIterable iter X.env x = pure x := by intro _; rfl) : PS X (.For tg iter body [] pos) (tS X W (sFor fi g b)) :=
  PS.wk (ps_for hp hc hi hg hb hs) fun D σ H ⟨w, ρ, S, s, en, h⟩ => by
    refine ⟨w, ρ, S, s, en, (h.of (R := ItOk X.K X.mg) en).imp ?_ (fun _ _ _ z => z)⟩
    rintro J H1 ⟨w1, S1, ⟨items, gu⟩, e1, s1, J1, h1⟩
    refine ⟨fun i m σ' H' => ∃ w' ρ' S', i + m = items.length ∧ Ext w1 H1 w' H' ∧ Sto X.K X.mg w' S' H' ∧ EnvR X.K X.mg w' H' ρ' σ' ∧ EndS X.K X.mg w' H' (forL g b gu (items.drop i) ρ' S') D W, ⟨items.length, w1, ρ, S1, by omega, Ext.refl, s1, en.ext e1, h1⟩, ?_⟩
    rintro i m σ' H' ⟨w', ρ', S', hm, ex, s', en', h2⟩
    cases hd : items.drop i with
    | nil =>
      rw [hd] at h2
      unfold forL at h2
      obtain ⟨gd1, h3⟩ := gchk_in h2
      have hl : items.length ≤ i := List.drop_eq_nil_iff.mp hd
      exact .inl ⟨(J1 w' S' H' ex.mv s' gd1).1 i hl, h3.nx' s' en'⟩
    | cons d r =>
      rw [hd] at h2
      unfold forL at h2
      obtain ⟨gd1, h3⟩ := gchk_in h2
      have hi' : items[i]? = some d := by
        have := congrArg (·[0]?) hd
        simpa using this
      have hr : items.drop (i + 1) = r := by
        have := congrArg List.tail hd
        simpa using this
      have hlt : i < items.length := (List.getElem?_eq_some_iff.mp hi').1
      obtain ⟨j1, j2⟩ := (J1 w' S' H' ex.mv s' gd1).2 i d hi'
      refine .inr ⟨j1, fun σ2 H2 => ∃ w2 ρ2 S2, Ext w1 H1 w2 H2 ∧ Sto X.K X.mg w2 S2 H2 ∧ EnvR X.K X.mg w2 H2 ρ2 σ2 ∧ EndS X.K X.mg w2 H2 (forL g b gu r ρ2 S2) D W, ?_, ?_⟩
      · rintro σ2 H2 ⟨w2, ρ2, S2, a1, a2, a3, a4⟩
        exact ⟨m - 1, by omega, w2, ρ2, S2, by omega, a1, a2, a3, by rw [hr]; exact a4⟩
      · intro x H'' hy
        obtain ⟨j3, j4, j5⟩ := j2 x H'' hy
        have h3' := h3.on j3
        refine ⟨w', ρ', S', d, j4, en'.ext j3, j5, ?_⟩
        split at h3'
        · rename_i ρ1 S1' hg1
          rw [hg1]
          intro w2 H2 σ2 e2 s2 en2 _ _
          have h4 := h3'.on e2
          have ex2 : Ext w1 H1 w2 H2 := (ex.trans j3).trans e2
          refine ⟨w2, ρ1, S1', s2, en2, ?_⟩
          revert h4
          cases b ρ1 S1' with
          | nx ρ3 S3 => exact fun h4 w3 H3 σ3 e3 s3 en3 => ⟨w3, ρ3, S3, ex2.trans e3, s3, en3, h4.on e3⟩
          | ct ρ3 S3 => exact fun h4 w3 H3 σ3 e3 s3 en3 => ⟨w3, ρ3, S3, ex2.trans e3, s3, en3, h4.on e3⟩
          | bk ρ3 S3 => exact fun h4 => h4
          | rt d S3 => exact fun h4 => h4
          | ex x ρ3 S3 => exact fun h4 => h4
          | no => exact fun h4 => h4
        · exact h3'.elim
end

/-! ### while -/
def wLoop (c : FT) (b : FS) : Nat → FS
  | 0 => fun _ _ => .no
  | n + 1 => fun ρ S => (c ρ S).toS ρ fun k S1 => match k with
    | true => (match b ρ S1 with
      | .nx ρ2 S2 => wLoop c b n ρ2 S2
      | .ct ρ2 S2 => wLoop c b n ρ2 S2
      | .bk ρ2 S2 => .nx ρ2 S2
      | z => z)
    | false => .nx ρ S1
open Classical in
noncomputable def sWhile (c : FT) (b : FS) : FS := fun ρ S => if h : ∃ n, wLoop c b n ρ S ≠ .no then wLoop c b (choose h) ρ S else .no
theorem wLoop_mono {c : FT} {b : FS} : ∀ {n m : Nat} {ρ : FEnv} {S : Store}, n ≤ m → wLoop c b n ρ S ≠ .no → wLoop c b m ρ S = wLoop c b n ρ S
  | 0, _, _, _, _, h => absurd rfl h
  | n + 1, 0, _, _, l, _ => absurd l (by omega)
  | n + 1, m + 1, ρ, S, l, h => by
    unfold wLoop at h ⊢
    cases hc : c ρ S with
    | ok k S1 =>
      rw [hc] at h
      cases k with
      | true =>
        simp only [RE.toS] at h ⊢
        cases hb : b ρ S1 with
        | nx ρ2 S2 =>
          rw [hb] at h
          exact wLoop_mono (Nat.le_of_succ_le_succ l) h
        | ct ρ2 S2 =>
          rw [hb] at h
          exact wLoop_mono (Nat.le_of_succ_le_succ l) h
        | _ => rfl
      | false => rfl
    | _ => rfl
theorem sWhile_eq {c : FT} {b : FS} {n : Nat} {ρ : FEnv} {S : Store} (h : wLoop c b n ρ S ≠ .no) : sWhile c b ρ S = wLoop c b n ρ S := by
  unfold sWhile
  have hx : ∃ n, wLoop c b n ρ S ≠ .no := ⟨n, h⟩
  rw [dif_pos hx]
  have hk := Classical.choose_spec hx
  rcases Nat.le_total n (Classical.choose hx) with l | l
  · exact wLoop_mono l h
  · exact (wLoop_mono l hk).symm
/-- one turn -/
theorem sWhile_step (c : FT) (b : FS) (ρ : FEnv) (S : Store) : sWhile c b ρ S = (c ρ S).toS ρ fun k S1 => match k with
    | true => (match b ρ S1 with
      | .nx ρ2 S2 => sWhile c b ρ2 S2
      | .ct ρ2 S2 => sWhile c b ρ2 S2
      | .bk ρ2 S2 => .nx ρ2 S2
      | z => z)
    | false => .nx ρ S1 := by
  by_cases hx : ∃ n, wLoop c b n ρ S ≠ .no
  · obtain ⟨n, hn⟩ := hx
    cases n with
    | zero => exact absurd rfl hn
    | succ n =>
      rw [sWhile_eq hn]
      unfold wLoop at hn ⊢
      cases hc : c ρ S with
      | ok k S1 =>
        rw [hc] at hn
        cases k with
        | true =>
          simp only [RE.toS] at hn ⊢
          cases hb : b ρ S1 with
          | nx ρ2 S2 => rw [hb] at hn; exact (sWhile_eq hn).symm
          | ct ρ2 S2 => rw [hb] at hn; exact (sWhile_eq hn).symm
          | _ => rfl
        | false => rfl
      | _ => rfl
  · have e0 : sWhile c b ρ S = .no := by unfold sWhile; rw [dif_neg hx]
    rw [e0]
    have key : ∀ n, wLoop c b n ρ S = .no := fun n => Classical.byContradiction fun z => hx ⟨n, z⟩
    cases hc : c ρ S with
    | ok k S1 =>
      cases k with
      | true =>
        simp only [RE.toS]
        have k1 : ∀ n, (match b ρ S1 with
            | .nx ρ2 S2 => wLoop c b n ρ2 S2
            | .ct ρ2 S2 => wLoop c b n ρ2 S2
            | .bk ρ2 S2 => .nx ρ2 S2
            | z => z) = RS.no := fun n => by
          have := key (n + 1)
          unfold wLoop at this
          rw [hc] at this
          exact this
        cases hb : b ρ S1 with
        | nx ρ2 S2 =>
          simp only [hb] at k1
          show RS.no = sWhile c b ρ2 S2
          unfold sWhile
          rw [dif_neg (fun ⟨n, hn⟩ => hn (k1 n))]
        | ct ρ2 S2 =>
          simp only [hb] at k1
          show RS.no = sWhile c b ρ2 S2
          unfold sWhile
          rw [dif_neg (fun ⟨n, hn⟩ => hn (k1 n))]
        | rt d1 S2 => have z := k1 0; rw [hb] at z; exact (nomatch z)
        | ex d1 ρ2 S2 => have z := k1 0; rw [hb] at z; exact (nomatch z)
        | bk ρ2 S2 => have z := k1 0; rw [hb] at z; exact (nomatch z)
        | no => rfl
      | false =>
        have := key 1
        unfold wLoop at this
        rw [hc] at this
        exact this.symm
    | ex x S1 =>
      have := key 1
      unfold wLoop at this
      rw [hc] at this
      exact this.symm
    | no => rfl
section
variable {X : Cx} {W : WX} {c : Expr} {body : List Stmt} {tc : FT} {b : FS} {pos : Pos}
theorem q_while (hp : PassesOwn (model X.prog X.w) X.A X.env X.xe) (hc : PT X c (tT X W tc)) (hb : PSs X body (tS X W b)) : PS X (.While c body [] pos) (tS X W (sWhile tc b)) :=
  PS.wk (ps_while hp hc hb) fun D σ H ⟨w, ρ, S, s, en, h⟩ => by
    refine ⟨fun m σ' H' => ∃ w' ρ' S', Sto X.K X.mg w' S' H' ∧ EnvR X.K X.mg w' H' ρ' σ' ∧ EndS X.K X.mg w' H' (wLoop tc b m ρ' S') D W, ?_, ?_⟩
    · unfold sWhile at h
      split at h
      · exact ⟨_, w, ρ, S, s, en, h⟩
      · exact h.elim
    · rintro m σ' H' ⟨w', ρ', S', s', en', h'⟩
      cases m with
      | zero => exact h'.elim
      | succ n =>
        unfold wLoop at h'
        refine ⟨w', ρ', S', s', en', (h'.of (R := fun _ _ (a b : Bool) => b = a) en').imp ?_ (fun _ _ _ z => z)⟩
        rintro k H1 ⟨w1, S1, k', e1, s1, rfl, h1⟩
        cases k with
        | false => rw [if_neg (by decide)]; exact h1.nx' s1 (en'.ext e1)
        | true =>
          rw [if_pos rfl]
          refine ⟨fun σ2 H2 => ∃ w2 ρ2 S2, Sto X.K X.mg w2 S2 H2 ∧ EnvR X.K X.mg w2 H2 ρ2 σ2 ∧ EndS X.K X.mg w2 H2 (wLoop tc b n ρ2 S2) D W, fun σ2 H2 h2 => ⟨n, Nat.lt_succ_self n, h2⟩, w1, ρ', S1, s1, en'.ext e1, ?_⟩
          revert h1
          cases b ρ' S1 with
          | nx ρ3 S3 => exact fun h4 w3 H3 σ3 e3 s3 en3 => ⟨w3, ρ3, S3, s3, en3, h4.on e3⟩
          | ct ρ3 S3 => exact fun h4 w3 H3 σ3 e3 s3 en3 => ⟨w3, ρ3, S3, s3, en3, h4.on e3⟩
          | bk ρ3 S3 => exact fun h4 => h4
          | rt d S3 => exact fun h4 => h4
          | ex x ρ3 S3 => exact fun h4 => h4
          | no => exact fun h4 => h4
end

/-! ### comprehensions -/
def wipeR (ρ : FEnv) : List Nat → FEnv
  | [] => ρ
  | v :: vs => (wipeR ρ vs).set v none
noncomputable def compL (tg : FG) (tt : FT) (te : FE) (g : Option (Nat × List D)) (ρ : FEnv) : List D → List D → Store → RE (List D)
  | [], acc, S => gchk g S (.ok acc S) .no
  | d :: r, acc, S => gchk g S (match tg d ρ S with
    | some (ρ1, S1) => (match tt ρ1 S1 with
      | .ok true S2 => (match te ρ1 S2 with
        | .ok y S3 => if acc.length < sizeLine then compL tg tt te g ρ r (acc ++ [y]) S3 else .no
        | _ => .no)
      | .ok false S2 => compL tg tt te g ρ r acc S2
      | _ => .no)
    | none => .no) .no
/-- c: the list is a cell -/
noncomputable def fLc (c : Bool) (fi : FI) (tg : FG) (tt : FT) (te : FE) (vs : List Nat) : FE := fun ρ S => (fi ρ S).bnd fun p S1 => match compL tg tt te p.2 (wipeR ρ vs) p.1 [] S1 with
  | .ok acc S2 => if c then .ok (.loc S2.length) (S2 ++ [.lst acc]) else .ok (.lst acc) S2
  | _ => .no
def fYes : FT := fun _ S => .ok true S
abbrev W0 : WX := fun _ _ _ _ => False
theorem gchk_in' {K : PySem.W.Frag} {mg : Str → Option Value} {α β : Type} {R : Wd → Hp → α → β → Prop} {w : Wd} {H : Hp} {Q : β → Hp → Prop} {E : Value → Option Addr → Hp → Prop} {g : Option (Nat × List Kw.D)} {S : Store} {r : RE α} {k : RE α → Prop} (h : k (gchk g S r .no)) (hn : ¬ k .no) : gd g S ∧ k r := by
  unfold gchk at h
  split at h
  · rename_i z; exact ⟨z, h⟩
  · exact absurd h hn
theorem wipe_eq {σ σ' : L2.St} {vs : List Nat} (hl : σ'.length = σ.length) (h : ∀ i, i ∉ vs → σ'[i]? = σ[i]?) : wipe σ' vs = wipe σ vs := by
  have len : ∀ (σ : L2.St) (vs : List Nat), (wipe σ vs).length = σ.length := fun σ vs => wipe_length σ vs
  have at1 : ∀ (σ : L2.St) (vs : List Nat) (i : Nat), i < σ.length → (wipe σ vs)[i]? = if i ∈ vs then some none else σ[i]? := by
    intro σ vs
    induction vs with
    | nil => intro i _; rw [if_neg (by simp)]; rfl
    | cons v vs ih =>
      intro i hi
      show ((wipe σ vs).set v none)[i]? = _
      by_cases e : i = v
      · subst e
        rw [List.getElem?_set_self (by rw [len]; exact hi), if_pos (by simp)]
      · rw [List.getElem?_set_ne (Ne.symm e), ih i hi]
        by_cases m : i ∈ vs
        · rw [if_pos m, if_pos (List.mem_cons_of_mem _ m)]
        · rw [if_neg m, if_neg (by simp [e, m])]
  refine List.ext_getElem? fun i => ?_
  by_cases hi : i < σ.length
  · rw [at1 σ' vs i (hl ▸ hi), at1 σ vs i hi]
    split
    · rfl
    · rename_i m; exact h i m
  · rw [List.getElem?_eq_none (by rw [len, hl]; omega), List.getElem?_eq_none (by rw [len]; omega)]
theorem EnvR.wipe {K : PySem.W.Frag} {mg : Str → Option Value} {w : Wd} {H : Hp} {ρ : FEnv} {σ : L2.St} (en : EnvR K mg w H ρ σ) : ∀ vs : List Nat, EnvR K mg w H (wipeR ρ vs) (L2.wipe σ vs)
  | [] => en
  | v :: vs => (EnvR.wipe en vs).wipe1
theorem wipe_wipe (σ : L2.St) (vs : List Nat) : L2.wipe (L2.wipe σ vs) vs = L2.wipe σ vs := wipe_eq (wipe_length σ vs) fun i hi => wipe_out hi
section
variable {X : Cx} {W : WX} {elt tg iter : Expr} {ifs : List Expr} {scope : Scope} {own : List (Str × Nat)} {pos : Pos} {fi : FI} {g : FG} {sl : List Nat} {tt : FT} {te : FE}
theorem qts_nil : PTs X [] (tT X W fYes) := ⟨fun pins s σ H Q I ⟨w, ρ, S, st, en, h⟩ => pts_nil.run pins s σ H Q I (h.ret st rfl)⟩
theorem qts_one {c : Expr} {t : FT} (h : PT X c (tT X W t)) : PTs X [c] (tT X W t) := pts_one h
/-- the reading of a comprehension -/
theorem lc_core' {σ : L2.St} {H : Hp} {Q : VK} {c : Bool} {vs : List Nat} (hsl : ∀ i ∈ sl, i ∈ vs) (h : tF X W (fLc c fi g tt te vs) σ H Q) : tLc (tI X W fi) (tG X sl g) (tT X W0 tt) (tF X W0 te) vs σ H Q := by
  obtain ⟨w, ρ, S, s, en, h⟩ := h
  refine ⟨w, ρ, S, s, en, (End.bind (R := ItOk X.K X.mg) h).imp ?_ (fun _ _ _ z => z)⟩
  rintro J H1 ⟨w1, S1, ⟨items, gu⟩, e1, s1, J1, h1⟩ C hC
  have enw : EnvR X.K X.mg w1 H1 (wipeR ρ vs) (wipe σ vs) := (en.ext e1).wipe vs
  -- what is left to do, from the items, the list so far and the store
  let fin : RE (List D) → RE D := fun r => match r with
    | .ok acc S2 => if c then .ok (.loc S2.length) (S2 ++ [.lst acc]) else .ok (.lst acc) S2
    | _ => .no
  have h1' : End X.K X.mg (fun w H => Rp X.K X.mg w H) w1 H1 (fin (compL g tt te gu (wipeR ρ vs) items [] S1)) Q (fun c od H' => W c od σ H') := h1
  let G : Hp → List D → Store → RE (List D) → Prop := fun H' acc S' r => ∃ w' xs, ExtD C w1 H1 w' H' ∧ Sto X.K X.mg w' S' H' ∧ H' C = some (.lst xs) ∧ RpL X.K X.mg w' H' acc xs ∧ ∃ r0, fin r = r0 ∧ End X.K X.mg (fun w H => Rp X.K X.mg w H) w1 H1 r0 Q (fun c od H' => W c od σ H')
  refine ⟨fun i m H' => ∃ acc S', i + m = items.length ∧ G H' acc S' (compL g tt te gu (wipeR ρ vs) (items.drop i) acc S'), ⟨items.length, [], S1, by omega, ⟨w1.φ, C :: w1.hd⟩, [], ExtD.begin_ hC, s1.mvd hC, upd_same, RpL.nil, _, rfl, h1'⟩, ?_⟩
  rintro i m H' ⟨acc, S', hm, w', xs, ed, s', hx, ra, r0, hr0, he⟩
  have hCin : C ∈ w'.hd := by rw [ed.hd]; exact List.mem_cons_self
  have no_end : ∀ {r : RE D}, r = .no → End X.K X.mg (fun w H => Rp X.K X.mg w H) w1 H1 r Q (fun c od H' => W c od σ H') → False := fun e h => by rw [e] at h; exact h
  cases hd : items.drop i with
  | nil =>
    rw [hd] at hr0
    unfold compL at hr0
    unfold gchk at hr0
    split at hr0
    · rename_i gd1
      have hl : items.length ≤ i := List.drop_eq_nil_iff.mp hd
      refine .inl ⟨(J1 w' S' H' ed.mv s' gd1).1 i hl, ?_⟩
      have hout : some C ∉ w'.φ := (s'.ap C hCin).2
      have hnh : C ∉ w1.hd := fun z => (s1.ap C z).1 hC
      have mv := Mv.show (H := H') ed.hd
      have s3 := s'.show ed.hd ⟨xs, hx⟩
      have ra3 := RpL.mv mv _ _ ra
      subst hr0
      cases c with
      | false =>
        refine he ⟨w'.φ, w1.hd⟩ H' (.ref C) ed.done s3 ?_
        show Rp _ _ _ _ _ _
        unfold Rp
        exact ⟨C, xs, rfl, hx, ⟨hout, hnh⟩, ra3⟩
      | true =>
        -- the new list becomes a cell
        have ph : ∀ (n : Nat) a, (w'.φ ++ [some C])[n]? = some (some a) → (w'.φ[n]? = some (some a) ∧ n < w'.φ.length) ∨ (n = w'.φ.length ∧ a = C) := fun n a hk => by
          by_cases hl : n < w'.φ.length
          · rw [List.getElem?_append_left hl] at hk; exact .inl ⟨hk, hl⟩
          · have hl' : w'.φ.length ≤ n := Nat.le_of_not_lt hl
            rw [List.getElem?_append_right hl'] at hk
            have : n - w'.φ.length = 0 := by
              cases e : n - w'.φ.length with
              | zero => rfl
              | succ j => rw [e] at hk; simp at hk
            rw [this] at hk; simp at hk
            exact .inr ⟨by omega, hk.symm⟩
        have mv2 : Mv w' H' ⟨w'.φ ++ [some C], w1.hd⟩ H' := ⟨fun a o h n => by
          have hne : a ≠ C := fun z => by subst z; exact n.2 hCin
          refine ⟨h, fun z => ?_, fun z => n.2 (by rw [ed.hd]; exact List.mem_cons_of_mem _ z)⟩
          rcases List.mem_append.mp (show some a ∈ w'.φ ++ [some C] from z) with z | z
          · exact n.1 z
          · simp at z; exact hne z, by show _ ≤ (w'.φ ++ [some C]).length; rw [List.length_append]; omega, fun n a h l => by
          rcases ph n a h with z | z
          · exact z.1
          · omega⟩
        have ex2 : Ext w1 H1 ⟨w'.φ ++ [some C], w1.hd⟩ H' := ⟨ed.done.fr, Nat.le_trans ed.ln mv2.ln, fun n a h l => by
          rcases ph n a h with z | z
          · exact ed.ph n a z.1 l
          · have := ed.ln; omega, fun a h => by
          rcases List.mem_append.mp (show some a ∈ w'.φ ++ [some C] from h) with z | z
          · exact ed.nw a z
          · simp at z; subst z; exact .inr hC, rfl⟩
        have ra4 := RpL.mv mv2 _ _ ra
        have s4 : Sto X.K X.mg ⟨w'.φ ++ [some C], w1.hd⟩ (S' ++ [.lst acc]) H' := by
          refine ⟨by show (w'.φ ++ [some C]).length = _; rw [List.length_append, List.length_append, s'.len]; rfl, fun m n a q1 q2 => ?_, fun a ha => ⟨(s3.ap a ha).1, fun z => ?_⟩, fun n cc hc => ?_⟩
          · rcases ph m a q1 with ⟨z1, z2⟩ | ⟨z1, z2⟩ <;> rcases ph n a q2 with ⟨y1, y2⟩ | ⟨y1, y2⟩
            · exact s'.nd m n a z1 y1
            · subst y2; exact absurd (List.mem_of_getElem? z1) hout
            · subst z2; exact absurd (List.mem_of_getElem? y1) hout
            · omega
          · rcases List.mem_append.mp (show some a ∈ w'.φ ++ [some C] from z) with z | z
            · exact (s3.ap a ha).2 z
            · simp at z; subst z; exact hnh ha
          · by_cases hl : n < S'.length
            · rw [List.getElem?_append_left hl] at hc
              have c0 := s'.cell n cc hc
              have gl : (w'.φ ++ [some C])[n]? = w'.φ[n]? := List.getElem?_append_left (s'.len ▸ hl)
              unfold CellR at c0 ⊢
              split at c0
              · obtain ⟨b, ys, h2, h3, h4⟩ := c0; exact ⟨b, ys, by rw [← gl] at h2; exact h2, h3, RpL.mv mv2 _ _ h4⟩
              · obtain ⟨b, ys, o', h2, h3, h4⟩ := c0; exact ⟨b, ys, o', by rw [← gl] at h2; exact h2, h3, RpL.mv mv2 _ _ h4⟩
              · rw [← gl] at c0; exact c0
              · obtain ⟨c1, P, ht, t1, t2⟩ := c0; exact ⟨c1, P, ht, by rw [gl]; exact t1, TabW.mv mv2 rfl t2⟩
              · obtain ⟨y1, y2, y3, ⟨φ, y4, y6⟩, y5⟩ := c0
                refine ⟨by rw [gl]; exact y1, ?_, fun z => ?_, ⟨φ, y4, y6⟩, y5⟩
                · rw [ed.hd] at y2
                  rcases List.mem_cons.mp y2 with z | z
                  · rw [z, hx] at y4; cases y4
                  · exact z
                · rcases List.mem_append.mp (show some sysModules ∈ w'.φ ++ [some C] from z) with z | z
                  · exact y3 z
                  · simp at z; rw [z, hx] at y4; cases y4
              · exact ⟨by rw [gl]; exact c0.1, EnvR.mv mv2 c0.2⟩
              · obtain ⟨b, C1, dx, vs', h2, h3, h4, h5, h6⟩ := c0; exact ⟨b, C1, dx, vs', by rw [gl]; exact h2, h3, h4, h5, RpL.mv mv2 _ _ h6⟩
            · have hl' : S'.length ≤ n := Nat.le_of_not_lt hl
              rw [List.getElem?_append_right hl'] at hc
              have e0 : n - S'.length = 0 := by
                cases e : n - S'.length with
                | zero => rfl
                | succ j => rw [e] at hc; simp at hc
              rw [e0] at hc; simp at hc; subst hc
              have en' : n = w'.φ.length := by rw [s'.len]; omega
              subst en'
              exact ⟨C, xs, by show (w'.φ ++ [some C])[w'.φ.length]? = _; rw [List.getElem?_append_right (Nat.le_refl _), Nat.sub_self]; rfl, hx, ra4⟩
        refine he ⟨w'.φ ++ [some C], w1.hd⟩ H' (.ref C) ex2 s4 ?_
        show Rp _ _ _ _ _ _
        unfold Rp
        refine ⟨by show S'.length < (w'.φ ++ [some C]).length; rw [List.length_append, s'.len]; exact Nat.lt_succ_self _, fun a ha => ?_⟩
        have ha' : (w'.φ ++ [some C])[S'.length]? = some (some a) := ha
        rw [← s'.len, List.getElem?_append_right (Nat.le_refl _), Nat.sub_self] at ha'
        simp at ha'; rw [ha']
    · exact (no_end hr0.symm he).elim
  | cons d r =>
    rw [hd] at hr0
    unfold compL at hr0
    unfold gchk at hr0
    split at hr0
    · rename_i gd1
      have hi' : items[i]? = some d := by
        have := congrArg (·[0]?) hd
        simpa using this
      have hr : items.drop (i + 1) = r := by
        have := congrArg List.tail hd
        simpa using this
      have hlt : i < items.length := (List.getElem?_eq_some_iff.mp hi').1
      obtain ⟨j1, j2⟩ := (J1 w' S' H' ed.mv s' gd1).2 i d hi'
      refine .inr ⟨j1, fun H2 => ∃ acc2 S2, G H2 acc2 S2 (compL g tt te gu (wipeR ρ vs) r acc2 S2), fun H2 ⟨acc2, S2, z⟩ => ⟨m - 1, by omega, acc2, S2, by omega, by rw [hr]; exact z⟩, ?_⟩
      intro x H'' hy
      obtain ⟨j3, j4, j5⟩ := j2 x H'' hy
      have enw' : EnvR X.K X.mg w' H'' (wipeR ρ vs) (wipe σ vs) := (enw.mv ed.mv).ext j3
      refine ⟨w', wipeR ρ vs, S', d, j4, enw', j5, ?_⟩
      split at hr0
      · rename_i ρ1 S1' hg1
        rw [hg1]
        intro w2 H2 σ2 e2 s2 en2 k2 l2
        have hw : wipe σ2 vs = wipe σ vs := by
          rw [← wipe_wipe σ vs]
          exact wipe_eq l2 fun i hi => k2 i (fun z => hi (hsl i z))
        refine ⟨hw, w2, ρ1, S1', s2, en2, ?_⟩
        have ed2 : ExtD C w1 H1 w2 H2 := (ed.step j3).step e2
        split at hr0
        · rename_i S2' ht
          rw [ht]
          intro w3 H3 b e3 s3 hb
          cases hb
          rw [if_pos rfl]
          refine ⟨w3, ρ1, S2', s3, en2.ext e3, ?_⟩
          split at hr0
          · rename_i y S3' hy'
            rw [hy']
            intro w4 H4 u e4 s4 r4
            have ed4 : ExtD C w1 H1 w4 H4 := (ed2.step e3).step e4
            have hC4 : C ∈ w4.hd := by rw [ed4.hd]; exact List.mem_cons_self
            have exx : Ext w' H' w4 H4 := ((j3.trans e2).trans e3).trans e4
            have hx4 : H4 C = some (.lst xs) := exx.fr C _ hx (s'.ap C hCin).2
            have ra4 := RpL.ext exx _ _ ra
            split at hr0
            · rename_i hlen
              refine ⟨xs, hx4, by rw [← ra.length]; exact hlen, acc ++ [y], S3', w4, xs ++ [u], ed4.poke, s4.poke hC4 ⟨xs, hx4⟩, upd_same, ?_, _, hr0, he⟩
              exact (RpL.mv (Mv.poke hC4) _ _ ra4).append (RpL.one (Rp.mv (Mv.poke hC4) _ _ r4))
            · exact (no_end hr0.symm he).elim
          · exact (no_end hr0.symm he).elim
        · rename_i S2' ht
          rw [ht]
          intro w3 H3 b e3 s3 hb
          cases hb
          rw [if_neg (by decide)]
          have exx : Ext w' H' w3 H3 := (j3.trans e2).trans e3
          exact ⟨acc, S2', w3, xs, ed2.step e3, s3, exx.fr C _ hx (s'.ap C hCin).2, RpL.ext exx _ _ ra, _, hr0, he⟩
        · exact (no_end hr0.symm he).elim
      · exact (no_end hr0.symm he).elim
    · exact (no_end hr0.symm he).elim
theorem q_lc {c : Bool} (hc : X.calm = true) (hN : X.N.Nodup) (hi : PI X tg iter (tI X W fi)) (ok : BlkOk X.N X.env.scope scope own) (hsl : ∀ i ∈ sl, i ∈ own.map (·.2))
    (hg : ∀ (s : Shared) (H : Hp) (C : Addr) (cl : List (Str × Addr)) (fp : List Addr), PG (X.blk s H scope (compEnvC scope cl C X.env) fp) tg (tG (X.blk s H scope (compEnvC scope cl C X.env) fp) sl g)) (ht : ∀ (s : Shared) (H : Hp) (C : Addr) (cl : List (Str × Addr)) (fp : List Addr), PTs (X.blk s H scope (compEnvC scope cl C X.env) fp) ifs (tT (X.blk s H scope (compEnvC scope cl C X.env) fp) W0 tt))
    (he : ∀ (s : Shared) (H : Hp) (C : Addr) (cl : List (Str × Addr)) (fp : List Addr), PE (X.blk s H scope (compEnvC scope cl C X.env) fp) elt (tF (X.blk s H scope (compEnvC scope cl C X.env) fp) W0 te)) (hs : ∀ x, foldedSetIterable iter X.env x = pure x := by intro _; rfl) :
    PE X (.ListComp elt [⟨tg, iter, ifs, 0⟩] scope pos) (tF X W (fLc c fi g tt te (own.map (·.2)))) :=
  PE.wk (pe_lc (g := tG X sl g) (tt := tT X W0 tt) (te := tF X W0 te) hc hN hi ok hg ht he hs) fun σ H Q h => lc_core' hsl h
theorem q_setLc {c : Bool} {i : Nat} {y : Str} {py spos : Pos} (hc : X.calm = true) (hN : X.N.Nodup) (hy : X.N[i]? = some y) (hyl : X.env.scope.names.lookup y = some .local)
    (hsw : swapsWith (.ListComp elt [⟨tg, iter, ifs, 0⟩] scope pos) (some (.Name y py)) spos.line X.env = pure true) (hi : PI X tg iter (tI X W fi)) (ok : BlkOk X.N X.env.scope scope own) (hsl : ∀ i ∈ sl, i ∈ own.map (·.2))
    (hg : ∀ (s : Shared) (H : Hp) (C : Addr) (cl : List (Str × Addr)) (fp : List Addr), PG (X.blk s H scope (compEnvC scope cl C X.env) fp) tg (tG (X.blk s H scope (compEnvC scope cl C X.env) fp) sl g)) (ht : ∀ (s : Shared) (H : Hp) (C : Addr) (cl : List (Str × Addr)) (fp : List Addr), PTs (X.blk s H scope (compEnvC scope cl C X.env) fp) ifs (tT (X.blk s H scope (compEnvC scope cl C X.env) fp) W0 tt))
    (he : ∀ (s : Shared) (H : Hp) (C : Addr) (cl : List (Str × Addr)) (fp : List Addr), PE (X.blk s H scope (compEnvC scope cl C X.env) fp) elt (tF (X.blk s H scope (compEnvC scope cl C X.env) fp) W0 te)) (hs : ∀ x, foldedSetIterable iter X.env x = pure x := by intro _; rfl) :
    PS X (.Assign [.Name y py] (.ListComp elt [⟨tg, iter, ifs, 0⟩] scope pos) spos) (tS X W (sSet i (fLc c fi g tt te (own.map (·.2))))) :=
  PS.wk (ps_setLc (g := tG X sl g) (tt := tT X W0 tt) (te := tF X W0 te) hc hN hy hyl hsw hi ok hg ht he hs) fun D σ H ⟨w, ρ, S, s, en, h⟩ => by
    refine lc_core' (Q := fun x H1 => gName i x σ H1 D.nx) hsl ⟨w, ρ, S, s, en, (h.of (R := fun w H => Rp X.K X.mg w H) en).imp (fun v H1 ⟨w1, S1, d, e1, s1, r1, h1⟩ => h1.nx' s1 ((en.ext e1).set r1)) (fun _ _ _ z => z)⟩
end
end Kw

/-! Kw7: names of the module, raise and try, the ends. -/
namespace Kw
open PySem PySem.Spec PyProof.Rows L2

/-! ### constants of the module -/
/-- a constant's value -/
def CV (d : D) (v : V) : Prop := match d with
  | .int i => v = .int i
  | .str z => v = .str z
  | _ => False
theorem CV.rp {K : PySem.W.Frag} {mg : Str → Option Value} {w : Wd} {H : Hp} {d : D} {v : V} (h : CV d v) : Rp K mg w H d v := by
  cases d <;> first | (exact h.elim) | (have h' := h; unfold CV at h'; subst h'; unfold Rp; rfl)
/-- the name x holds the constant d -/
def GC (mg : Str → Option Value) (x : Str) (d : D) : Prop := ∃ v u, mg x = some u ∧ RelV v u ∧ CV d v
/-- .. a dict with text keys and constants -/
def GD (K : PySem.W.Frag) (P : Params) (mg : Str → Option Value) (x : Str) (kvs : List (Str × D)) : Prop :=
  ∃ a es n, mg x = some (.ref a) ∧ K.lookup a = some ⟨.type "dict", none, .dict es n, #[]⟩ ∧ PySem.W.KeysLit P es.toList ∧ (a == sysModules) = false ∧
    ∀ z, match kvs.lookup z with
      | some d => ∃ u v, PySem.W.nsIn K a z = some (some u) ∧ RelV v u ∧ CV d v
      | none => PySem.W.nsIn K a z = some none
/-- .. a tuple of whole numbers -/
def GT (K : PySem.W.Frag) (mg : Str → Option Value) (x : Str) (ns : List Int) : Prop :=
  ∃ a o its n, mg x = some (.ref a) ∧ K.lookup a = some o ∧ o.cls = .type "tuple" ∧ o.data = .seq its n ∧ its.size ≤ sizeLine ∧ Vals (ns.map V.int) its.toList
inductive Ents : List DictEntry → List (Str × D) → Prop
  | nil : Ents [] []
  | cons {h : Int} {k : Str} {t : Tok} {u : Value} {v : V} {d : D} {es : List DictEntry} {kvs : List (Str × D)} (r : RelV v u) (c : CV d v) (rest : Ents es kvs) : Ents (⟨h, .str k t, u⟩ :: es) ((k, d) :: kvs)
theorem Ents.find {es : List DictEntry} {kvs : List (Str × D)} (e : Ents es kvs) (z : Str) : match kvs.lookup z with
      | some d => ∃ en v, es.find? (·.key.isStr z) = some en ∧ RelV v en.val ∧ CV d v
      | none => es.find? (·.key.isStr z) = none := by
  induction e with
  | nil => rfl
  | @cons h k t u v d es kvs r c rest ih =>
    by_cases hz : z = k
    · subst hz
      have e1 : List.lookup z ((z, d) :: kvs) = some d := by simp [List.lookup]
      rw [e1]
      refine ⟨⟨h, .str z t, u⟩, v, ?_, r, c⟩
      rw [List.find?_cons_of_pos]
      simp [PySem.W.isStr_of, Value.isStrOf]
    · have e1 : List.lookup z ((k, d) :: kvs) = List.lookup z kvs := by
        have : (z == k) = false := by simpa using hz
        simp [List.lookup, this]
      rw [e1]
      have e2 : List.find? (·.key.isStr z) ((⟨h, .str k t, u⟩ : DictEntry) :: es) = List.find? (·.key.isStr z) es := by
        rw [List.find?_cons_of_neg]
        simp [PySem.W.isStr_of, Value.isStrOf]
        exact fun q => hz q.symm
      rw [e2]; exact ih
theorem Ents.noRef {es : List DictEntry} {kvs : List (Str × D)} (e : Ents es kvs) : es.any (·.refKey) = false := by
  induction e with
  | nil => rfl
  | cons r c rest ih => rw [List.any_cons, ih]; rfl
theorem GD.of {K : PySem.W.Frag} {P : Params} {mg : Str → Option Value} {x : Str} {kvs : List (Str × D)} {a : Addr} {es : Array DictEntry} {n : Nat} (m : mg x = some (.ref a)) (l : K.lookup a = some ⟨.type "dict", none, .dict es n, #[]⟩) (k : PySem.W.KeysLit P es.toList) (s : (a == sysModules) = false) (e : Ents es.toList kvs) : GD K P mg x kvs := by
  refine ⟨a, es, n, m, l, k, s, fun z => ?_⟩
  have f := e.find z
  have u : PySem.W.nsIn K a z = match es.toList.find? (·.key.isStr z) with
      | some e => some (some e.val)
      | none => if es.toList.any (·.refKey) then none else some none := by unfold PySem.W.nsIn; rw [l]; rfl
  split at f
  · obtain ⟨en, v, f1, f2, f3⟩ := f
    exact ⟨en.val, v, by rw [u, f1], f2, f3⟩
  · rw [u, f, e.noRef]; rfl
theorem RpL.ints {K : PySem.W.Frag} {mg : Str → Option Value} {w : Wd} {H : Hp} : ∀ ns : List Int, RpL K mg w H (ns.map D.int) (ns.map V.int)
  | [] => RpL.nil
  | i :: r => RpL.cons (by unfold Rp; rfl) (RpL.ints r)
def gInG (neg : Bool) (n : Str) (kvs : List (Str × D)) (x y : D) (S : Store) : RE D := match x, y with
  | .str z, .glo m => if m = n then .ok (.bl (xor neg (kvs.lookup z).isSome)) S else .no
  | _, _ => .no
def gIxG (n : Str) (kvs : List (Str × D)) (x y : D) (S : Store) : RE D := match x, y with
  | .glo m, .str z => if m = n then (match kvs.lookup z with
    | some d => .ok d S
    | none => .no) else .no
  | _, _ => .no
def gNeg (x : D) (S : Store) : RE D := match x with
  | .int i => .ok (.int (-i)) S
  | _ => .no
section
variable {X : Cx} {W : WX} {a b e : Expr} {es : List Expr} {fa fb : FE} {fs : FA} {pos : Pos} {x : Str} {kvs : List (Str × D)} {d : D}
theorem q_gc (h : GC X.mg x d) (hg : Gl X x) (hd : (x == ("__debug__" : Str)) = false := by decide) : PE X (.Name x pos) (tF X W (fC d)) := by
  obtain ⟨v, u, m, r, c⟩ := h
  exact q_const (fun w H => c.rp) (pe_glob hg m r hd)
theorem q_gd (h : GD X.K X.w.params X.mg x kvs) (hg : Gl X x) (hd : (x == ("__debug__" : Str)) = false := by decide) : PE X (.Name x pos) (tF X W (fC (.glo x))) := by
  obtain ⟨a, es, n, m, _⟩ := h
  exact q_const (v := .ref a) (fun w H => by unfold Rp; exact ⟨a, rfl, m⟩) (pe_glob hg m rfl hd)
theorem q_gt {ns : List Int} (h : GT X.K X.mg x ns) (hg : Gl X x) (hd : (x == ("__debug__" : Str)) = false := by decide) : PE X (.Name x pos) (tF X W (fC (.tup (ns.map .int)))) := by
  obtain ⟨a, o, its, n, m, h1, h2, h3, h4, h5⟩ := h
  refine q_const (v := .ref a) (fun w H => ?_) (pe_glob hg m rfl hd)
  unfold Rp
  refine ⟨a, ns.map V.int, rfl, .inr ⟨o, its, n, h1, h2, h3, h4, h5⟩, ?_⟩
  exact RpL.ints ns
theorem op_inG {neg : Bool} {op : CmpOp} (ho : op = if neg then .NotIn else .In) (h : GD X.K X.w.params X.mg x kvs) : ∃ r, OpR X (compareOp op) r ∧ OpV X.K X.mg r (gInG neg x kvs) := by
  obtain ⟨a, es, n, m, l, k, s, f⟩ := h
  have D : KDict X.K X.w a es n := ⟨l, k, s⟩
  have key : ∀ z, PySem.W.nsIn X.K a z = some (match kvs.lookup z with
      | some d => PySem.W.nsIn X.K a z |>.getD none
      | none => none) ∧ ((match kvs.lookup z with
      | some d => PySem.W.nsIn X.K a z |>.getD none
      | none => none).isSome = (kvs.lookup z).isSome) := fun z => by
    have fz := f z
    split at fz
    · rename_i d hd
      obtain ⟨u, v, f1, _, _⟩ := fz
      rw [hd, f1]; exact ⟨rfl, rfl⟩
    · rename_i hd
      rw [hd]; exact ⟨fz, rfl⟩
  have body : ∀ (w : Wd) (S : Store) (H : Hp) (x' y : V) (d e : Kw.D) (Q : VK) (E : Value → Option Addr → Hp → Prop), Sto X.K X.mg w S H → Rp X.K X.mg w H d x' → Rp X.K X.mg w H e y → End X.K X.mg (fun w H => Rp X.K X.mg w H) w H (gInG neg x kvs d e S) Q E → ∃ (z : Str) (r : Option Value), x' = .str z ∧ y = .ref a ∧ PySem.W.nsIn X.K a z = some r ∧ Q (.bl (xor neg r.isSome)) H := by
    intro w S H x' y d e Q E st r1 r2 h
    cases d <;> cases e <;> simp only [gInG] at h <;> try exact h.elim
    rename_i z m'
    split at h
    · rename_i em
      subst em
      unfold Rp at r2
      obtain ⟨b, e1, e2⟩ := r2
      rw [m] at e2; cases e2
      obtain ⟨k1, k2⟩ := key z
      exact ⟨z, _, rp_str r1, e1, k1, by rw [k2]; exact h.ret st rp_b⟩
    · exact h.elim
  cases neg with
  | false =>
    subst ho
    refine ⟨_, op_in_kd D, fun w S H x' y d e Q E st r1 r2 h => ?_⟩
    obtain ⟨z, r, h1, h2, h3, h4⟩ := body w S H x' y d e Q E st r1 r2 h
    exact ⟨z, r, h1, h2, h3, by simpa using h4⟩
  | true =>
    subst ho
    refine ⟨_, op_notIn_kd D, fun w S H x' y d e Q E st r1 r2 h => ?_⟩
    obtain ⟨z, r, h1, h2, h3, h4⟩ := body w S H x' y d e Q E st r1 r2 h
    exact ⟨z, r, h1, h2, h3, by simpa using h4⟩
theorem q_inG (h : GD X.K X.w.params X.mg x kvs) (ha : PE X a (tF X W fa)) (hb : PE X b (tF X W fb)) (hm : behindInMarks .In b = false := by rfl) : PE X (.Compare a [.In] [b] pos) (tF X W (f2 (gInG false x kvs) fa fb)) := by
  obtain ⟨r, h1, h2⟩ := op_inG (neg := false) (op := .In) rfl h
  exact q_cmp h1 h2 ha hb hm
theorem qt_inG (h : GD X.K X.w.params X.mg x kvs) (ha : PE X a (tF X W fa)) (hb : PE X b (tF X W fb)) (hm : behindInMarks .In b = false := by rfl) : PT X (.Compare a [.In] [b] pos) (tT X W (fB (f2 (gInG false x kvs) fa fb))) := by
  obtain ⟨r, h1, h2⟩ := op_inG (neg := false) (op := .In) rfl h
  exact qt_cmp h1 h2 ha hb hm
theorem q_ninG (h : GD X.K X.w.params X.mg x kvs) (ha : PE X a (tF X W fa)) (hb : PE X b (tF X W fb)) (hm : behindInMarks .NotIn b = false := by rfl) : PE X (.Compare a [.NotIn] [b] pos) (tF X W (f2 (gInG true x kvs) fa fb)) := by
  obtain ⟨r, h1, h2⟩ := op_inG (neg := true) (op := .NotIn) rfl h
  exact q_cmp h1 h2 ha hb hm
theorem qt_ninG (h : GD X.K X.w.params X.mg x kvs) (ha : PE X a (tF X W fa)) (hb : PE X b (tF X W fb)) (hm : behindInMarks .NotIn b = false := by rfl) : PT X (.Compare a [.NotIn] [b] pos) (tT X W (fB (f2 (gInG true x kvs) fa fb))) := by
  obtain ⟨r, h1, h2⟩ := op_inG (neg := true) (op := .NotIn) rfl h
  exact qt_cmp h1 h2 ha hb hm
theorem q_ixG (h : GD X.K X.w.params X.mg x kvs) (ha : PE X a (tF X W fa)) (hb : PE X b (tF X W fb)) (hs : PlainIx b := by intro _ _; rfl) : PE X (.Subscript a b pos) (tF X W (f2 (gIxG x kvs) fa fb)) := by
  obtain ⟨p, es, n, m, l, k, s, f⟩ := h
  refine PE.wk (pe_ix ix_kdict ha hb hs) fun σ H Q h0 => two (fun w S H x' y d e Q E st r1 r2 h => ?_) h0
  cases d <;> cases e <;> simp only [gIxG] at h <;> try exact h.elim
  rename_i m' z
  split at h
  · rename_i em
    clear h0
    subst em
    split at h
    · rename_i d hd
      have fz := f z
      rw [hd] at fz
      obtain ⟨u, v, f1, f2, f3⟩ := fz
      unfold Rp at r1
      obtain ⟨b, e1, e2⟩ := r1
      rw [m] at e2; cases e2
      exact ⟨p, z, v, e1, rp_str r2, ⟨es, n, u, l, k, f1, f2⟩, h.ret st f3.rp⟩
    · exact h.elim
  · exact h.elim
theorem q_neg (ha : PE X a (tF X W fa)) : PE X (.UnaryOp .USub a pos) (tF X W (f1 gNeg fa)) := PE.wk (pe_un un_neg ha) fun σ H Q ⟨w, ρ, S, s, en, h⟩ =>
  ⟨w, ρ, S, s, en, (End.bind (R := fun w H => Rp X.K X.mg w H) h).imp (fun v H1 ⟨w1, S1, d, e1, s1, r1, h1⟩ => by
    cases d <;> simp only [gNeg] at h1 <;> try exact h1.elim
    exact ⟨_, rp_int r1, h1.ret s1 rp_i⟩) (fun _ _ _ z => z)⟩
/-- s.index(t) -/
def fStrIx (a : FE) (b : FE) : FE := fun ρ S => (a ρ S).bnd fun x S1 => match x with
  | .str z => (b ρ S1).bnd fun y S2 => (match y with
    | .str t => (match Txt.index0 z t with
      | some k => .ok (.int (k : Nat)) S2
      | none => .no)
    | _ => .no)
  | _ => .no
theorem q_strIx {apos cpos : Pos} (hc : X.calm = true) (tk : Takes X W) (ho : PE X a (tF X W fa)) (hb : PE X b (tF X W fb))
    (hs1 : starEach [b] X.env = (false, eval b X.env) :: starEach [] X.env := by rfl)
    (hbase : attributeBase a "index" X.env (eval a X.env) = eval a X.env := by rfl)
    (hfew : ((backTo cpos (starEach [b] X.env)).all (fun x => !x.1) && (backToKw cpos (keywordEach [] X.env)).all (fun x => x.1.isSome)
      && decide (([b] : List Expr).length + ([] : List Keyword).length + (if ([] : List Keyword).isEmpty then 0 else 1) < 30)) = true := by rfl)
    (hline : (apos.endLine == cpos.line) = true := by rfl) (hplain : (backTo cpos (starEach [] X.env)).any (·.1) = false := by rfl) : PE X (.Call (.Attribute a "index" apos) [b] [] cpos) (tF X W (fStrIx fa fb)) :=
  PE.wk (pe_bmS PySem.F.plainAttrs_str PySem.F.slot_str_index PySem.F.type_str_index (mt_indexX hc tk) ho (pa_cons hb pa_nil hs1) hbase hfew hline hs1 hplain) fun σ H Q ⟨w, ρ, S, s, en, h⟩ => by
    refine ⟨w, ρ, S, s, en, (End.bind (R := fun w H => Rp X.K X.mg w H) h).imp ?_ (fun _ _ _ z => z)⟩
    rintro v H1 ⟨w1, S1, d, e1, s1, r1, h1⟩
    cases d <;> try exact h1.elim
    rename_i z
    refine ⟨by rw [rp_str r1]; rfl, w1, ρ, S1, s1, en.ext e1, (End.bind (R := fun w H => Rp X.K X.mg w H) h1).imp ?_ (fun _ _ _ z => z)⟩
    rintro u H2 ⟨w2, S2, d2, e2, s2, r2, h2⟩
    cases d2 <;> try exact h2.elim
    rename_i t
    simp only at h2
    split at h2
    · rename_i k hk
      refine ⟨z, t, rp_str r1, by rw [rp_str r2], fun k' hk' => ?_, fun hn => ?_⟩
      · rw [hk] at hk'; cases hk'
        exact h2.ret s2 rp_i
      · rw [hk] at hn; cases hn
    · exact h2.elim
end

/-! ### raise, try -/
def ExcF (K : PySem.W.Frag) (mg : Str → Option Value) (x : Str) : Prop := ∃ C, mg x = some (.ref C) ∧ PySem.W.excIn K C [.type "ValueError", .type "Exception", .type "BaseException", .type "object"] "ValueError.__new__" = true ∧
  PySem.W.keepIn K (.ref C) = true ∧ PySem.W.subIn K (.ref C) (.type "BaseException") = some true ∧ PySem.W.typeIn K (.ref C) = some (.type "type")
def sRaise (x : Str) : FS := fun ρ S => .ex ⟨x, [], []⟩ ρ S
def RS.noX (r : RS) : RS := match r with
  | .ex _ _ _ => .no
  | r => r
/-- es: the classes that may come; sub: those that the clause names -/
def sTry (es : List Str) (sub : Str → Bool) (b c : FS) : FS := fun ρ S => match b ρ S with
  | .ex x ρ' S' => if x.cls ∈ es then (if sub x.cls then (c ρ' S').noX else .ex x ρ' S') else .no
  | r => r
section
variable {X : Cx} {W : WX} {x m : Str} {j : Nat} {p p2 pos pos' : Pos}
theorem q_raise (hc : X.calm = true) (tk : Takes X W) (h : ExcF X.K X.mg x) (hg : Gl X x) (hdb : (x == ("__debug__" : Str)) = false := by decide) : PS X (.Raise (some (.Call (.Name x p) [.Constant (.str m) j p2] [] pos)) none pos') (tS X W (sRaise x)) := by
  obtain ⟨C, gC, xC, kC, bC, tC⟩ := h
  refine PS.wk (ps_raise hc tk (pmk_own PySem.F.excBase_ValueError xC gC kC (raises_own bC tC) hg hdb)) fun D σ H ⟨w, ρ, S, s, en, h⟩ => ?_
  exact h w H σ (.ref C) none Ext.refl s en ⟨gC, .inl ⟨rfl, rfl, rfl⟩⟩
theorem q_try {body suite : List Stmt} {b₀ : Stmt} {np : Pos} {es : List Str} {sub : Str → Bool} {fb fc : FS} {c : Value} (hs : X.stack = X.env :: X.outer) (hf : X.env.frame = some X.env.locals) (hc : Names X x c) (tk : Takes X W)
    (hx : ∀ y ∈ es, ∀ cy, X.mg y = some cy → PySem.W.exmOne X.K cy c = some (sub y))
    (hb : ∀ (W' : WX) (pn : List (Addr × Obj)) (xe : Value → Shared → Prop), Takes (X.tr pn xe) W' → PassesOwn (model X.prog X.w) X.A X.env xe → PSs (X.tr pn xe) body (tS (X.tr pn xe) W' fb))
    (hsu : ∀ (a : Addr) (pn : List (Addr × Obj)), PSs (X.suite a pn) (b₀ :: suite) (tS (X.suite a pn) W0 fc)) :
    PS X (.Try body [.ExceptHandler (some (.Name x np)) none (b₀ :: suite) pos'] [] [] pos) (tS X W (sTry es sub fb fc)) := by
  refine PS.wk (ps_try_only (tb := fun W' => tS X W' fb) (ts := fun a cls d => tS X W0 fc) (Wout := W) hs hf hc tk (fun W' pn xe t o => hb W' pn xe t o) (fun a oe cls d pn _ _ => hsu a _)) fun D σ H ⟨w, ρ, S, s, en, h⟩ => ?_
  refine ⟨w, ρ, S, s, en, ?_⟩
  unfold sTry at h
  cases hbb : fb ρ S with
  | ex y ρ' S' =>
    rw [hbb] at h
    simp only at h
    split at h
    · rename_i hm
      intro w' H' σ' cy od e s' en' ex
      obtain ⟨gy, hr⟩ := ex
      refine ⟨sub y.cls, hx _ hm _ gy, fun hs a na => ?_, fun hs => ?_⟩
      · rw [if_pos hs] at h
        refine ⟨w', ρ', S', s', en', ?_⟩
        have h2 := h.on e
        revert h2
        cases fc ρ' S' with
        | ex x2 ρ2 S2 => exact fun h2 => h2.elim
        | _ => exact fun h2 => h2
      · rw [if_neg (by rw [hs]; decide)] at h
        exact h w' H' σ' cy od e s' en' ⟨gy, hr⟩
    · exact h.elim
  | _ => rw [hbb] at h; exact h
end
end Kw

/-! Kw8: the ends. -/
namespace Kw
open PySem PySem.Spec PyProof.Rows L2

/-- the def x stands at the module's top -/
def TF (K : PySem.W.Frag) (mg : Str → Option Value) (x : Str) (st : Stmt) (ps : List Str) : Prop := ∃ f fd, Fun K x x st f fd ∧ mg x = some (.ref f) ∧ Binds K fd ps []
section
variable {K : PySem.W.Frag} {mg : Str → Option Value} {h : Heap}
theorem tf_mk {x : Str} {st : Stmt} {ps : List Str} {f : Addr} {oc : Value} {od an : Option Addr} {osl : Array (Option Value)} {kV doc pm cdv ct : Value} (X : K.In h) (G : h.Ns mainGlobals mg) (a : PySem.W.nsIn K mainGlobals x = some (some (.ref f)))
    (l : K.lookup f = some ⟨oc, od, .func (PySem.W.fnOf x x (defArgs st) (defBody st) (defScope st) .none kV doc pm an cdv ct), osl⟩) (c : PySem.W.codeIn K cdv x = true) (k : PySem.W.keepIn K (.ref f) = true)
    (hb : ∀ (kV doc pm : Value) (an : Option Addr) (cdv ct : Value) (us : List Value), us.length = ps.length → bindArgs (PySem.W.fnOf x x (defArgs st) (defBody st) (defScope st) .none kV doc pm an cdv ct) ⟨us, []⟩ = pure (ps.zip us)) : TF K mg x st ps :=
  ⟨f, _, fun_mk l c k, PySem.W.mg_of X G a, (fun_mk l c k).binds hb⟩
theorem bl_mk {x : Str} (X : K.In h) (G : h.Ns mainGlobals mg) (z : PySem.W.nsIn K mainGlobals x = some none) : mg x = none := PySem.W.mg_none_of X G z
theorem gc_int {x : Str} {i : Int} {t : Tok} (X : K.In h) (G : h.Ns mainGlobals mg) (z : PySem.W.nsIn K mainGlobals x = some (some (.int i t))) : GC mg x (.int i) := ⟨.int i, _, PySem.W.mg_of X G z, ⟨t, rfl⟩, rfl⟩
theorem gc_str {x : Str} {i : Str} {t : Tok} (X : K.In h) (G : h.Ns mainGlobals mg) (z : PySem.W.nsIn K mainGlobals x = some (some (.str i t))) : GC mg x (.str i) := ⟨.str i, _, PySem.W.mg_of X G z, ⟨t, rfl⟩, rfl⟩
theorem gd_mk {P : Params} {x : Str} {kvs : List (Str × D)} {a : Addr} {es : Array DictEntry} {n : Nat} (X : K.In h) (G : h.Ns mainGlobals mg) (z : PySem.W.nsIn K mainGlobals x = some (some (.ref a))) (l : K.lookup a = some ⟨.type "dict", none, .dict es n, #[]⟩) (k : PySem.W.KeysLit P es.toList) (s : (a == sysModules) = false) (e : Ents es.toList kvs) : GD K P mg x kvs :=
  GD.of (PySem.W.mg_of X G z) l k s e
theorem exc_mk {x : Str} {C : Addr} (X : K.In h) (G : h.Ns mainGlobals mg) (z : PySem.W.nsIn K mainGlobals x = some (some (.ref C))) (h1 : PySem.W.excIn K C [.type "ValueError", .type "Exception", .type "BaseException", .type "object"] "ValueError.__new__" = true)
    (h2 : PySem.W.keepIn K (.ref C) = true) (h3 : PySem.W.subIn K (.ref C) (.type "BaseException") = some true) (h4 : PySem.W.typeIn K (.ref C) = some (.type "type")) : ExcF K mg x := ⟨C, PySem.W.mg_of X G z, h1, h2, h3, h4⟩
end
section
variable {P : Program} {w : World} {K : PySem.W.Frag} {mg : Str → Option Value} {base : Heap}
theorem cal_zero {x : Str} {st : Stmt} {ps : List Str} (T : TF K mg x st ps) (hps : ps = (defArgs st).args.map (·.arg) := by rfl) : Cal P w K mg base 0 x (fun _ _ => .no) := by
  obtain ⟨f, fd, F, m, b⟩ := T
  exact ⟨f, fd, ps, ⟨fun vs H Q E ⟨w, S, ds, s, r, l, h⟩ => by rw [← r.length]; exact l, fun A outer s H args us vs Q E _ _ _ _ ⟨w, S, ds, st, r, l, h⟩ => h.elim⟩, m, F.kp, b, fun _ _ _ => rfl, hps.trans (fun_names F).symm, fun_look F⟩
theorem calB {x : Str} {st : Stmt} {N ps : List Str} {k : Nat} {b : FS} (T : TF K mg x st ps) (S : FnScope N ps (defScope st))
    (hb : ∀ (f : Addr) (cdv : Value) (A : Around) (outer : List Env) (s : Shared) (H : Hp) (E : XK), RoomG k (A.deeper (envOfC x (defScope st) s.heap.objs.size f cdv)) →
      PSs (cxOf (L2.CX P w) P w K mg base N x (defScope st) f cdv A outer s H E) (defBody st) (tS (cxOf (L2.CX P w) P w K mg base N x (defScope st) f cdv A outer s H E) (fun c d _ H => E c d H) b)) (hps : ps = (defArgs st).args.map (·.arg) := by rfl) :
    Cal P w K mg base (k + 1) x (fnB ps.length N.length b) := by
  obtain ⟨f, fd, F, m, bd⟩ := T
  exact cal_B F S m bd hps (hb f)
theorem calC {x : Str} {st : Stmt} {N ps : List Str} {k : Nat} {b : FS} (T : TF K mg x st ps) (S : FnScope N ps (defScope st))
    (hb : ∀ (f : Addr) (cdv : Value) (A : Around) (outer : List Env) (s : Shared) (H : Hp) (E : XK), RoomG k (A.deeper (envOfC x (defScope st) s.heap.objs.size f cdv)) →
      PSs (cxOf (L2.CX P w) P w K mg base N x (defScope st) f cdv A outer s H E) (defBody st) (tS (cxOf (L2.CX P w) P w K mg base N x (defScope st) f cdv A outer s H E) (fun c d _ H => E c d H) b)) (hps : ps = (defArgs st).args.map (·.arg) := by rfl) :
    Cal P w K mg base (k + 1) x (fnC ps.length N.length b) := by
  obtain ⟨f, fd, F, m, bd⟩ := T
  exact cal_C F S m bd hps (hb f)
end
theorem hu2 {A : Around} {k : Nat} (hr : RoomG k A) : A.units + 200 < cLine := by have := hr.rm.un; omega
/-- the law's own promise -/
def spLaw (K : PySem.W.Frag) : Sp := fun vs H Q _ => ∃ (a : Addr) (ns : List Int), vs = [.ref a] ∧ SqL K H a (ns.map V.int) ∧ ns.length ≤ 63 ∧ (∀ z ∈ ns, Builtin.Int.intBits z ≤ 1048576) ∧ Only H ∧ ∀ H', Q (.bl true) H'
section
variable {K : PySem.W.Frag} {mg : Str → Option Value}
theorem script_at {H : Hp} {a : Addr} {ns : List Int} (hO : Only H) (hS : SqL K H a (ns.map V.int)) : Rp K mg ⟨[], []⟩ H (.fls (ns.map .int)) (.ref a) := by
  unfold Rp
  refine ⟨a, _, rfl, ?_, RpL.ints ns⟩
  rcases hS with (h | ⟨o, h⟩) | h
  · rcases hO a with z | ⟨o, xs, z⟩
    · rw [z] at h; cases h
    · rw [z] at h; cases h
  · refine .inl ⟨o, h, ?_⟩
    show (¬ some a ∈ ([] : List (Option Addr))) ∧ ¬ a ∈ ([] : List Addr)
    constructor <;> simp
  · exact .inr h
theorem sto0 {H : Hp} : Sto K mg ⟨[], []⟩ [] H := ⟨rfl, fun m n a h => by simp at h, fun a h => (nomatch h), fun n c h => by simp at h⟩
theorem law_imp {F : FF} (hF : ∀ ns : List Int, ns.length ≤ 63 → (∀ z ∈ ns, Builtin.Int.intBits z ≤ 1048576) → ∃ S', F [.fls (ns.map .int)] [] = .ok (.bl true) S') : ∀ vs H Q E, spLaw K vs H Q E → spF K mg 1 F vs H Q E := by
  rintro vs H Q E ⟨a, ns, rfl, hS, hl, hb, hO, q⟩
  obtain ⟨S', e⟩ := hF ns hl hb
  refine ⟨⟨[], []⟩, [], [.fls (ns.map .int)], sto0, RpL.one (script_at hO hS), rfl, ?_⟩
  rw [e]
  intro w' H' v ex s r
  rw [rp_bl r]; exact q H'
/-- the heap in which nothing is told but the script -/
def scrO (vs : List Value) : Obj := { cls := .type "list", data := .seq vs.toArray }
def scrH (a : Addr) (vs : List Value) (ns : List Int) : Hp := fun b => if b = a then some (.frz (scrO vs) (.lst (ns.map V.int))) else none
theorem scr_look {P : Program} {w : World} {a : Addr} {s : Shared} {vs : List Value} {ns : List Int} (KX : K.In s.heap) (ha : s.heap.get? a = some (scrO vs)) (hi : IntsAre vs ns) (hl : ns.length ≤ 63) :
    ∃ H : Hp, Only H ∧ SqL K H a (ns.map V.int) ∧ HOk P w H s.heap ∧ (∀ b, H b ≠ none → b = a ∧ K.lookup b = none) := by
  have rv := vals_ints hi
  have hz : ns.length ≤ sizeLine := Nat.le_trans hl (by rw [sizeLine_eq]; decide)
  cases hk : K.lookup a with
  | some o =>
    have e := (KX a o hk).symm.trans ha
    cases e
    exact ⟨fun _ => none, fun _ => .inl rfl, .inr ⟨_, vs.toArray, _, hk, rfl, rfl, rfl, by rw [List.size_toArray, hi.length]; exact hz, by simpa using rv⟩, fun b u z => (nomatch z), fun b z => (z rfl).elim⟩
  | none =>
    refine ⟨scrH a vs ns, fun b => ?_, .inl (.inr ⟨scrO vs, if_pos rfl⟩), fun b u z => ?_, fun b z => ?_⟩
    · unfold scrH; split
      · exact .inr ⟨_, _, rfl⟩
      · exact .inl rfl
    · unfold scrH at z
      split at z
      · next e => cases z; subst e; exact ⟨ha, by rw [List.length_map]; exact hz, vs, _, rv, ha⟩
      · cases z
    · unfold scrH at z
      split at z
      · next e => exact ⟨e, e ▸ hk⟩
      · exact (z rfl).elim
theorem head_g {P : Program} {w : World} {mb : Str → Option Value} {k : Nat} {fa a : Addr} {fd : FuncData} {x : Str} {s : Shared} {vs : List Value} {ns : List Int} (KX : K.In s.heap) (gm : s.heap.Ns mainGlobals mg) (gb : s.heap.Ns builtinsNs mb)
    (boot : ∀ y : Str, y ≠ "__name__" → mb y = bootBuiltins y) (lim : s.heap.NoLimit) (ng : s.gens = #[]) (ha : s.heap.get? a = some (scrO vs)) (hi : IntsAre vs ns) (hl : ns.length ≤ 63) (hz : ∀ z ∈ ns, Builtin.Int.intBits z ≤ 1048576) (hr : RoomG k callerA)
    (F : ∀ base : Heap, K.In base → base.Ns mainGlobals mg → FnG P w K mg base k fa fd [x] (spLaw K)) (hbd : ∀ (s : Shared) (u : Value), BindsTo s fd ⟨[u], []⟩ [(x, u)]) (no : ∀ H e s', L2.CX P w [] H s (fun _ _ _ => False) e s' → False) :
    codeAny (model P w) callerA (.call (.ref fa) ⟨[.ref a], []⟩) (fun r s' => r = .ok (.ret (.bool true)) ∧ OldK s.heap s'.heap ∧ s'.os = s.os ∧ AllBare s'.gens) s := by
  obtain ⟨H, hO, hS, hok, hA⟩ := scr_look (P := P) (w := w) KX ha hi hl
  have un : ∀ {b : Addr} {o : Obj}, s.heap.get? b = some o → o ≠ scrO vs ∨ K.lookup b ≠ none → H b = none := fun {b o} g n => by
    apply Classical.byContradiction
    intro z
    obtain ⟨rfl, k0⟩ := hA b z
    rcases n with n | n
    · exact n (Option.some.inj (g.symm.trans ha))
    · exact n k0
  have nsT : ∀ {b : Addr} {m : Str → Option Value}, s.heap.Ns b m → (hidT s.heap H).Ns b m := fun {b m} ⟨o, es, ep, g, d, r⟩ => ⟨o, es, ep, hidT_get g (un g (.inl fun z => by rw [z] at d; exact nomatch d)), d, r⟩
  have kT : K.In (hidT s.heap H) := fun b o g => hidT_get (KX b o g) (un (KX b o g) (.inr fun z => by rw [g] at z; cases z))
  obtain ⟨mc, lim1, lim2⟩ := lim
  have e0 : Env0 P w K mg (hidT s.heap H) callerA [] s H := { frames := rfl, mod := ⟨kT, nsT gm, ⟨mb, nsT gb, boot⟩, ⟨mc, nsT lim1, lim2⟩⟩, bs := fun b o g => of_hidT g, bsz := Nat.le_of_eq (hidT_size _ _), funs := trivial, frf := fun b hb => (nomatch hb), hok := hok, bare := .of_eq ng }
  refine codeAny_mono ((F _ kT (nsT gm)).runs callerA [] s H ⟨[.ref a], []⟩ [.ref a] [.ref a] (fun v _ => v = .bl true) (fun _ _ _ => False) hr e0 (hbd s (.ref a)) (.cons rfl .nil) ⟨a, ns, rfl, hS, hl, hz, hO, fun _ => rfl⟩) fun r s' h => ?_
  match r, h with
  | .error e, h => exact (no H e s' h).elim
  | .ok .next, h => exact h.elim
  | .ok .brk, h => exact h.elim
  | .ok .cont, h => exact h.elim
  | .ok (.ret u), ⟨v, H', os, bare, ch, hok', rv, q⟩ =>
    have q' : v = .bl true := q
    subst q'
    obtain rfl : u = Value.bool true := rv
    refine ⟨rfl, OldK.of_keep fun b o g => ?_, os, bare⟩
    rcases hO b with z | ⟨ob, xs, z⟩
    · exact ch.keep b o g z (fun y => nomatch y) (fun y => nomatch y)
    · obtain ⟨g1, _⟩ := hok b _ z
      rw [g] at g1; cases g1
      exact (hok' b _ (ch.frzs b _ _ z)).1
theorem walk_g {l : PySem.W.OpenLaw} {k : Nat} {q : Program} {loose : List Str} {XP : (Str → Option Value) → Heap → Prop} {YP : World → Heap → Prop} {d : DefRec} {K : Params → PySem.W.Frag} {x : Str} (hn : l.most = some 63) (hdf : d.params.defaults = []) (hr : RoomG k callerA)
    (hY : ∀ (w : World) (h : Heap), YP w h → (K w.params).In h)
    (F : ∀ (w : World) (mg : Str → Option Value) (fa : Addr) (h : Heap), (K w.params).In h → h.Ns mainGlobals mg → mg d.name = some (.ref fa) →
      ∃ fd : FuncData, (∀ (s : Shared) (u : Value), BindsTo s fd ⟨[u], []⟩ [(x, u)]) ∧ ∀ base : Heap, (K w.params).In base → base.Ns mainGlobals mg → FnG l.prog w (K w.params) mg base k fa fd [x] (spLaw (K w.params)))
    (no : ∀ (w : World) (H : Hp) (s : Shared) (e : Value) (s' : Shared), L2.CX l.prog w [] H s (fun _ _ _ => False) e s' → False) : PySem.W.WalkO q loose XP YP l.row.toRowW d [] (fun f vs => PySem.call f vs) := by
  refine Att.attach_callB hn hdf fun w s0 s1 mg mb fa o pm cd doc a vs ns G Y ho hd hcd hmg hobj hints hlen hbits hg => ?_
  obtain ⟨fd, hbd, hF⟩ := F w mg fa _ (hY w _ Y) G.T.g hmg
  exact head_g (hY w _ Y) G.T.g G.T.b G.T.builtins G.T.nolimit hg hobj hints hlen hbits hr hF hbd (fun H e s' => no w H s1 e s')
/-- the law's def as the end wants it -/
theorem law_mk {P : Program} {w : World} {h : Heap} {k : Nat} {fa f : Addr} {x nm : Str} {st : Stmt} {N : List Str} {b : FS} {oc : Value} {od an : Option Addr} {osl : Array (Option Value)} {kV doc pm cdv ct : Value} (X : K.In h) (G : h.Ns mainGlobals mg) (hfa : mg nm = some (.ref fa))
    (a : PySem.W.nsIn K mainGlobals nm = some (some (.ref f))) (l : K.lookup f = some ⟨oc, od, .func (PySem.W.fnOf nm nm (defArgs st) (defBody st) (defScope st) .none kV doc pm an cdv ct), osl⟩) (c : PySem.W.codeIn K cdv nm = true) (kk : PySem.W.keepIn K (.ref f) = true)
    (hb : ∀ (kV doc pm : Value) (an : Option Addr) (cdv ct : Value) (us : List Value), us.length = 1 → bindArgs (PySem.W.fnOf nm nm (defArgs st) (defBody st) (defScope st) .none kV doc pm an cdv ct) ⟨us, []⟩ = pure ([x].zip us)) (S : FnScope N [x] (defScope st))
    (body : ∀ base : Heap, K.In base → base.Ns mainGlobals mg → ∀ (f : Addr) (cdv : Value) (A : Around) (outer : List Env) (s : Shared) (H : Hp) (E : XK), RoomG k (A.deeper (envOfC nm (defScope st) s.heap.objs.size f cdv)) →
      PSs (cxOf (L2.CX P w) P w K mg base N nm (defScope st) f cdv A outer s H E) (defBody st) (tS (cxOf (L2.CX P w) P w K mg base N nm (defScope st) f cdv A outer s H E) (fun c d _ H => E c d H) b))
    (hF : ∀ ns : List Int, ns.length ≤ 63 → (∀ z ∈ ns, Builtin.Int.intBits z ≤ 1048576) → ∃ S', fnB 1 N.length b [.fls (ns.map .int)] [] = .ok (.bl true) S') :
    ∃ fd : FuncData, (∀ (s : Shared) (u : Value), BindsTo s fd ⟨[u], []⟩ [(x, u)]) ∧ ∀ base : Heap, K.In base → base.Ns mainGlobals mg → FnG P w K mg base (k + 1) fa fd [x] (spLaw K) := by
  have e := hfa.symm.trans (PySem.W.mg_of X G a)
  cases e
  have F := fun_mk (st := st) l c kk
  refine ⟨_, fun s u => .of_eq (hb kV doc pm an cdv ct [u] rfl), fun base Kb Gb => ?_⟩
  exact (fn_ok F S (body base Kb Gb fa)).weak (law_imp hF)
theorem cx_no {P : Program} {w : World} {H : Hp} {s s' : Shared} {e : Value} (h : L2.CX P w [] H s (fun _ _ _ => False) e s') : False := by
  obtain ⟨_, _, _, _, _, _, _, _, _, _, _, _, z⟩ := h
  exact z
end
end Kw

/-! Kw9: dicts written with text keys and constants. -/
namespace Kw
open PySem PySem.Spec PyProof.Rows L2

def fDic (ks : List Key) (ds : List D) : FE := fun _ S => .ok (.dic ks ds) S
def lookK (k : Key) : List Key → List D → Option D
  | a :: ks, d :: ds => if a = k then some d else lookK k ks ds
  | _, _ => none
/-- a dict that is asked -/
def gIxD (x y : D) (S : Store) : RE D := match x with
  | .dic ks ds => (match y with
    | .str z => (match lookK (.inr z) ks ds with
      | some d => .ok d S
      | none => .no)
    | .int i => (match lookK (.inl i) ks ds with
      | some d => .ok d S
      | none => .no)
    | _ => .no)
  | _ => .no
section
variable {K : PySem.W.Frag} {mg : Str → Option Value} {w : Wd} {H : Hp} {S : Store}
theorem lookK_at {k : Key} : ∀ {ks : List Key} {ds : List D} {vs : List V} {d : D}, RpL K mg w H ds vs → lookK k ks ds = some d → ∃ v, valV (ks.zip vs) k = some v ∧ Rp K mg w H d v
  | [], _, _, _, _, h => by simp [lookK] at h
  | _ :: _, [], _, _, _, h => by simp [lookK] at h
  | a :: ks, d :: ds, vs, d', r, h => by
    unfold RpL at r
    obtain ⟨v, vs', e, r1, r2⟩ := r
    subst e
    unfold lookK at h
    by_cases hk : a = k
    · rw [if_pos hk] at h
      cases h
      exact ⟨v, by simp [valV, hk], r1⟩
    · rw [if_neg hk] at h
      obtain ⟨u, h1, h2⟩ := lookK_at r2 h
      refine ⟨u, ?_, h2⟩
      unfold valV at h1 ⊢
      rw [List.zip_cons_cons, List.find?_cons_of_neg (by simpa using hk)]
      exact h1
end
section
variable {X : Cx} {W : WX} {a b : Expr} {fa fb : FE} {pos : Pos}
theorem q_ixD (hu : X.A.units + 200 < cLine) (ha : PE X a (tF X W fa)) (hb : PE X b (tF X W fb)) (hs : NoSl b := by intro _ _; rfl) : PE X (.Subscript a b pos) (tF X W (f2 gIxD fa fb)) :=
  PE.wk (pe_dget (by omega) ha hb hs) fun σ H Q ⟨w, ρ, S, s, en, h⟩ => by
    refine ⟨w, ρ, S, s, en, (End.bind h).imp ?_ (fun _ _ _ z => z)⟩
    rintro x H1 ⟨w1, S1, d, e1, s1, r1, h1⟩
    refine ⟨w1, ρ, S1, s1, en.ext e1, (End.bind h1).imp ?_ (fun _ _ _ z => z)⟩
    rintro y H2 ⟨w2, S2, d2, e2, s2, r2, h2⟩
    have r1' := Rp.ext e2 _ _ r1
    cases d <;> try exact h2.elim
    rename_i ks ds
    unfold Rp at r1'
    obtain ⟨p, vs, e, t, o, l, q⟩ := r1'
    cases d2 <;> try exact h2.elim
    · rename_i i
      simp only [gIxD] at h2
      split at h2
      · rename_i d hd
        obtain ⟨v, h3, h4⟩ := lookK_at q hd
        refine ⟨p, v, e, ?_, h2.ret s2 h4⟩
        rw [rp_int r2, ← h3]
        exact DGet.k (k := Sum.inl i) t
      · exact h2.elim
    · rename_i z
      simp only [gIxD] at h2
      split at h2
      · rename_i d hd
        obtain ⟨v, h3, h4⟩ := lookK_at q hd
        refine ⟨p, v, e, ?_, h2.ret s2 h4⟩
        rw [rp_str r2, ← h3]
        exact DGet.k (k := Sum.inr z) t
      · exact h2.elim
theorem new_dic {w : Wd} {S : Store} {H : Hp} {Q : VK} {E : Value → Option Addr → Hp → Prop} {ks : List Key} {ds : List D} {vs : List V} {p : Addr} (s : Sto X.K X.mg w S H) (np : H p = none) (hl : ks.length = vs.length) (r : RpL X.K X.mg w H ds vs)
    (h : End X.K X.mg (fun w H => Rp X.K X.mg w H) w H (.ok (.dic ks ds) S) Q E) : Q (.ref p) (upd H p (.dK (ks.zip vs))) := by
  refine h w _ _ (Ext.new np) (s.beside np) ?_
  show Rp _ _ _ _ _ _
  unfold Rp
  exact ⟨p, vs, rfl, upd_same, s.new np, hl, RpL.ext (Ext.new np) _ _ r⟩
theorem q_dic0 : PE X (.Dict [] [] pos) (tF X W (fDic [] [])) := PE.wk pe_dnewK fun σ H Q ⟨w, ρ, S, s, en, h⟩ => fun p np => new_dic (ks := []) (vs := []) s np rfl RpL.nil h
/-- {'a': 'x', 'b': 'y'} -/
theorem q_dic2 {k1 k2 : Str} {v1 v2 : D} {u1 u2 : V} {j1 j2 : Nat} {p1 p2 : Pos} {e1 e2 : Expr} (h1 : PE X e1 (tC u1)) (c1 : CV v1 u1) (h2 : PE X e2 (tC u2)) (c2 : CV v2 u2) (hne : ¬ (Sum.inr k1 : Key) = Sum.inr k2) :
    PE X (.Dict [some (.Constant (.str k1) j1 p1), some (.Constant (.str k2) j2 p2)] [e1, e2] pos) (tF X W (fDic [.inr k1, .inr k2] [v1, v2])) :=
  PE.wk (pe_disp (pps_cons pe_str h1 (pps_cons pe_str h2 pps_nil)) rfl rfl (by simp) (by simp)) fun σ H Q ⟨w, ρ, S, s, en, h⟩ => by
    intro p np
    refine ⟨upd_same, [(Sum.inr k1, u1), (Sum.inr k2, u2)], rfl, by simp, ?_⟩
    rw [upd_upd]
    have e : mergeK [] [((Sum.inr k1 : Key), u1), (Sum.inr k2, u2)] = [(Sum.inr k1 : Key), Sum.inr k2].zip [u1, u2] := by
      simp [mergeK, putK, hne]
    rw [e]
    exact new_dic (ks := [Sum.inr k1, Sum.inr k2]) (vs := [u1, u2]) s np rfl (RpL.cons c1.rp (RpL.one c2.rp)) h
end
end Kw

/-! Kw10: reckoning the functions over trees. -/
namespace Kw
open PySem PySem.Spec PyProof.Rows L2

/-! ### texts -/
theorem ofString_inj {a b : String} (h : Str.ofString a = Str.ofString b) : a = b := by
  have h1 : (Str.ofString a).cps.toList = (Str.ofString b).cps.toList := by rw [h]
  have key : ∀ s : String, (Str.ofString s).cps.toList = s.toList.map Char.toNat := fun s => by
    show ((cpsOfBytes 0 0 s.toByteArray.data.toList).toArray).toList = _
    rw [cpsOfBytes_string]
  rw [key, key] at h1
  have inj : ∀ {l m : List Char}, l.map Char.toNat = m.map Char.toNat → l = m := fun {l m} h => List.map_inj_right (fun x y e => Char.toNat_inj.mp e) |>.mp h
  have h2 := inj h1
  rw [← String.ofList_toList (s := a), ← String.ofList_toList (s := b), h2]
@[simp] theorem ofString_eq {a b : String} : (Str.ofString a = Str.ofString b) ↔ a = b := ⟨ofString_inj, fun h => by rw [h]⟩
@[simp] theorem ofString_beq {a b : String} : (Str.ofString a == Str.ofString b) = decide (a = b) := by
  by_cases h : a = b
  · subst h; simp
  · have : Str.ofString a ≠ Str.ofString b := fun q => h (ofString_inj q)
    simp [h, this]
@[simp] theorem strOk_of (a : String) : PyData.strOk (Str.ofString a) = true := by
  have key : (Str.ofString a).cps.toList = a.toList.map Char.toNat := by
    show ((cpsOfBytes 0 0 a.toByteArray.data.toList).toArray).toList = _
    rw [cpsOfBytes_string]
  unfold PyData.strOk
  rw [← Array.all_toList, key, List.all_map, List.all_eq_true]
  intro c _
  have h := c.valid
  simp only [UInt32.isValidChar, Nat.isValidChar] at h
  show decide (c.toNat < 1114112) = true
  rw [decide_eq_true_eq]
  show c.val.toNat < 1114112
  omega

/-! ### how the parts are reckoned -/
section
variable {α β : Type} {a : α} {S : Store} {x : Ex} {f : α → Store → RE β} {ρ : FEnv} {k : α → Store → RS}
@[simp] theorem bnd_ok : (RE.ok a S).bnd f = f a S := rfl
@[simp] theorem bnd_ex : (RE.ex x S : RE α).bnd f = .ex x S := rfl
@[simp] theorem bnd_no : (RE.no : RE α).bnd f = .no := rfl
@[simp] theorem toS_ok : (RE.ok a S).toS ρ k = k a S := rfl
@[simp] theorem toS_ex : (RE.ex x S : RE α).toS ρ k = .ex x ρ S := rfl
@[simp] theorem toS_no : (RE.no : RE α).toS ρ k = .no := rfl
variable {g : FS} {d : D} {ρ' : FEnv}
@[simp] theorem sb_nx : (RS.nx ρ S).bnd g = g ρ S := rfl
@[simp] theorem sb_rt : (RS.rt d S).bnd g = .rt d S := rfl
@[simp] theorem sb_bk : (RS.bk ρ S).bnd g = .bk ρ S := rfl
@[simp] theorem sb_ct : (RS.ct ρ S).bnd g = .ct ρ S := rfl
@[simp] theorem sb_ex : (RS.ex x ρ S).bnd g = .ex x ρ S := rfl
@[simp] theorem sb_no : (RS.no).bnd g = .no := rfl
@[simp] theorem fin_nx : (RS.nx ρ S).fin = .ok .non S := rfl
@[simp] theorem fin_rt : (RS.rt d S).fin = .ok d S := rfl
@[simp] theorem fin_ex : (RS.ex x ρ S).fin = .ex x S := rfl
end
section
variable {ρ : FEnv} {S : Store} {d e : D} {x : Option D} {i : Nat} {a b c : FE} {fs : FA} {ta tb : FT}
@[simp] theorem fVar_z : fVar 0 (some d :: ρ) S = .ok d S := rfl
@[simp] theorem fVar_s : fVar (i + 1) (x :: ρ) S = fVar i ρ S := rfl
@[simp] theorem fC_ap : fC d ρ S = .ok d S := rfl
@[simp] theorem f1_ap {g : D → Store → RE D} : f1 g a ρ S = (a ρ S).bnd g := rfl
@[simp] theorem f2_ap {g : D → D → Store → RE D} : f2 g a b ρ S = (a ρ S).bnd fun x S1 => (b ρ S1).bnd fun y S2 => g x y S2 := rfl
@[simp] theorem fNil_ap : fNil ρ S = .ok [] S := rfl
@[simp] theorem fCons_ap : fCons a fs ρ S = (a ρ S).bnd fun x S1 => (fs ρ S1).bnd fun xs S2 => .ok (x :: xs) S2 := rfl
@[simp] theorem fArg_ap {g : FF} : fArg g fs ρ S = (fs ρ S).bnd g := rfl
def toB (d : D) (S : Store) : RE Bool := match d with
  | .bl k => .ok k S
  | _ => .no
@[simp] theorem toB_bl {k : Bool} : toB (.bl k) S = .ok k S := rfl
@[simp] theorem fB_ap : fB a ρ S = (a ρ S).bnd toB := rfl
def brB (d : D) (S : Store) (t f : RE D) : RE D := match d with
  | .bl k => if k then t else f
  | _ => .no
@[simp] theorem brB_bl {k : Bool} {t f : RE D} : brB (.bl k) S t f = if k then t else f := rfl
@[simp] theorem fChain_ap {g g' : D → D → Store → RE D} : fChain g g' a b c ρ S = (a ρ S).bnd fun x S1 => (b ρ S1).bnd fun y S2 => (g x y S2).bnd fun k S3 => brB k S3 ((c ρ S3).bnd fun z S4 => g' y z S4) (.ok (.bl false) S3) := by
  unfold fChain
  congr; funext x S1; congr; funext y S2; congr; funext k S3
  cases k <;> try rfl
  rename_i k; cases k <;> rfl
@[simp] theorem fAnd_ap : fAnd ta tb ρ S = (ta ρ S).bnd fun k S1 => if k then tb ρ S1 else .ok false S1 := by
  unfold fAnd; congr; funext k S1; cases k <;> rfl
@[simp] theorem fOr_ap : fOr ta tb ρ S = (ta ρ S).bnd fun k S1 => if k then .ok true S1 else tb ρ S1 := by
  unfold fOr; congr; funext k S1; cases k <;> rfl
@[simp] theorem fNot_ap : fNot ta ρ S = (ta ρ S).bnd fun k S1 => .ok (!k) S1 := rfl
@[simp] theorem fIf_ap : fIf ta a b ρ S = (ta ρ S).bnd fun k S1 => if k then a ρ S1 else b ρ S1 := by
  unfold fIf; congr; funext k S1; cases k <;> rfl
@[simp] theorem fAndV_ap : fAndV a b ρ S = (a ρ S).bnd fun k S1 => brB k S1 (b ρ S1) (.ok (.bl false) S1) := by
  unfold fAndV; congr; funext k S1; cases k <;> try rfl
  rename_i k; cases k <;> rfl
@[simp] theorem fOrV_ap : fOrV a b ρ S = (a ρ S).bnd fun k S1 => brB k S1 (.ok (.bl true) S1) (b ρ S1) := by
  unfold fOrV; congr; funext k S1; cases k <;> try rfl
  rename_i k; cases k <;> rfl
def truR (d : D) (S : Store) : RE Bool := match truD S d with
  | some k => .ok k S
  | none => .no
@[simp] theorem truR_bl {k : Bool} : truR (.bl k) S = .ok k S := rfl
@[simp] theorem truR_int {k : Int} : truR (.int k) S = .ok (k != 0) S := rfl
@[simp] theorem truR_non : truR .non S = .ok false S := rfl
@[simp] theorem truR_lst {ds : List D} : truR (.lst ds) S = .ok (!ds.isEmpty) S := rfl
@[simp] theorem truR_tup {ds : List D} : truR (.tup ds) S = .ok (!ds.isEmpty) S := rfl
@[simp] theorem fTru_ap : fTru a ρ S = (a ρ S).bnd truR := rfl
@[simp] theorem fNotV_ap : fNotV a ρ S = (a ρ S).bnd fun x S1 => (truR x S1).bnd fun k S2 => .ok (.bl (!k)) S2 := by
  unfold fNotV; congr; funext x S1; unfold truR; cases truD S1 x <;> rfl
def isiR (T : String) (d : D) (S : Store) : RE D := match tyD S d with
  | some t => .ok (.bl (isiB t T)) S
  | none => .no
@[simp] theorem fIsi_ap {T : String} : fIsi T a ρ S = (a ρ S).bnd (isiR T) := rfl
@[simp] theorem isi_int {T : String} {i : Int} : isiR T (.int i) S = .ok (.bl (decide (T = "int"))) S := by
  have : (isiB "int" T) = decide (T = "int") := by
    unfold isiB
    by_cases h : T = "int"
    · subst h; rfl
    · have h' : ¬ "int" = T := fun z => h z.symm
      simp [h, h']
  show RE.ok (D.bl (isiB "int" T)) S = _
  rw [this]
@[simp] theorem isi_bl {T : String} {i : Bool} : isiR T (.bl i) S = .ok (.bl (decide (T = "bool") || decide (T = "int"))) S := by
  have : (isiB "bool" T) = (decide (T = "bool") || decide (T = "int")) := by
    unfold isiB
    by_cases h : T = "bool"
    · subst h; rfl
    · have h' : ¬ "bool" = T := fun z => h z.symm
      by_cases h2 : T = "int"
      · subst h2; rfl
      · simp [h, h', h2]
  show RE.ok (D.bl (isiB "bool" T)) S = _
  rw [this]
theorem isiB_other {t T : String} (h : t ≠ "bool") : isiB t T = decide (T = t) := by
  unfold isiB
  by_cases e : T = t
  · subst e; simp
  · have e' : ¬ t = T := fun z => e z.symm
    simp [h, e, e']
@[simp] theorem isi_str {T : String} {i : Str} : isiR T (.str i) S = .ok (.bl (decide (T = "str"))) S := by
  show RE.ok (D.bl (isiB "str" T)) S = _
  rw [isiB_other (by decide)]
@[simp] theorem isi_non {T : String} : isiR T .non S = .ok (.bl (decide (T = "NoneType"))) S := by
  show RE.ok (D.bl (isiB "NoneType" T)) S = _
  rw [isiB_other (by decide)]
@[simp] theorem isi_tup {T : String} {ds : List D} : isiR T (.tup ds) S = .ok (.bl (decide (T = "tuple"))) S := by
  show RE.ok (D.bl (isiB "tuple" T)) S = _
  rw [isiB_other (by decide)]
@[simp] theorem isi_lst {T : String} {ds : List D} : isiR T (.lst ds) S = .ok (.bl (decide (T = "list"))) S := by
  show RE.ok (D.bl (isiB "list" T)) S = _
  rw [isiB_other (by decide)]
@[simp] theorem isi_dic {T : String} {ks : List Key} {ds : List D} : isiR T (.dic ks ds) S = .ok (.bl (decide (T = "dict"))) S := by
  show RE.ok (D.bl (isiB "dict" T)) S = _
  rw [isiB_other (by decide)]
theorem isi_loc {T : String} {n : Nat} {ds : List D} (h : cellOf S n = some ds) : isiR T (.loc n) S = .ok (.bl (decide (T = "list"))) S := by
  show (match (cellOf S n).map (fun _ => "list") with | some t => RE.ok (D.bl (isiB t T)) S | none => .no) = _
  rw [h]
  show RE.ok (D.bl (isiB "list" T)) S = _
  rw [isiB_other (by decide)]
end
section
variable {ρ : FEnv} {S : Store} {f g : FS} {fe : FE} {tc : FT} {i : Nat} {fa : FA}
@[simp] theorem sNil_ap : sNil ρ S = .nx ρ S := rfl
@[simp] theorem sSeq_ap : sSeq f g ρ S = (f ρ S).bnd g := rfl
@[simp] theorem sBrk_ap : sBrk ρ S = .bk ρ S := rfl
@[simp] theorem sCnt_ap : sCnt ρ S = .ct ρ S := rfl
@[simp] theorem sExp_ap : sExp fe ρ S = (fe ρ S).toS ρ fun _ S1 => .nx ρ S1 := rfl
@[simp] theorem sRet_ap : sRet fe ρ S = (fe ρ S).toS ρ fun d S1 => .rt d S1 := rfl
@[simp] theorem sRetN_ap : sRetN ρ S = .rt .non S := rfl
@[simp] theorem sSet_ap : sSet i fe ρ S = (fe ρ S).toS ρ fun d S1 => .nx (ρ.set i (some d)) S1 := rfl
@[simp] theorem sIf_ap : sIf tc f g ρ S = (tc ρ S).toS ρ fun k S1 => if k then f ρ S1 else g ρ S1 := by
  unfold sIf; congr; funext k S1; cases k <;> rfl
@[simp] theorem sRaise_ap {x : Str} : sRaise x ρ S = .ex ⟨x, [], []⟩ ρ S := rfl
def gRes (r : Option (FEnv × Store)) : RS := match r with
  | some (ρ', S') => .nx ρ' S'
  | none => .no
@[simp] theorem gRes_some {ρ' : FEnv} {S' : Store} : gRes (some (ρ', S')) = .nx ρ' S' := rfl
@[simp] theorem sAsg_ap {g : FG} : sAsg fe g ρ S = (fe ρ S).toS ρ fun d S1 => gRes (g d ρ S1) := rfl
@[simp] theorem gN_ap {d : D} : gN i d ρ S = some (ρ.set i (some d), S) := rfl
@[simp] theorem gsNil_ap : gsNil [] ρ S = some (ρ, S) := rfl
def gBnd (r : Option (FEnv × Store)) (k : FEnv → Store → Option (FEnv × Store)) : Option (FEnv × Store) := match r with
  | some (ρ', S') => k ρ' S'
  | none => none
@[simp] theorem gBnd_some {ρ' : FEnv} {S' : Store} {k : FEnv → Store → Option (FEnv × Store)} : gBnd (some (ρ', S')) k = k ρ' S' := rfl
@[simp] theorem gsCons_ap {g : FG} {gs : FGs} {d : D} {r : List D} : gsCons g gs (d :: r) ρ S = gBnd (g d ρ S) (gs r) := rfl
@[simp] theorem gTu_ap {n : Nat} {gs : FGs} {ds : List D} : gTu n gs (.tup ds) ρ S = if ds.length = n then gs ds ρ S else none := rfl
theorem sPar_ap {j : Nat} : sPar i j fa ρ S = (fa ρ S).toS ρ fun ds S1 => match ds with
  | [x, y] => .nx ((ρ.set i (some x)).set j (some y)) S1
  | _ => .no := rfl
def par2 (i j : Nat) (ρ : FEnv) (ds : List D) (S : Store) : RS := match ds with
  | [x, y] => .nx ((ρ.set i (some x)).set j (some y)) S
  | _ => .no
@[simp] theorem par2_ap {j : Nat} {x y : D} : par2 i j ρ [x, y] S = .nx ((ρ.set i (some x)).set j (some y)) S := rfl
@[simp] theorem sPar_ap' {j : Nat} : sPar i j fa ρ S = (fa ρ S).toS ρ (par2 i j ρ) := rfl
def augR (i : Nat) (g : D → D → Store → RE D) (x : Option (Option D)) (f : FE) (ρ : FEnv) (S : Store) : RS := match x with
  | some (some x) => (f ρ S).toS ρ fun y S1 => (g x y S1).toS ρ fun z S2 => .nx (ρ.set i (some z)) S2
  | _ => .no
@[simp] theorem augR_ap {g : D → D → Store → RE D} {x : D} : augR i g (some (some x)) fe ρ S = (fe ρ S).toS ρ fun y S1 => (g x y S1).toS ρ fun z S2 => .nx (ρ.set i (some z)) S2 := rfl
@[simp] theorem sAug_ap {g : D → D → Store → RE D} : sAug i g fe ρ S = augR i g ρ[i]? fe ρ S := rfl
end
section
variable {S : Store} {i j : Int} {a b : Str} {c : Bool} {xs ys ds : List D} {k : Bool} {d e : D}
@[simp] theorem gAdd_ii : gAdd c (.int i) (.int j) S = .ok (.int (i + j)) S := rfl
@[simp] theorem gAdd_ss : gAdd c (.str a) (.str b) S = if a.length + b.length ≤ sizeLine then .ok (.str (a ++ b)) S else .no := rfl
@[simp] theorem gAdd_tt : gAdd c (.tup xs) (.tup ys) S = mkTup (xs ++ ys) S := rfl
@[simp] theorem gAdd_ll : gAdd false (.lst xs) (.lst ys) S = mkLst (xs ++ ys) S := rfl
@[simp] theorem gSub_ii : Kw.gSub (.int i) (.int j) S = .ok (.int (i - j)) S := rfl
@[simp] theorem gMul_ii : gMul c (.int i) (.int j) S = if CMul i j ∨ CMulW i j then .ok (.int (i * j)) S else .no := rfl
@[simp] theorem gMod_ii : gMod (.int i) (.int j) S = if 0 < j then .ok (.int (i % j)) S else .no := rfl
@[simp] theorem gDiv_ii : gDiv (.int i) (.int j) S = if 0 < j ∧ j.natAbs.log2 < 9000 then .ok (.int (i / j)) S else .no := rfl
@[simp] theorem gPow_ii : gPow (.int i) (.int j) S = if 0 ≤ j ∧ j ≤ 1000000 ∧ i.natAbs < 2 ^ 64 then .ok (.int (i ^ j.toNat)) S else .no := rfl
@[simp] theorem gIAdd_ii : gIAdd (.int i) (.int j) S = .ok (.int (i + j)) S := rfl
@[simp] theorem gNeg_i : gNeg (.int i) S = .ok (.int (-i)) S := rfl
@[simp] theorem gCmp_ii {p : Int → Int → Bool} : gCmp p (.int i) (.int j) S = .ok (.bl (p i j)) S := rfl
@[simp] theorem gEq_ss : gEq (.str a) (.str b) S = .ok (.bl (a == b)) S := rfl
@[simp] theorem gNe_ss : gNe (.str a) (.str b) S = .ok (.bl (!(a == b))) S := rfl
@[simp] theorem gEq_ii : gEq (.int i) (.int j) S = .ok (.bl (i == j)) S := by
  simp [gEq, eqE, pyS, okPy, PyData.canLay0, PyData.depth, PyData.eqv]
@[simp] theorem gNe_ii : gNe (.int i) (.int j) S = .ok (.bl (!(i == j))) S := by
  simp [gNe, eqE, pyS, okPy, PyData.canLay0, PyData.depth, PyData.eqv]
@[simp] theorem gEq_bb {i j : Bool} : gEq (.bl i) (.bl j) S = .ok (.bl (i == j)) S := by
  simp [gEq, eqE, pyS, okPy, PyData.canLay0, PyData.depth, PyData.eqv]
@[simp] theorem gNe_bb {i j : Bool} : gNe (.bl i) (.bl j) S = .ok (.bl (!(i == j))) S := by
  simp [gNe, eqE, pyS, okPy, PyData.canLay0, PyData.depth, PyData.eqv]
@[simp] theorem gLen_tup : gLen [.tup ds] S = .ok (.int ds.length) S := rfl
@[simp] theorem gLen_lst : gLen [.lst ds] S = .ok (.int ds.length) S := rfl
@[simp] theorem gLen_fls : gLen [.fls ds] S = .ok (.int ds.length) S := rfl
@[simp] theorem gLen_str : gLen [.str a] S = if a.length ≤ sizeLine then .ok (.int a.length) S else .no := rfl
@[simp] theorem gInt_i : gInt [.int i] S = .ok (.int i) S := rfl
@[simp] theorem gInt_b : gInt [.bl k] S = .ok (.int (if k then 1 else 0)) S := rfl
@[simp] theorem gTuple_lst : gTuple [.lst ds] S = .ok (.tup ds) S := rfl
@[simp] theorem gTuple_tup : gTuple [.tup ds] S = .ok (.tup ds) S := rfl
@[simp] theorem gList_lst : gList false [.lst ds] S = .ok (.lst ds) S := rfl
@[simp] theorem gList_tup : gList false [.tup ds] S = .ok (.lst ds) S := rfl
@[simp] theorem gIs_nn : gIs c .non .non S = .ok (.bl (xor c true)) S := rfl
@[simp] theorem gIs_tn : gIs c (.tup ds) .non S = .ok (.bl (xor c false)) S := rfl
@[simp] theorem gIs_ln : gIs c (.lst ds) .non S = .ok (.bl (xor c false)) S := rfl
@[simp] theorem gIs_in : gIs c (.int i) .non S = .ok (.bl (xor c false)) S := rfl
@[simp] theorem gIs_sn : gIs c (.str a) .non S = .ok (.bl (xor c false)) S := rfl
@[simp] theorem gIs_bn : gIs c (.bl k) .non S = .ok (.bl (xor c false)) S := rfl
@[simp] theorem gIs_bb {l : Bool} : gIs c (.bl k) (.bl l) S = .ok (.bl (xor c (decide (k = l)))) S := rfl
def ixR (ds : List D) (i : Int) (S : Store) : RE D := match L2.atI ds i with
  | some d => .ok d S
  | none => .no
@[simp] theorem ixR_nat {n : Nat} : ixR ds (n : Int) S = match ds[n]? with
  | some d => .ok d S
  | none => .no := by
  unfold ixR
  cases h : ds[n]? with
  | some d => rw [atI_nat h]
  | none =>
    have hl : ds.length ≤ n := List.getElem?_eq_none_iff.mp h
    have : L2.atI ds (n : Int) = none := by
      unfold L2.atI ixN
      rw [if_pos (by omega), if_neg (by omega)]; rfl
    rw [this]
@[simp] theorem ixR_0 : ixR (d :: ds) 0 S = .ok d S := by
  have := ixR_nat (ds := d :: ds) (n := 0) (S := S)
  simpa using this
@[simp] theorem ixR_1 : ixR (d :: e :: ds) 1 S = .ok e S := by
  have := ixR_nat (ds := d :: e :: ds) (n := 1) (S := S)
  simpa using this
@[simp] theorem ixR_2 {e' : D} : ixR (d :: e :: e' :: ds) 2 S = .ok e' S := by
  have := ixR_nat (ds := d :: e :: e' :: ds) (n := 2) (S := S)
  simpa using this
@[simp] theorem gIx_tup : gIx (.tup ds) (.int i) S = ixR ds i S := rfl
@[simp] theorem gIx_lst : gIx (.lst ds) (.int i) S = ixR ds i S := rfl
@[simp] theorem gIx_fls : gIx (.fls ds) (.int i) S = ixR ds i S := rfl
theorem gIx_loc {n : Nat} (h : cellOf S n = some ds) : gIx (.loc n) (.int i) S = ixR ds i S := by
  show (match cellOf S n with | some ds => ixR ds i S | none => .no) = _
  rw [h]
end
@[simp] theorem short2 {n : Nat} (h : n ≤ 1000) : (n ≤ sizeLine) = True := eq_true (Nat.le_trans h (by decide))
theorem sz : sizeLine = 16777216 := rfl
section
variable {S : Store} {ds : List D}
@[simp] theorem mkTup_ap : mkTup ds S = if ds.length ≤ sizeLine then .ok (.tup ds) S else .no := rfl
@[simp] theorem mkLst_ap : mkLst ds S = if ds.length ≤ sizeLine then .ok (.lst ds) S else .no := rfl
@[simp] theorem mkCel_ap : mkCel ds S = if ds.length ≤ sizeLine then .ok (.loc S.length) (S ++ [.lst ds]) else .no := rfl
section
variable {n : Nat} {b : FS} {a1 a2 a3 a4 a5 : D}
@[simp] theorem fnB_0 : fnB 0 n b [] S = (b (List.replicate n none) S).fin := rfl
@[simp] theorem fnB_1 : fnB 1 n b [a1] S = (b (some a1 :: List.replicate (n - 1) none) S).fin := rfl
@[simp] theorem fnB_2 : fnB 2 n b [a1, a2] S = (b (some a1 :: some a2 :: List.replicate (n - 2) none) S).fin := rfl
@[simp] theorem fnB_3 : fnB 3 n b [a1, a2, a3] S = (b (some a1 :: some a2 :: some a3 :: List.replicate (n - 3) none) S).fin := rfl
@[simp] theorem fnB_4 : fnB 4 n b [a1, a2, a3, a4] S = (b (some a1 :: some a2 :: some a3 :: some a4 :: List.replicate (n - 4) none) S).fin := rfl
@[simp] theorem fnB_5 : fnB 5 n b [a1, a2, a3, a4, a5] S = (b (some a1 :: some a2 :: some a3 :: some a4 :: some a5 :: List.replicate (n - 5) none) S).fin := rfl
end
theorem fnB_ap {m n : Nat} {b : FS} (h : ds.length = m) : fnB m n b ds S = (b (ds.map some ++ List.replicate (n - m) none) S).fin := by unfold fnB; rw [if_pos h]
end
end Kw

/-! Kw11: cells, texts and kinds, reckoned. -/
namespace Kw
open PySem PySem.Spec PyProof.Rows L2
section
variable {S T : Store} {n : Nat} {ds xs ys : List D} {c c' : Cell} {d x : D} {i : Int} {ρ : FEnv}
@[simp] theorem cellOf_app : cellOf (S ++ [.lst ds]) S.length = some ds := by simp [cellOf]
@[simp] theorem cellM_app : cellM (S ++ [.lst ds]) S.length = some ds := by simp [cellM]
@[simp] theorem set_app : (S ++ [c]).set S.length c' = S ++ [c'] := by simp [List.set_append]
theorem cellOf_of (h : S[n]? = some (.lst ds)) : cellOf S n = some ds := by simp [cellOf, h]
theorem cellM_of (h : S[n]? = some (.lst ds)) : cellM S n = some ds := by simp [cellM, h]
def ixO (o : Option (List D)) (i : Int) (S : Store) : RE D := match o with
  | some ds => ixR ds i S
  | none => .no
@[simp] theorem ixO_some : ixO (some ds) i S = ixR ds i S := rfl
@[simp] theorem gIx_locO : gIx (.loc n) (.int i) S = ixO (cellOf S n) i S := rfl
theorem cut_ok {S : Store} {d : D} (T : Store) (h : d.under S.length = true) : cutR S (.ok d (S ++ T)) = .ok d S := by
  have hc : CutOk S (S ++ T) := ⟨by simp, fun i c hi e => .inl (by rw [List.getElem?_append_left hi] at e; exact e)⟩
  have hd : (D.under S.length d = true ∧ CutOk S (S ++ T)) := ⟨h, hc⟩
  simp [cutR, hd]
theorem cut_ex {S : Store} {e : Ex} (T : Store) (h : underL S.length e.ds = true) : cutR S (.ex e (S ++ T)) = .ex e S := by
  have hc : CutOk S (S ++ T) := ⟨by simp, fun i c hi e => .inl (by rw [List.getElem?_append_left hi] at e; exact e)⟩
  have hd : (underL S.length e.ds = true ∧ CutOk S (S ++ T)) := ⟨h, hc⟩
  simp [cutR, hd]
theorem fnC_ap {m n : Nat} {b : FS} : fnC m n b ds S = cutR S (fnB m n b ds S) := rfl
/-- a list beside the empty one -/
theorem gNe_nil (h : cellOf S n = some ds) : gNe (.loc n) (.lst []) S = .ok (.bl (!ds.isEmpty)) S := by
  unfold gNe eqE seqL
  simp only
  rw [h]; rfl
@[simp] theorem gEq_te : gEq (.tup ds) (.tup []) S = .ok (.bl ds.isEmpty) S := rfl
@[simp] theorem gNe_te : gNe (.tup ds) (.tup []) S = .ok (.bl (!ds.isEmpty)) S := rfl
@[simp] theorem gEq_ts {a b : Str} : gEq (.tup (.str a :: ds)) (.tup [.str b]) S = .ok (.bl (a == b && ds.isEmpty)) S := rfl
@[simp] theorem gNe_ts {a b : Str} : gNe (.tup (.str a :: ds)) (.tup [.str b]) S = .ok (.bl (!(a == b && ds.isEmpty))) S := rfl
@[simp] theorem gEq_le : gEq (.lst ds) (.lst []) S = .ok (.bl ds.isEmpty) S := rfl
@[simp] theorem gNe_le : gNe (.lst ds) (.lst []) S = .ok (.bl (!ds.isEmpty)) S := rfl
@[simp] theorem gInG_str {neg : Bool} {nm z : Str} {kvs : List (Str × D)} : gInG neg nm kvs (.str z) (.glo nm) S = .ok (.bl (xor neg (kvs.lookup z).isSome)) S := by
  show (if nm = nm then RE.ok (D.bl (xor neg (kvs.lookup z).isSome)) S else .no) = _
  rw [if_pos rfl]
theorem gInG_tup {neg : Bool} {nm : Str} {kvs : List (Str × D)} : gInG neg nm kvs (.tup ds) (.glo nm) S = .no := rfl
def luR (o : Option D) (S : Store) : RE D := match o with
  | some d => .ok d S
  | none => .no
@[simp] theorem luR_some : luR (some d) S = .ok d S := rfl
@[simp] theorem gIxG_str {nm z : Str} {kvs : List (Str × D)} : gIxG nm kvs (.glo nm) (.str z) S = luR (kvs.lookup z) S := by
  show (if nm = nm then luR (kvs.lookup z) S else .no) = _
  rw [if_pos rfl]
@[simp] theorem gIxD_str {ks : List Key} {z : Str} : gIxD (.dic ks ds) (.str z) S = luR (lookK (.inr z) ks ds) S := rfl
@[simp] theorem gIxD_int {ks : List Key} {z : Int} : gIxD (.dic ks ds) (.int z) S = luR (lookK (.inl z) ks ds) S := rfl
theorem lookK_s {k : Key} {ks : List Key} {a : Key} : lookK k (a :: ks) (d :: ds) = if a = k then some d else lookK k ks ds := rfl
@[simp] theorem fDic_ap {ks : List Key} : fDic ks ds ρ S = .ok (.dic ks ds) S := rfl
@[simp] theorem fNone_ap : fNone ρ S = .ok none S := rfl
def toI (d : D) (S : Store) : RE (Option Int) := match d with
  | .int i => .ok (some i) S
  | _ => .no
@[simp] theorem toI_int : toI (.int i) S = .ok (some i) S := rfl
@[simp] theorem fSome_ap {f : FE} : fSome f ρ S = (f ρ S).bnd toI := rfl
@[simp] theorem fSl_ap {g : D → Option Int → Option Int → Store → RE D} {a : FE} {l u : FO} : fSl g a l u ρ S = (a ρ S).bnd fun x S1 => (l ρ S1).bnd fun lo S2 => (u ρ S2).bnd fun hi S3 => g x lo hi S3 := rfl
@[simp] theorem gSl_tup {c : Bool} {lo hi : Option Int} : gSl c (.tup ds) lo hi S = .ok (.tup (cutL ds lo hi)) S := rfl
@[simp] theorem gSl_lst {lo hi : Option Int} : gSl false (.lst ds) lo hi S = .ok (.lst (cutL ds lo hi)) S := rfl
@[simp] theorem gSl_fls {lo hi : Option Int} : gSl false (.fls ds) lo hi S = .ok (.lst (cutL ds lo hi)) S := rfl
def slO (o : Option (List D)) (lo hi : Option Int) (S : Store) : RE D := match o with
  | some ds => .ok (.lst (cutL ds lo hi)) S
  | none => .no
@[simp] theorem slO_some {lo hi : Option Int} : slO (some ds) lo hi S = .ok (.lst (cutL ds lo hi)) S := rfl
@[simp] theorem gSl_loc {lo hi : Option Int} : gSl false (.loc n) lo hi S = slO (cellOf S n) lo hi S := rfl
def mthR (g : D → List D → Store → RE D) (a : FA) (ρ : FEnv) (x : D) (S : Store) : RE D := match seqL S x with
  | some _ => (a ρ S).bnd fun ds S2 => g x ds S2
  | none => .no
@[simp] theorem fMth_ap {g : D → List D → Store → RE D} {o : FE} {a : FA} : fMth g o a ρ S = (o ρ S).bnd (mthR g a ρ) := rfl
theorem mthR_loc {g : D → List D → Store → RE D} {a : FA} (h : cellOf S n = some xs) : mthR g a ρ (.loc n) S = (a ρ S).bnd fun ds S2 => g (.loc n) ds S2 := by
  show (match cellOf S n with | some _ => (a ρ S).bnd fun ds S2 => g (.loc n) ds S2 | none => .no) = _
  rw [h]
theorem gAppend_loc (h : cellM S n = some xs) (hl : xs.length < sizeLine) : gAppend (.loc n) [d] S = .ok .non (S.set n (.lst (xs ++ [d]))) := by
  simp [gAppend, h, hl]
theorem gExtend_loc (h : cellM S n = some xs) (hl : xs.length + ys.length ≤ sizeLine) : gExtend (.loc n) [.lst ys] S = .ok .non (S.set n (.lst (xs ++ ys))) := by
  simp [gExtend, h, seqM, hl]
theorem gPop0_loc (h : cellM S n = some (xs ++ [d])) : gPop0 (.loc n) [] S = .ok d (S.set n (.lst xs)) := by
  simp [gPop0, h]
end
/-! ### loops -/
def loopR (w : FS) (r : RS) : RS := match r with
  | .nx ρ2 S2 => w ρ2 S2
  | .ct ρ2 S2 => w ρ2 S2
  | .bk ρ2 S2 => .nx ρ2 S2
  | z => z
section
variable {w : FS} {ρ : FEnv} {S : Store} {d : D} {x : Ex}
@[simp] theorem loopR_nx : loopR w (.nx ρ S) = w ρ S := rfl
@[simp] theorem loopR_ct : loopR w (.ct ρ S) = w ρ S := rfl
@[simp] theorem loopR_bk : loopR w (.bk ρ S) = .nx ρ S := rfl
@[simp] theorem loopR_rt : loopR w (.rt d S) = .rt d S := rfl
@[simp] theorem loopR_ex : loopR w (.ex x ρ S) = .ex x ρ S := rfl
@[simp] theorem loopR_no : loopR w .no = .no := rfl
theorem sWhile_go {c : FT} {b : FS} : sWhile c b ρ S = (c ρ S).toS ρ fun k S1 => if k then loopR (sWhile c b) (b ρ S1) else .nx ρ S1 := by
  rw [sWhile_step]
  congr; funext k S1; cases k
  · rfl
  · show _ = loopR (sWhile c b) (b ρ S1)
    cases b ρ S1 <;> rfl
variable {tg : FG} {b : FS} {r : List D} {fi : FI}
def tgR (w b : FS) (o : Option (FEnv × Store)) : RS := match o with
  | some (ρ1, S1) => loopR w (b ρ1 S1)
  | none => .no
@[simp] theorem tgR_some : tgR w b (some (ρ, S)) = loopR w (b ρ S) := rfl
@[simp] theorem forL_nil : forL tg b none [] ρ S = .nx ρ S := by
  unfold forL gchk; rw [if_pos (by unfold gd; trivial)]
theorem forL_cons : forL tg b none (d :: r) ρ S = tgR (forL tg b none r) b (tg d ρ S) := by
  show gchk none S _ _ = _
  unfold gchk
  rw [if_pos (by unfold gd; trivial)]
  cases tg d ρ S with
  | none => rfl
  | some p =>
    obtain ⟨ρ1, S1⟩ := p
    show (match b ρ1 S1 with
      | .nx ρ2 S2 => forL tg b none r ρ2 S2
      | .ct ρ2 S2 => forL tg b none r ρ2 S2
      | .bk ρ2 S2 => .nx ρ2 S2
      | z => z) = loopR _ (b ρ1 S1)
    cases b ρ1 S1 <;> rfl
@[simp] theorem sFor_ap : sFor fi tg b ρ S = (fi ρ S).toS ρ fun p S1 => forL tg b p.2 p.1 ρ S1 := rfl
def itL (d : D) (S : Store) : RE Its' := match iSeq S d with
  | some p => .ok p S
  | none => .no
def itT (d : D) (S : Store) : RE Its' := match d with
  | .tup ds => .ok (ds, none) S
  | _ => .no
def itS (d : D) (S : Store) : RE Its' := match d with
  | .str z => .ok (chrs z, none) S
  | _ => .no
def itR (ds : List D) (S : Store) : RE Its' := match ds with
  | [.int j] => if -(2 ^ 62) ≤ j ∧ j < 2 ^ 62 then .ok (rngD 0 j.toNat, none) S else .no
  | _ => .no
@[simp] theorem fiL_ap {f : FE} : fiL f ρ S = (f ρ S).bnd itL := rfl
@[simp] theorem fiT_ap {f : FE} : fiT f ρ S = (f ρ S).bnd itT := rfl
@[simp] theorem fiS_ap {f : FE} : fiS f ρ S = (f ρ S).bnd itS := rfl
@[simp] theorem fiR1_ap {f : FA} : fiR1 f ρ S = (f ρ S).bnd itR := rfl
@[simp] theorem itL_lst {ds : List D} : itL (.lst ds) S = .ok (ds, none) S := rfl
@[simp] theorem itL_fls {ds : List D} : itL (.fls ds) S = .ok (ds, none) S := rfl
@[simp] theorem itT_tup {ds : List D} : itT (.tup ds) S = .ok (ds, none) S := rfl
@[simp] theorem itS_str {z : Str} : itS (.str z) S = .ok (chrs z, none) S := rfl
@[simp] theorem itR_int {j : Int} : itR [.int j] S = if -(2 ^ 62) ≤ j ∧ j < 2 ^ 62 then .ok (rngD 0 j.toNat, none) S else .no := rfl
end
/-! ### texts -/
@[simp] theorem len_of (s : String) : (Str.ofString s).length = s.toList.length := by
  have key : (Str.ofString s).cps.toList = s.toList.map Char.toNat := by
    show ((cpsOfBytes 0 0 s.toByteArray.data.toList).toArray).toList = _
    rw [cpsOfBytes_string]
  show (Str.ofString s).cps.size = _
  rw [← Array.length_toList, key, List.length_map]
theorem cps_of (s : String) : (Str.ofString s).cps = (s.toList.map Char.toNat).toArray := by
  show (cpsOfBytes 0 0 s.toByteArray.data.toList).toArray = _
  rw [cpsOfBytes_string]
/-! ### kinds -/
inductive Kd where
  | base (i : Fin 8)
  | unit
  | both (a b : Kd)
  | frm (a b : Kd)
deriving DecidableEq
namespace Kd
def d : Kd → D
  | .base i => .tup [.str "base", .int (i.val : Int)]
  | .unit => .tup [.str "unit"]
  | .both a b => .tup [.str "both", d a, d b]
  | .frm a b => .tup [.str "from", d a, d b]
def p : Kd → PyData
  | .base i => .tuple [.str "base", .int (i.val : Int)]
  | .unit => .tuple [.str "unit"]
  | .both a b => .tuple [.str "both", p a, p b]
  | .frm a b => .tuple [.str "from", p a, p b]
/-- how deep -/
def dep : Kd → Nat
  | .both a b => max (dep a) (dep b) + 1
  | .frm a b => max (dep a) (dep b) + 1
  | _ => 0
def sz : Kd → Nat
  | .both a b => sz a + sz b + 1
  | .frm a b => sz a + sz b + 1
  | _ => 1
theorem sz_pos : ∀ k : Kd, 0 < k.sz
  | .base _ => by simp [sz]
  | .unit => by simp [sz]
  | .both a b => by simp [sz]
  | .frm a b => by simp [sz]
def inn : Kd → List Kd
  | .both a b => [a, b]
  | .frm a b => [a, b]
  | _ => []
@[simp] theorem py0_d : ∀ k : Kd, py0 k.d = some k.p
  | .base i => by simp [d, p, py0, py0L]
  | .unit => by simp [d, p, py0, py0L]
  | .both a b => by simp [d, p, py0, py0L, py0_d a, py0_d b]
  | .frm a b => by simp [d, p, py0, py0L, py0_d a, py0_d b]
@[simp] theorem pyS_d (S : Store) : ∀ k : Kd, pyS S k.d = some k.p
  | .base i => by simp [d, p, pyS, pySL]
  | .unit => by simp [d, p, pyS, pySL]
  | .both a b => by simp [d, p, pyS, pySL, pyS_d S a, pyS_d S b]
  | .frm a b => by simp [d, p, pyS, pySL, pyS_d S a, pyS_d S b]
theorem py0L_map : ∀ ks : List Kd, py0L (ks.map d) = some (ks.map p)
  | [] => rfl
  | k :: ks => by simp [py0L, py0L_map ks]
@[simp] theorem lay_p : ∀ k : Kd, k.p.canLay0 = true
  | .base i => by simp [p, PyData.canLay0, PyData.canLayAll0]
  | .unit => by simp [p, PyData.canLay0, PyData.canLayAll0]
  | .both a b => by simp [p, PyData.canLay0, PyData.canLayAll0, lay_p a, lay_p b]
  | .frm a b => by simp [p, PyData.canLay0, PyData.canLayAll0, lay_p a, lay_p b]
theorem lay_map : ∀ ks : List Kd, PyData.canLayAll0 (ks.map p) = true
  | [] => rfl
  | k :: ks => by simp [PyData.canLayAll0, lay_map ks]
theorem depth_p : ∀ k : Kd, k.p.depth = k.dep + 1
  | .base i => by simp [p, PyData.depth, PyData.depthAll, dep]
  | .unit => by simp [p, PyData.depth, PyData.depthAll, dep]
  | .both a b => by simp [p, PyData.depth, PyData.depthAll, dep, depth_p a, depth_p b]
  | .frm a b => by simp [p, PyData.depth, PyData.depthAll, dep, depth_p a, depth_p b]
theorem eqvAll_c {x y : PyData} {xs ys : List PyData} : PyData.eqvAll (x :: xs) (y :: ys) = (PyData.eqv x y && PyData.eqvAll xs ys) := by simp only [PyData.eqvAll]
theorem eqvAll_n : PyData.eqvAll [] [] = true := by simp only [PyData.eqvAll]
theorem eqvAll_l {x : PyData} {xs : List PyData} : PyData.eqvAll (x :: xs) [] = false := by simp only [PyData.eqvAll]
theorem eqvAll_r {x : PyData} {xs : List PyData} : PyData.eqvAll [] (x :: xs) = false := by simp only [PyData.eqvAll]
theorem eqv_t {xs ys : List PyData} : PyData.eqv (.tuple xs) (.tuple ys) = PyData.eqvAll xs ys := by simp only [PyData.eqv]
theorem eqv_s {x y : Str} : PyData.eqv (.str x) (.str y) = (x == y) := by simp only [PyData.eqv]
theorem eqv_i {x y : Int} : PyData.eqv (.int x) (.int y) = (x == y) := by simp only [PyData.eqv]
theorem eqv_p (a b : Kd) : PyData.eqv a.p b.p = decide (a = b) := by
  induction a generalizing b with
  | base i =>
    cases b with
    | base j =>
      have h1 : (i.val : Int) = (j.val : Int) ↔ i = j := by
        constructor
        · intro h; exact Fin.ext (by omega)
        · intro h; rw [h]
      by_cases h : i = j
      · subst h; simp [p, eqvAll_c, eqvAll_n, eqvAll_l, eqvAll_r, eqv_t, eqv_s, eqv_i]
      · have : ¬ (i.val : Int) = (j.val : Int) := fun z => h (h1.mp z)
        simp [p, eqvAll_c, eqvAll_n, eqvAll_l, eqvAll_r, eqv_t, eqv_s, eqv_i, h]
        omega
    | _ => simp [p, eqvAll_c, eqvAll_n, eqvAll_l, eqvAll_r, eqv_t, eqv_s, eqv_i]
  | unit => cases b <;> simp [p, eqvAll_c, eqvAll_n, eqvAll_l, eqvAll_r, eqv_t, eqv_s, eqv_i]
  | both a a' ha hb => cases b <;> simp [p, eqvAll_c, eqvAll_n, eqvAll_l, eqvAll_r, eqv_t, eqv_s, eqv_i, ha, hb]
  | frm a a' ha hb => cases b <;> simp [p, eqvAll_c, eqvAll_n, eqvAll_l, eqvAll_r, eqv_t, eqv_s, eqv_i, ha, hb]
@[simp] theorem und_d (n : Nat) : ∀ k : Kd, k.d.under n = true
  | .base i => by simp [d, D.under, underL]
  | .unit => by simp [d, D.under, underL]
  | .both a b => by simp [d, D.under, underL, und_d n a, und_d n b]
  | .frm a b => by simp [d, D.under, underL, und_d n a, und_d n b]
theorem eqE_d {a b : Kd} {S : Store} : eqE S a.d b.d = none ∨ eqE S a.d b.d = some (decide (a = b)) := by
  cases b with
  | unit => right; cases a <;> simp [d, eqE]
  | _ => exact .inl rfl
theorem gEq_d {a b : Kd} {S : Store} (h : min a.dep b.dep < 200) : gEq a.d b.d S = .ok (.bl (decide (a = b))) S := by
  have ok : okPy a.p b.p = true := by
    simp [okPy, depth_p]; omega
  unfold gEq
  rcases eqE_d (a := a) (b := b) (S := S) with e | e
  · rw [e]; simp [ok, eqv_p]
  · rw [e]
theorem gNe_d {a b : Kd} {S : Store} (h : min a.dep b.dep < 200) : gNe a.d b.d S = .ok (.bl (!decide (a = b))) S := by
  have ok : okPy a.p b.p = true := by
    simp [okPy, depth_p]; omega
  unfold gNe
  rcases eqE_d (a := a) (b := b) (S := S) with e | e
  · rw [e]; simp [ok, eqv_p]
  · rw [e]
theorem d_tup : ∀ k : Kd, ∃ ds, k.d = .tup ds
  | .base i => ⟨_, rfl⟩
  | .unit => ⟨_, rfl⟩
  | .both a b => ⟨_, rfl⟩
  | .frm a b => ⟨_, rfl⟩
@[simp] theorem isi_d {T : String} {S : Store} (k : Kd) : isiR T k.d S = .ok (.bl (decide (T = "tuple"))) S := by
  obtain ⟨ds, h⟩ := d_tup k
  rw [h]; simp
theorem d_inj : ∀ {a b : Kd}, a.d = b.d → a = b := by
  intro a b h
  have h1 : py0 a.d = py0 b.d := by rw [h]
  rw [py0_d, py0_d] at h1
  have h2 : PyData.eqv a.p b.p = true := by
    rw [Option.some.inj h1, eqv_p]; simp
  rw [eqv_p] at h2
  simpa using h2
end Kd
end Kw

/-! Kw12: an exception in hand. -/
namespace Kw
open PySem PySem.Spec PyProof.Rows L2

/-- isinstance of the exception in hand (at a), whose answer is b -/
def fIsE (a : Addr) (b : Bool) (f : FE) : FE := fun ρ S => (f ρ S).bnd fun x S1 => match x with
  | .exn a' => if a' = a then .ok (.bl b) S1 else .no
  | _ => .no
/-- y's class is one that isinstance can be asked of -/
def ExcK (K : PySem.W.Frag) (mg : Str → Option Value) (y : Str) : Prop := ∃ C, mg y = some (.ref C) ∧ ExcC K C
/-- what isinstance answers for an exception of class y, asked for the program's class x -/
def IsxO (K : PySem.W.Frag) (mg : Str → Option Value) (y x : Str) (b : Bool) : Prop := ∃ C B, mg y = some (.ref C) ∧ mg x = some (.ref B) ∧ PySem.W.kitOne K (.ref C) (.ref B) = some b
/-- the same for a built-in class -/
def IsxB (K : PySem.W.Frag) (mg : Str → Option Value) (y : Str) (T : String) (b : Bool) : Prop := ∃ C, mg y = some (.ref C) ∧ PySem.W.kitOne K (.ref C) (.type T) = some b
section
variable {X : Cx} {W : WX} {o : Expr} {fe : FE} {a : Addr} {oe : Obj} {pn : List (Addr × Obj)} {y x : Str} {C : Addr} {b : Bool} {p q pos : Pos}
theorem isE_core {T : V} {cv : Value} (hX : ExcC X.K C) (hz : Zc (.ref C) none oe) (hf : ∃ vs, oe.data = .fields vs) (hcv : ∀ u, RelV T u → u = cv) (hk : PySem.W.kitOne X.K (.ref C) cv = some b)
    (hg : Gl X "isinstance") (hm : X.mg "isinstance" = none) (ho : PE (X.suite a ((a, oe) :: pn)) o (tF X W fe)) (hx : PE (X.suite a ((a, oe) :: pn)) (.Name x q) (tC T))
    (h1 : starEach [o, .Name x q] X.env = (false, eval o X.env) :: starEach [.Name x q] X.env) (h2 : starEach [.Name x q] X.env = (false, eval (.Name x q) X.env) :: starEach [] X.env) (hpl : (backTo pos (starEach [.Name x q] X.env)).any (·.1) = false) :
    PE (X.suite a ((a, oe) :: pn)) (.Call (.Name "isinstance" p) [o, .Name x q] [] pos) (tF X W (fIsE a b fe)) := by
  refine PE.wk (pe_callB (call_isE hX hz hf) hg hm (by decide +kernel) (pa_cons ho (pa_cons hx pa_nil h2) h1) (by decide) (by decide) h1 hpl) fun σ H Q ⟨w, ρ, S, s, en, h⟩ => ?_
  refine ⟨w, ρ, S, s, en, (End.bind (R := fun w H => Rp X.K X.mg w H) h).imp ?_ (fun _ _ _ z => z)⟩
  rintro v H1 ⟨w1, S1, d, e1, s1, r1, h3⟩
  cases d with
  | exn a' =>
    simp only at h3
    split at h3
    · rename_i ea
      subst ea
      have ev : v = .ref a' := by unfold Rp at r1; exact r1
      exact ⟨T, cv, b, by rw [ev], hcv, hk, h3.ret s1 rp_b⟩
    · exact h3.elim
  | _ => exact h3.elim
theorem q_isE (hy : ExcK X.K X.mg y) (hyC : X.mg y = some (.ref C)) (hi : IsxO X.K X.mg y x b) (hz : Zc (.ref C) none oe) (hf : ∃ vs, oe.data = .fields vs)
    (hg : Gl X "isinstance") (hm : X.mg "isinstance" = none) (hgx : Gl X x) (ho : PE (X.suite a ((a, oe) :: pn)) o (tF (X.suite a ((a, oe) :: pn)) W fe)) (hd : (x == ("__debug__" : Str)) = false := by decide)
    (h1 : starEach [o, .Name x q] X.env = (false, eval o X.env) :: starEach [.Name x q] X.env := by rfl) (h2 : starEach [.Name x q] X.env = (false, eval (.Name x q) X.env) :: starEach [] X.env := by rfl) (hpl : (backTo pos (starEach [.Name x q] X.env)).any (·.1) = false := by rfl) :
    PE (X.suite a ((a, oe) :: pn)) (.Call (.Name "isinstance" p) [o, .Name x q] [] pos) (tF (X.suite a ((a, oe) :: pn)) W (fIsE a b fe)) := by
  obtain ⟨C1, m1, k1⟩ := hy
  obtain ⟨C2, B, m2, m3, k2⟩ := hi
  cases hyC.symm.trans m1
  cases hyC.symm.trans m2
  exact isE_core (T := .ref B) (cv := .ref B) k1 hz hf (fun u r => r) k2 hg hm ho (pe_glob hgx m3 rfl hd) h1 h2 hpl
theorem q_isEB {T : String} (hy : ExcK X.K X.mg y) (hyC : X.mg y = some (.ref C)) (hi : IsxB X.K X.mg y T b) (hz : Zc (.ref C) none oe) (hf : ∃ vs, oe.data = .fields vs)
    (hg : Gl X "isinstance") (hm : X.mg "isinstance" = none) (hgx : Gl X x) (hmx : X.mg x = none) (hvT : bootBuiltins x = some (.type T)) (ho : PE (X.suite a ((a, oe) :: pn)) o (tF (X.suite a ((a, oe) :: pn)) W fe)) (hn : x ≠ "__name__" := by decide) (hd : (x == ("__debug__" : Str)) = false := by decide)
    (h1 : starEach [o, .Name x q] X.env = (false, eval o X.env) :: starEach [.Name x q] X.env := by rfl) (h2 : starEach [.Name x q] X.env = (false, eval (.Name x q) X.env) :: starEach [] X.env := by rfl) (hpl : (backTo pos (starEach [.Name x q] X.env)).any (·.1) = false := by rfl) :
    PE (X.suite a ((a, oe) :: pn)) (.Call (.Name "isinstance" p) [o, .Name x q] [] pos) (tF (X.suite a ((a, oe) :: pn)) W (fIsE a b fe)) := by
  obtain ⟨C1, m1, k1⟩ := hy
  obtain ⟨C2, m2, k2⟩ := hi
  cases hyC.symm.trans m1
  cases hyC.symm.trans m2
  exact isE_core (T := .ty T) (cv := .type T) k1 hz hf (fun u r => r) k2 hg hm ho (pe_bltn hgx hmx hvT rfl hn hd) h1 h2 hpl
end
/-! ### except X as e -/
def RS.clr (i : Nat) (r : RS) : RS := match r with
  | .nx ρ S => .nx (ρ.set i none) S
  | .bk ρ S => .bk (ρ.set i none) S
  | .ct ρ S => .ct (ρ.set i none) S
  | r => r
/-- a result that no address matters to -/
noncomputable def aInd (R : Addr → RS) : RS := open Classical in if ∀ a, R a = R 0 then R 0 else .no
theorem aInd_at {R : Addr → RS} {r : RS} (a : Addr) (h : aInd R = r) (hn : r ≠ .no) : R a = r := by
  unfold aInd at h
  split at h
  · rename_i hh; rw [hh a, h]
  · exact absurd h.symm hn
theorem aInd_eq {R : Addr → RS} {r : RS} (h : ∀ a, R a = r) : aInd R = r := by
  unfold aInd
  rw [if_pos (fun a => by rw [h a, h 0]), h 0]
/-- es: the classes that may come; sub: those that the clause names; i: the name's slot -/
noncomputable def sTryAs (es : List Str) (sub : Str → Bool) (i : Nat) (b : FS) (c : Str → Addr → FS) : FS := fun ρ S => match b ρ S with
  | .ex x ρ' S' => if x.cls ∈ es ∧ x.ns = [] then (if sub x.cls then aInd (fun a => ((c x.cls a (ρ'.set i (some (.exn a))) S').clr i).noX) else .ex x ρ' S') else .no
  | r => r
section
variable {X : Cx} {W : WX} {x n : Str} {pos pos' np : Pos} {i : Nat}
theorem EndS.clr {K : PySem.W.Frag} {mg : Str → Option Value} {w : Wd} {H : Hp} {D : Ends} {r : RS} (h : EndS K mg w H ((r.clr i).noX) D W) :
    EndS K mg w H r { nx := fun σ' H' => D.nx (σ'.set i none) H', rt := D.rt, bk := fun σ' H' => D.bk (σ'.set i none) H', ct := fun σ' H' => D.ct (σ'.set i none) H' } W0 := by
  cases r with
  | nx ρ S => exact fun w' H' σ' e s en => h w' H' _ e s en.wipe1
  | bk ρ S => exact fun w' H' σ' e s en => h w' H' _ e s en.wipe1
  | ct ρ S => exact fun w' H' σ' e s en => h w' H' _ e s en.wipe1
  | rt d S => exact h
  | ex x ρ S => exact h.elim
  | no => exact h.elim
theorem q_tryAs {body suite : List Stmt} {b₀ : Stmt} {es : List Str} {sub : Str → Bool} {fb : FS} {fc : Str → Addr → FS} {c : Value} (hs : X.stack = X.env :: X.outer) (hf : X.env.frame = some X.env.locals) (hN : X.N.Nodup) (hi : X.N[i]? = some n) (hln : X.env.kindOf n = some .local) (hc : Names X x c) (tk : Takes X W)
    (hx : ∀ y ∈ es, ∀ cy, X.mg y = some cy → PySem.W.exmOne X.K cy c = some (sub y)) (hk : ∀ y ∈ es, ExcK X.K X.mg y)
    (hb : ∀ (W' : WX) (pn : List (Addr × Obj)) (xe : Value → Shared → Prop), Takes (X.tr pn xe) W' → PassesOwn (model X.prog X.w) X.A X.env xe → PSs (X.tr pn xe) body (tS (X.tr pn xe) W' fb))
    (hsu : ∀ (y : Str), y ∈ es → ∀ (a : Addr) (oe : Obj) (pn : List (Addr × Obj)) (C : Addr), X.mg y = some (.ref C) → Zc (.ref C) none oe → (∃ vs, oe.data = .fields vs) → PSs (X.suite a ((a, oe) :: pn)) (b₀ :: suite) (tS (X.suite a ((a, oe) :: pn)) W0 (fc y a))) :
    PS X (.Try body [.ExceptHandler (some (.Name x np)) (some n) (b₀ :: suite) pos'] [] [] pos) (tS X W (sTryAs es sub i fb fc)) := by
  refine PS.wk (ps_try_as (i := i) (tb := fun W' => tS X W' fb) (ts := fun a cls d => fun D σ H => ∃ y C, y ∈ es ∧ X.mg y = some (.ref C) ∧ cls = .ref C ∧ d = none ∧ tS X W0 (fc y a) D σ H) (Wout := W) hs hf hN hi hln hc tk (fun W' pn xe t o => hb W' pn xe t o) (fun a oe cls d pn hz hd => ?_)) fun D σ H ⟨w, ρ, S, s, en, h⟩ => ?_
  · refine ⟨fun pins s σ H D I h => ?_⟩
    obtain ⟨y, C, hy, hyC, rfl, rfl, t⟩ := h
    exact (hsu y hy a oe pn C hyC hz hd).run pins s σ H D I t
  refine ⟨w, ρ, S, s, en, ?_⟩
  unfold sTryAs at h
  cases hbb : fb ρ S with
  | ex y ρ' S' =>
    rw [hbb] at h
    simp only at h
    split at h
    · rename_i hm
      intro w' H' σ' cy od e s' en' ex
      obtain ⟨gy, hr⟩ := ex
      obtain ⟨C, gC, kC⟩ := hk _ hm.1
      cases gC.symm.trans gy
      have hod : od = none := by
        rcases hr with ⟨_, _, z⟩ | ⟨d, vs, z, _⟩
        · exact z
        · exact absurd hm.2 z
      refine ⟨sub y.cls, hx _ hm.1 _ gy, fun hs a na => ?_, fun hs => ?_⟩
      · rw [if_pos hs] at h
        refine ⟨y.cls, C, hm.1, gC, rfl, hod, w', ρ'.set i (some (.exn a)), S', s', en'.set (by unfold Rp; rfl), ?_⟩
        have h2 := h.on e
        by_cases hno : aInd (fun a => ((fc y.cls a (ρ'.set i (some (.exn a))) S').clr i).noX) = .no
        · rw [hno] at h2; exact h2.elim
        · rw [← aInd_at a rfl hno] at h2
          exact h2.clr
      · rw [if_neg (by rw [hs]; decide)] at h
        exact h w' H' σ' (.ref C) od e s' en' ⟨gy, hr⟩
    · exact h.elim
  | _ => rw [hbb] at h; exact h
end
end Kw

/-! Kw13: index and count of lists of data; several classes in clauses. -/
namespace Kw
open PySem PySem.Spec PyProof.Rows L2
def gIdx (x : D) (ds : List D) (S : Store) : RE D := match ds with
  | [y] => (match pyS S x, pyS S y with
    | some (.list ps), some d => if SeqAt.shaped (.list ps) && SeqAt.shaped d then (match ps.findIdx? (fun z => PyData.eqv z d) with
      | some j => .ok (.int (j : Nat)) S
      | none => .no) else .no
    | _, _ => .no)
  | _ => .no
def gCnt (x : D) (ds : List D) (S : Store) : RE D := match ds with
  | [y] => (match pyS S x, pyS S y with
    | some (.list ps), some d => if PyData.canLayAll0 ps && d.canLay0 && decide (min (PyData.depthAll ps) d.depth ≤ 190) then .ok (.int (ps.countP (fun z => PyData.eqv z d) : Nat)) S else .no
    | _, _ => .no)
  | _ => .no
def rCntD (K : PySem.W.Frag) : V → List V → Hp → VK → Prop := fun x xs H Q => ∃ (a : Addr) (y : V) (d : PyData) (ps : List PyData), x = .ref a ∧ xs = [y] ∧ Dp K H x (.list ps) ∧ Dp K H y d ∧ PyData.canLayAll0 ps = true ∧ d.canLay0 = true ∧ min (PyData.depthAll ps) d.depth ≤ 190 ∧
  Q (.int (ps.countP (fun z => PyData.eqv z d) : Nat)) H
section
variable {X : Cx}
theorem mt_cntD (hu : X.A.units + 200 < cLine) : MtR X "list.count" (rCntD X.K) := by
  intro pins s σ H x xs v us Q I rx rxs h
  obtain ⟨a, y, d, ps, rfl, rfl, hl, hy, c1, c2, c3, q⟩ := h
  cases rx
  obtain ⟨uy, rfl, ry⟩ := rxs.one
  obtain ⟨bs, r1⟩ := Dp.reads I d y uy hy ry
  cases hl with
  | lst hs ha =>
    obtain ⟨its, rv, ⟨⟨cls, dd, data, sls⟩, n, ho, hc, hdn, hdt⟩, hlen⟩ := I.list hs
    dsimp only at hc hdt
    subst hc hdt
    obtain ⟨as, h4⟩ := Dp.readsAll I ps _ its ha rv
    have hmap : its.map (SeqAt.readOf s.heap) = ps := SeqAt.readsAll_map ps its as c1 h4
    have go := SeqAt.list_countAt a its.toArray n dd sls uy (fun u => PyData.eqv (SeqAt.readOf s.heap u) d)
    have eqs := SeqAt.items_eqAt (A := X.A) (vs := its.toArray) (show ReadsAll s.heap its.toArray.toList ps as from h4) r1 c1 c2 (by omega)
    refine call_meets PySem.F.slot_list_count ⟨_, ho, rfl⟩ PySem.F.entry_list_count (PySem.F.args_list_count_2 _ _) go ⟨ho, eqs, ?_⟩
    have e1 : its.toArray.toList.countP (fun u => PyData.eqv (SeqAt.readOf s.heap u) d) = ps.countP fun z => PyData.eqv z d := by
      rw [← hmap, List.countP_map]; rfl
    exact ⟨.int (ps.countP (fun z => PyData.eqv z d) : Nat), H, I.tok _, ⟨s.toks, congrArg (fun k : Nat => Value.int (k : Int) s.toks) e1⟩, q⟩
variable {K : PySem.W.Frag} {mg : Str → Option Value}
theorem cnt_v : MtV K mg (rCntD K) gCnt := by
  intro w S H x xs d ds Q E s r1 r2 h
  unfold gCnt at h
  split at h
  · rename_i y
    split at h
    · rename_i ps p h1 h2
      split at h
      · rename_i hk
        simp only [Bool.and_eq_true, decide_eq_true_eq] at hk
        obtain ⟨v, rfl, r3⟩ := r2.one_inv
        have k1 := pyS_at s d x _ r1 h1
        have k2 := pyS_at s y v _ r3 h2
        have k1' := k1
        cases k1 with
        | lst hs ha => exact ⟨_, v, p, ps, rfl, rfl, k1', k2, hk.1.1, hk.1.2, hk.2, h.ret s rp_i⟩
      · exact h.elim
    · exact h.elim
  · exact h.elim
theorem idx_v : MtV K mg (rIndexD K) gIdx := by
  intro w S H x xs d ds Q E s r1 r2 h
  unfold gIdx at h
  split at h
  · rename_i y
    split at h
    · rename_i ps p h1 h2
      split at h
      · rename_i hk
        rw [Bool.and_eq_true] at hk
        split at h
        · rename_i j hj
          obtain ⟨v, rfl, r3⟩ := r2.one_inv
          have k1 := pyS_at s d x _ r1 h1
          have k2 := pyS_at s y v _ r3 h2
          obtain ⟨hl, hp, hno⟩ := List.findIdx?_eq_some_iff_getElem.mp hj
          have k1' := k1
          cases k1 with
          | lst hs ha =>
            refine ⟨_, v, p, ps, j, ps[j], rfl, rfl, k1', k2, hk.1, hk.2, List.getElem?_eq_getElem hl, hp, fun m z' hm hz => ?_, h.ret s rp_i⟩
            obtain ⟨hml, e⟩ := List.getElem?_eq_some_iff.mp hz
            have := hno m hm
            rw [e] at this
            simpa using this
        · exact h.elim
      · exact h.elim
    · exact h.elim
  · exact h.elim
end
theorem hu65 {A : Around} {k : Nat} (hr : RoomG k A) : A.units + 65 < cLine := by have := hr.rm.un; omega
/-! ### classes in clauses -/
def CatY (K : PySem.W.Frag) (mg : Str → Option Value) (c : Value) (y : Str) (b : Bool) : Prop := ∃ C, mg y = some (.ref C) ∧ PySem.W.exmOne K (.ref C) c = some b
/-- what a clause over x catches of the classes es -/
def CatF (K : PySem.W.Frag) (mg : Str → Option Value) (es : List Str) (x : Str) (sub : Str → Bool) : Prop := ∃ c, mg x = some c ∧ ∀ y ∈ es, CatY K mg c y (sub y)
section
variable {X : Cx} {W : WX} {x n : Str} {pos pos' np : Pos} {i : Nat} {body suite : List Stmt} {b₀ : Stmt} {es : List Str} {sub : Str → Bool} {fb : FS}
theorem CatF.names (h : CatF X.K X.mg es x sub) (hg : Gl X x) (hd : (x == ("__debug__" : Str)) = false) : ∃ c, Names X x c ∧ ∀ y ∈ es, ∀ cy, X.mg y = some cy → PySem.W.exmOne X.K cy c = some (sub y) := by
  obtain ⟨c, m, h⟩ := h
  refine ⟨c, ⟨hg, hd, .inl m⟩, fun y hy cy e => ?_⟩
  obtain ⟨C, m2, k⟩ := h y hy
  cases e.symm.trans m2
  exact k
theorem q_tryA {fc : Str → Addr → FS} (h : CatF X.K X.mg es x sub) (hg : Gl X x) (hs : X.stack = X.env :: X.outer) (hf : X.env.frame = some X.env.locals) (hN : X.N.Nodup) (hi : X.N[i]? = some n) (hln : X.env.kindOf n = some .local) (tk : Takes X W) (hk : ∀ y ∈ es, ExcK X.K X.mg y)
    (hb : ∀ (W' : WX) (pn : List (Addr × Obj)) (xe : Value → Shared → Prop), Takes (X.tr pn xe) W' → PassesOwn (model X.prog X.w) X.A X.env xe → PSs (X.tr pn xe) body (tS (X.tr pn xe) W' fb))
    (hsu : ∀ (y : Str), y ∈ es → ∀ (a : Addr) (oe : Obj) (pn : List (Addr × Obj)) (C : Addr), X.mg y = some (.ref C) → Zc (.ref C) none oe → (∃ vs, oe.data = .fields vs) → PSs (X.suite a ((a, oe) :: pn)) (b₀ :: suite) (tS (X.suite a ((a, oe) :: pn)) W0 (fc y a))) (hd : (x == ("__debug__" : Str)) = false := by decide) :
    PS X (.Try body [.ExceptHandler (some (.Name x np)) (some n) (b₀ :: suite) pos'] [] [] pos) (tS X W (sTryAs es sub i fb fc)) := by
  obtain ⟨c, nm, hx⟩ := h.names hg hd
  exact q_tryAs hs hf hN hi hln nm tk hx hk hb hsu
theorem q_tryO {fc : FS} (h : CatF X.K X.mg es x sub) (hg : Gl X x) (hs : X.stack = X.env :: X.outer) (hf : X.env.frame = some X.env.locals) (tk : Takes X W)
    (hb : ∀ (W' : WX) (pn : List (Addr × Obj)) (xe : Value → Shared → Prop), Takes (X.tr pn xe) W' → PassesOwn (model X.prog X.w) X.A X.env xe → PSs (X.tr pn xe) body (tS (X.tr pn xe) W' fb))
    (hsu : ∀ (a : Addr) (pn : List (Addr × Obj)), PSs (X.suite a pn) (b₀ :: suite) (tS (X.suite a pn) W0 fc)) (hd : (x == ("__debug__" : Str)) = false := by decide) :
    PS X (.Try body [.ExceptHandler (some (.Name x np)) none (b₀ :: suite) pos'] [] [] pos) (tS X W (sTry es sub fb fc)) := by
  obtain ⟨c, nm, hx⟩ := h.names hg hd
  exact q_try hs hf nm tk hx hb hsu
end
section
variable {K : PySem.W.Frag} {mg : Str → Option Value} {h : Heap}
theorem kit_own {C B : Addr} {b : Bool} (hd : PySem.W.hasDictIn K B = true) (ht : PySem.W.typeIn K (.ref B) = some (.type "type")) (h4 : PySem.W.subIn K (.ref C) (.ref B) = some b) (ne : b = true ∨ (C == B) = false) : PySem.W.kitOne K (.ref C) (.ref B) = some b := by
  obtain ⟨cd, hc, _⟩ := PySem.W.any_some hd
  have k : PySem.W.kitCls K (.ref C) (.ref B) = some b := by
    have e2 : ((PySem.W.clsIn K B).isSome && PySem.W.typeIn K (.ref B) == some (.type "type")) = true := by rw [hc, ht] <;> rfl
    show (if ((PySem.W.clsIn K B).isSome && PySem.W.typeIn K (.ref B) == some (.type "type")) = true then PySem.W.subIn K (.ref C) (.ref B) else none) = some b
    rw [if_pos e2]; exact h4
  unfold PySem.W.kitOne
  split
  · rename_i q
    rcases ne with rfl | ne
    · rfl
    · have q2 : C = B := Value.ref.inj (beq_iff_eq.mp q)
      rw [q2] at ne; simp at ne
  · exact k
theorem kit_bltn {C : Addr} {T : String} {b : Bool} (hm : PySem.W.kitMeta T = true) (h4 : PySem.W.subIn K (.ref C) (.type T) = some b) : PySem.W.kitOne K (.ref C) (.type T) = some b := by
  unfold PySem.W.kitOne
  split
  · rename_i q
    cases (beq_iff_eq.mp q)
  · show (if PySem.W.kitMeta T = true then PySem.W.subIn K (.ref C) (.type T) else none) = some b
    rw [if_pos hm]; exact h4
theorem isxo_mk {y x : Str} {C B : Addr} {b b' : Bool} (X : K.In h) (G : h.Ns mainGlobals mg) (z1 : PySem.W.nsIn K mainGlobals y = some (some (.ref C))) (z2 : PySem.W.nsIn K mainGlobals x = some (some (.ref B))) (e : b = b') (hd : PySem.W.hasDictIn K B = true) (ht : PySem.W.typeIn K (.ref B) = some (.type "type")) (h4 : PySem.W.subIn K (.ref C) (.ref B) = some b') (ne : b' = true ∨ (C == B) = false) : IsxO K mg y x b :=
  ⟨C, B, PySem.W.mg_of X G z1, PySem.W.mg_of X G z2, by rw [e]; exact kit_own hd ht h4 ne⟩
theorem isxb_mk {y : Str} {T : String} {C : Addr} {b b' : Bool} (X : K.In h) (G : h.Ns mainGlobals mg) (z1 : PySem.W.nsIn K mainGlobals y = some (some (.ref C))) (e : b = b') (hm : PySem.W.kitMeta T = true) (h4 : PySem.W.subIn K (.ref C) (.type T) = some b') : IsxB K mg y T b :=
  ⟨C, PySem.W.mg_of X G z1, by rw [e]; exact kit_bltn hm h4⟩
theorem exck_mk {y : Str} {C : Addr} (X : K.In h) (G : h.Ns mainGlobals mg) (z1 : PySem.W.nsIn K mainGlobals y = some (some (.ref C))) (k : ExcC K C) : ExcK K mg y := ⟨C, PySem.W.mg_of X G z1, k⟩
theorem caty_mk {y : Str} {C B : Addr} {b b' : Bool} (X : K.In h) (G : h.Ns mainGlobals mg) (z1 : PySem.W.nsIn K mainGlobals y = some (some (.ref C))) (e : b = b') (h1 : PySem.W.subIn K (.ref B) (.type "BaseException") = some true) (hd : PySem.W.hasDictIn K B = true) (ht : PySem.W.typeIn K (.ref B) = some (.type "type")) (h4 : PySem.W.subIn K (.ref C) (.ref B) = some b') : CatY K mg (.ref B) y b :=
  ⟨C, PySem.W.mg_of X G z1, by rw [e]; exact PySem.W.exm_ref h1 hd ht h4⟩
theorem cat_mk {es : List Str} {x : Str} {sub : Str → Bool} {B : Addr} (X : K.In h) (G : h.Ns mainGlobals mg) (z : PySem.W.nsIn K mainGlobals x = some (some (.ref B))) (l : ∀ y ∈ es, CatY K mg (.ref B) y (sub y)) : CatF K mg es x sub := ⟨.ref B, PySem.W.mg_of X G z, l⟩
end
end Kw

/-! Kw14: comprehensions and loops, reckoned. -/
namespace Kw
open PySem PySem.Spec PyProof.Rows L2
section
variable {tg : FG} {tt : FT} {te : FE} {ρ : FEnv} {gg : Option (Nat × List D)} {S : Store} {acc ds : List D} {b : FS}
theorem compL_nil (hg : gd gg S) : compL tg tt te gg ρ [] acc S = .ok acc S := by
  unfold compL gchk; rw [if_pos hg]
theorem compL_step {d y : D} {ρ1 : FEnv} {S1 S2 S3 : Store} (hg : gd gg S) (h1 : tg d ρ S = some (ρ1, S1)) (h2 : tt ρ1 S1 = .ok true S2) (h3 : te ρ1 S2 = .ok y S3) (hl : acc.length < sizeLine) :
    compL tg tt te gg ρ (d :: ds) acc S = compL tg tt te gg ρ ds (acc ++ [y]) S3 := by
  conv => lhs; unfold compL
  unfold gchk
  rw [if_pos hg, h1]
  simp [h2, h3, hl]
theorem compL_skip {d : D} {ρ1 : FEnv} {S1 S2 : Store} (hg : gd gg S) (h1 : tg d ρ S = some (ρ1, S1)) (h2 : tt ρ1 S1 = .ok false S2) :
    compL tg tt te gg ρ (d :: ds) acc S = compL tg tt te gg ρ ds acc S2 := by
  conv => lhs; unfold compL
  unfold gchk
  rw [if_pos hg, h1]
  simp [h2]
theorem compL_map (f : D → D) (hg : gd gg S) : ∀ (ds acc : List D), (∀ d ∈ ds, ∃ ρ1, tg d ρ S = some (ρ1, S) ∧ tt ρ1 S = .ok true S ∧ te ρ1 S = .ok (f d) S) → acc.length + ds.length ≤ sizeLine →
    compL tg tt te gg ρ ds acc S = .ok (acc ++ ds.map f) S
  | [], acc, _, _ => by rw [compL_nil hg]; simp
  | d :: ds, acc, h, hl => by
    obtain ⟨ρ1, h1, h2, h3⟩ := h d List.mem_cons_self
    rw [compL_step hg h1 h2 h3 (by simp at hl; omega), compL_map f hg ds (acc ++ [f d]) (fun e he => h e (List.mem_cons_of_mem _ he)) (by simp at hl ⊢; omega)]
    simp
/-- a comprehension whose parts change the store -/
theorem compL_inv (I : Store → List D → Prop) : ∀ (ds acc : List D) (S : Store), (∀ d ∈ ds, ∀ S acc, I S acc → ∃ ρ1 y S', tg d ρ S = some (ρ1, S) ∧ tt ρ1 S = .ok true S ∧ te ρ1 S = .ok y S' ∧ I S' (acc ++ [y])) → I S acc → acc.length + ds.length ≤ sizeLine →
    ∃ acc' S', compL tg tt te none ρ ds acc S = .ok acc' S' ∧ I S' acc' ∧ acc'.length = acc.length + ds.length
  | [], acc, S, _, i, _ => ⟨acc, S, compL_nil (by unfold gd; trivial), i, by simp⟩
  | d :: ds, acc, S, h, i, hl => by
    obtain ⟨ρ1, y, S1, h1, h2, h3, i1⟩ := h d List.mem_cons_self S acc i
    obtain ⟨acc', S', e, i', l⟩ := compL_inv I ds (acc ++ [y]) S1 (fun e he => h e (List.mem_cons_of_mem _ he)) i1 (by simp at hl ⊢; omega)
    refine ⟨acc', S', ?_, i', by simp at l ⊢; omega⟩
    rw [compL_step (by unfold gd; trivial) h1 h2 h3 (by simp at hl; omega), e]
def lcR (c : Bool) (r : RE (List D)) : RE D := match r with
  | .ok acc S2 => if c then .ok (.loc S2.length) (S2 ++ [.lst acc]) else .ok (.lst acc) S2
  | _ => .no
@[simp] theorem lcR_f : lcR false (.ok acc S) = .ok (.lst acc) S := rfl
@[simp] theorem lcR_t : lcR true (.ok acc S) = .ok (.loc S.length) (S ++ [.lst acc]) := rfl
@[simp] theorem fLc_ap {c : Bool} {fi : FI} {vs : List Nat} : fLc c fi tg tt te vs ρ S = (fi ρ S).bnd fun p S1 => lcR c (compL tg tt te p.2 (wipeR ρ vs) p.1 [] S1) := rfl
@[simp] theorem fYes_ap : fYes ρ S = .ok true S := rfl
@[simp] theorem gAll_lst {bs : List Bool} : gAll [.lst (bs.map .bl)] S = .ok (.bl (bs.all id)) S := by
  have : ∀ bs : List Bool, blsOf (bs.map .bl) = some bs := by
    intro bs
    induction bs with
    | nil => rfl
    | cons b bs ih => simp [blsOf, ih]
  show (match (some (bs.map D.bl)).bind blsOf with
    | some bs => RE.ok (D.bl (bs.all id)) S
    | none => .no) = _
  simp [this]
/-- a loop's invariant -/
theorem forL_inv (I : FEnv → Store → Prop) : ∀ (ds : List D) (ρ : FEnv) (S : Store), (∀ d ∈ ds, ∀ ρ S, I ρ S → ∃ ρ1 S1 ρ2 S2, tg d ρ S = some (ρ1, S1) ∧ (b ρ1 S1 = .nx ρ2 S2 ∨ b ρ1 S1 = .ct ρ2 S2) ∧ I ρ2 S2) → I ρ S →
    ∃ ρ' S', forL tg b none ds ρ S = .nx ρ' S' ∧ I ρ' S'
  | [], ρ, S, _, i => ⟨ρ, S, by simp, i⟩
  | d :: ds, ρ, S, h, i => by
    obtain ⟨ρ1, S1, ρ2, S2, h1, h2, i2⟩ := h d List.mem_cons_self ρ S i
    obtain ⟨ρ', S', e, i'⟩ := forL_inv I ds ρ2 S2 (fun e he => h e (List.mem_cons_of_mem _ he)) i2
    refine ⟨ρ', S', ?_, i'⟩
    rw [forL_cons, h1]
    rcases h2 with h2 | h2 <;> simp [h2, e]
end
/-- an exception in hand, asked -/
@[simp] theorem fIsE_ap {a : Addr} {b : Bool} {i : Nat} {ρ : FEnv} {S : Store} (h : ρ[i]? = some (some (.exn a))) : fIsE a b (fVar i) ρ S = .ok (.bl b) S := by
  have e : fVar i ρ S = .ok (.exn a) S := by
    unfold fVar; rw [h]
  unfold fIsE
  rw [e]
  simp
noncomputable def tryR (es : List Str) (sub : Str → Bool) (i : Nat) (c : Str → Addr → FS) (r : RS) : RS := match r with
  | .ex x ρ' S' => if x.cls ∈ es ∧ x.ns = [] then (if sub x.cls then aInd (fun a => ((c x.cls a (ρ'.set i (some (.exn a))) S').clr i).noX) else .ex x ρ' S') else .no
  | r => r
theorem sTryAs_ap {es : List Str} {sub : Str → Bool} {i : Nat} {b : FS} {c : Str → Addr → FS} {ρ : FEnv} {S : Store} : sTryAs es sub i b c ρ S = tryR es sub i c (b ρ S) := rfl
section
variable {es : List Str} {sub : Str → Bool} {i : Nat} {c : Str → Addr → FS} {ρ : FEnv} {S : Store} {d : D}
@[simp] theorem tryR_rt : tryR es sub i c (.rt d S) = .rt d S := rfl
@[simp] theorem tryR_nx : tryR es sub i c (.nx ρ S) = .nx ρ S := rfl
theorem tryR_ex {y : Str} {r : RS} (hy : y ∈ es) (hs : sub y = true) (h : ∀ a, ((c y a (ρ.set i (some (.exn a))) S).clr i).noX = r) : tryR es sub i c (.ex ⟨y, [], []⟩ ρ S) = r := by
  show (if y ∈ es ∧ ([] : List Str) = [] then (if sub y then aInd _ else _) else _) = _
  rw [if_pos ⟨hy, rfl⟩, if_pos hs]
  exact aInd_eq h
@[simp] theorem clr_rt : (RS.rt d S).clr i = .rt d S := rfl
@[simp] theorem clr_nx : (RS.nx ρ S).clr i = .nx (ρ.set i none) S := rfl
@[simp] theorem noX_rt : (RS.rt d S).noX = .rt d S := rfl
@[simp] theorem noX_nx : (RS.nx ρ S).noX = .nx ρ S := rfl
end
end Kw

/-! Kw15: several except clauses, with names and without. -/
namespace Kw
open PySem PySem.Spec PyProof.Rows L2
abbrev Cl := Value × Option Nat × (Addr → Value → Option Addr → TS)
/-- the ends after a clause whose name stands in slot i -/
def gone (i : Nat) (D : Ends) : Ends := { nx := fun z G => D.nx (z.set i none) G, rt := D.rt, bk := fun z G => D.bk (z.set i none) G, ct := fun z G => D.ct (z.set i none) G }
def hit (o : Option Nat) (ts : TS) (D : Ends) (a : Addr) (σ : L2.St) (H : Hp) : Prop := match o with
  | none => ts D σ H
  | some i => ts (gone i D) (σ.set i (some (.ref a))) H
/-- what the clauses wish of an exception -/
def wCls (K : PySem.W.Frag) (Wout : WX) (D : Ends) : List Cl → WX
  | [] => Wout
  | (c, o, ts) :: r => fun cls d σ H => ∃ b, PySem.W.exmOne K cls c = some b ∧ (b = true → ∀ a, H a = none → hit o (ts a cls d) D a σ H) ∧ (b = false → wCls K Wout D r cls d σ H)
def SuOk (X : Cx) (suite : List Stmt) (ts : Addr → Value → Option Addr → TS) : Prop :=
  ∀ (a : Addr) (oe : Obj) (cls : Value) (d : Option Addr) (pn : List (Addr × Obj)), Zc cls d oe → (∃ vs, oe.data = .fields vs) → PSs (X.suite a ((a, oe) :: pn)) suite (ts a cls d)
inductive ClsOk (X : Cx) : List ExceptHandler → List Cl → Prop
  | nil : ClsOk X [] []
  | plain {x : Str} {c : Value} {ts : Addr → Value → Option Addr → TS} {b₀ : Stmt} {su : List Stmt} {np q : Pos} {hds : List ExceptHandler} {l : List Cl} (nm : Names X x c) (k : SuOk X (b₀ :: su) ts) (r : ClsOk X hds l) :
      ClsOk X (.ExceptHandler (some (.Name x np)) none (b₀ :: su) q :: hds) ((c, none, ts) :: l)
  | named {x n : Str} {i : Nat} {c : Value} {ts : Addr → Value → Option Addr → TS} {b₀ : Stmt} {su : List Stmt} {np q : Pos} {hds : List ExceptHandler} {l : List Cl} (hi : X.N[i]? = some n) (hln : X.env.kindOf n = some .local) (nm : Names X x c) (k : SuOk X (b₀ :: su) ts) (r : ClsOk X hds l) :
      ClsOk X (.ExceptHandler (some (.Name x np)) (some n) (b₀ :: su) q :: hds) ((c, some i, ts) :: l)
section
variable {X : Cx} {body : List Stmt} {h₀ : ExceptHandler} {hds : List ExceptHandler} {l : List Cl} {pos : Pos} {tb : WX → TS} {Wout : WX}
theorem try_cls (stk : X.stack = X.env :: X.outer) (frm : X.env.frame = some X.env.locals) (hN : X.N.Nodup) (tk : Takes X Wout)
    (hb : ∀ (W' : WX) (pn : List (Addr × Obj)) (xe : Value → Shared → Prop), Takes (X.tr pn xe) W' → PassesOwn (model X.prog X.w) X.A X.env xe → PSs (X.tr pn xe) body (tb W'))
    (hh : ClsOk X (h₀ :: hds) l) : PS X (.Try body (h₀ :: hds) [] [] pos) (fun D σ H => tb (wCls X.K Wout D l) D σ H) := by
  refine ⟨fun pins s σ H D I pre => ?_⟩
  have ok := I.ok
  have frs0 : X.A.frames = some (X.env :: X.outer) := ok.frames.trans (congrArg some stk)
  let XE0 : Value → Shared → Prop := fun e s₁ => wpAny (model X.prog X.w) X.A (noteFrame e X.env) (fun _ s₂ => wpAny (model X.prog X.w) X.A (setFlight e none) (fun _ s₃ => wpAny (model X.prog X.w) X.A (handleBy e X.env (h₀ :: hds)) (SP X pins D) X.xe s₃) X.xe s₂) X.xe s₁
  have caught : Takes (X.tr (X.pn ++ pins) XE0) (wCls X.K Wout D l) := by
    rintro u s' ⟨a, B, sI, pins', σ', H', cls, d, rfl, J', nb, up, sky, na, os, ag, w⟩
    have J : Inv X pins σ' H' sI := J'.ofTry ok
    have sky' : Sky B (X.env :: X.outer) a (Zc cls d) X.env.locals s'.heap := stk ▸ sky
    show wpAny (model X.prog X.w) X.A (noteFrame (.ref a) X.env) _ _ _
    refine Sky.land Zc.steady frs0 frm sky' fun g3 fl3 u3 => ?_
    have J3 : Inv X pins σ' H' { s' with heap := g3 } := J.landed nb fl3.1 (up.trans u3) os ag
    obtain ⟨o3, v3, at3, z3, d3⟩ := fl3.there
    have off : ∀ {g : Heap} {o : Obj} {vs : Array Value}, g.FunFrames B (X.env :: X.outer) → g.get? a = some o → o.data = .fields vs → a ∉ frs (X.env :: X.outer) := by
      intro g o vs ff at_ dd hm
      obtain ⟨_, o', at', nd⟩ := ff.mem hm
      cases at_.symm.trans at'
      exact nd _ dd
    have n0 := off fl3.2.2.1 at3 d3
    have n1 : a ≠ X.env.locals := by
      rintro rfl
      exact n0 (List.mem_filterMap.mpr ⟨X.env, List.mem_cons_self, frm⟩)
    have n2 : a ∉ X.fs := by
      intro hm
      obtain ⟨e, he, q⟩ := List.mem_filterMap.mp hm
      exact n0 (List.mem_filterMap.mpr ⟨e, .tail _ he, q⟩)
    have S3 := J3.suite at3 d3 na n1 n2
    have LT : PySem.W.Looks (model X.prog X.w) g3 (typeOf (.ref a)) cls := fun A Q E s k q => wpAny_typeOf_ref (k _ _ at3) (z3.1.symm ▸ q)
    have go : ∀ {hs' : List ExceptHandler} {l' : List Cl}, ClsOk X hs' l' → wCls X.K Wout D l' cls d σ' H' → wpAny (model X.prog X.w) X.A (handleBy (.ref a) X.env hs') (SP X pins D) X.xe { s' with heap := g3 } := by
      intro hs' l' hk
      have ask : ∀ {x : Str} {c : Value} {np : Pos}, Names X x c → ∀ {Q E : Value → Shared → Prop}, Q c { s' with heap := g3 } → wpAny (model X.prog X.w) (X.A.mark (some (.ref a))) (eval (.Name x np) X.env) (fun v s => Q v s) E { s' with heap := g3 } := by
        rintro x c np ⟨hg, hdb, hm | ⟨hm, hv, hnn⟩⟩ Q E q
        · exact ld_glob (X := X.suite a ((a, o3) :: (X.pn ++ pins))) S3 hg hm q hdb
        · exact ld_blt (X := X.suite a ((a, o3) :: (X.pn ++ pins))) S3 hg hm hv q hnn hdb
      induction hk with
      | nil =>
        intro w
        refine wpAny_handleBy_nil ?_
        obtain ⟨_, _, _, oe, vs, T, oT, ts', he, hz, hd, h1, hr⟩ := id fl3
        unfold PySem.passOn
        refine wpAny_bind (wpAny_field he hd h1 ?_)
        rw [if_neg (by simp)]
        have up4 : wpAny (model X.prog X.w) X.A (setFlight (.ref a) X.env.frame) (fun _ s4 => wpAny (model X.prog X.w) X.A (throw (.ref a) : Sem Flow) (SP X pins D) X.xe s4) X.xe { s' with heap := g3 } := by
          rw [frm]
          exact HandSPX.setFlight_upZ fl3 fun g4 hg4 u4 => wpAny_throw (tk _ _ ⟨a, B, sI, pins, σ', H', cls, d, rfl, J, nb, (up.trans u3).trans u4, .inr (.inr (stk.symm ▸ hg4)), na, os, ag, w⟩)
        first
          | exact wpAny_bind (wpAny_pure (wpAny_bind up4))
          | exact wpAny_bind up4
      | @plain x c ts b₀ su np q hds2 l2 nm k r ih =>
        rintro ⟨b, hb1, yes, no⟩
        refine wpAny_handleBy_cons (codeAny_handlers_test ?_) (by intro z; cases z)
        refine ask nm ((PySem.W.exm_one (M := model X.prog X.w) J3.kIn LT hb1).here ?_)
        cases b with
        | false => exact ih (no rfl)
        | true =>
          refine codeAny_handlers_suite (HandSPX.lands_againZ fl3 fun g4 fl4 u4 => ?_)
          have J4 : Inv X pins σ' H' { s' with heap := g4 } := J.landed nb fl4.1 ((up.trans u3).trans u4) os ag
          obtain ⟨o4, v4, at4, z4, d4⟩ := fl4.there
          have S4 := J4.suite at4 d4 na n1 n2
          refine wpAny_mono ((k a o4 cls d (X.pn ++ pins) z4 ⟨_, d4⟩).run [] _ _ H' _ S4 (yes rfl a na)) (fun f s6 hsp => ?_) (fun _ _ z => False.elim z)
          cases f with
          | ret u => obtain ⟨v6, σ6, H6, S6, r6, q6⟩ := hsp; exact ⟨_, _, _, S6.unsuite ok, r6, q6⟩
          | _ => obtain ⟨σ6, H6, S6, q6⟩ := hsp; exact ⟨_, _, S6.unsuite ok, q6⟩
      | @named x n i c ts b₀ su np q hds2 l2 hi hln nm k r ih =>
        rintro ⟨b, hb1, yes, no⟩
        refine wpAny_handleBy_cons (codeAny_handlers_test ?_) (by intro z; cases z)
        refine ask nm ((PySem.W.exm_one (M := model X.prog X.w) J3.kIn LT hb1).here ?_)
        cases b with
        | false => exact ih (no rfl)
        | true =>
          refine codeAny_handlers_suite_as (HandSPX.lands_againZ fl3 fun g4 fl4 u4 => ?_)
          have J4 : Inv X pins σ' H' { s' with heap := g4 } := J.landed nb fl4.1 ((up.trans u3).trans u4) os ag
          obtain ⟨o4, v4, at4, z4, d4⟩ := fl4.there
          have S4 := J4.suite at4 d4 na n1 n2
          refine store_ok (X := X.suite a ((a, o4) :: (X.pn ++ pins))) (v := .ref a) S4 hN hi (.inl hln) rfl (fun s5 S5 => ?_) (.inr hln)
          refine wpAny_mono ((k a o4 cls d (X.pn ++ pins) z4 ⟨_, d4⟩).run [] s5 _ H' _ S5 (yes rfl a na)) (fun f s6 hsp => ?_) (fun _ _ z => False.elim z)
          have out : ∀ {σ6 : L2.St} {H6 : Hp} {Q : Shared → Prop}, Inv (X.suite a ((a, o4) :: (X.pn ++ pins))) [] σ6 H6 s6 → (∀ s7, Inv X pins (σ6.set i none) H6 s7 → Q s7) → wpAny (model X.prog X.w) X.A (do bindName X.env n .none; unbindBehindTheSuite X.env n q) (fun _ s7 => Q s7) X.xe s6 :=
            fun S6 hq => gone_ok (S6.unsuite ok) hN hi hln hq
          cases f with
          | ret u => obtain ⟨v6, σ6, H6, S6, r6, q6⟩ := hsp; exact out S6 fun s7 J7 => ⟨_, _, _, J7, r6, q6⟩
          | _ => obtain ⟨σ6, H6, S6, q6⟩ := hsp; exact out S6 fun s7 J7 => ⟨_, _, J7, q6⟩
    exact go hh w
  refine wpAny_Try_except (wpAny_mono ((hb _ (X.pn ++ pins) XE0 caught PassesOwn.looking).run [] s σ H D (I.toTry _) pre) (fun f s1 hsp => ?_) (fun e s1 he => he))
  cases f with
  | next => obtain ⟨σ', H', J', q⟩ := hsp; exact wpAny_execs_nil ⟨σ', H', J'.ofTry ok, q⟩
  | ret u => obtain ⟨v, σ', H', J', r, q⟩ := hsp; exact ⟨v, σ', H', J'.ofTry ok, r, q⟩
  | _ => obtain ⟨σ', H', J', q⟩ := hsp; exact ⟨σ', H', J'.ofTry ok, q⟩
end
/-! ### the clauses over trees -/
abbrev ClF := (Str → Bool) × Option Nat × (Str → Addr → FS)
def clRun (o : Option Nat) (c : Addr → FS) (ρ : FEnv) (S : Store) (a : Addr) : RS := match o with
  | none => (c a ρ S).noX
  | some i => ((c a (ρ.set i (some (.exn a))) S).clr i).noX
noncomputable def clsR (x : Ex) (ρ : FEnv) (S : Store) : List ClF → RS
  | [] => .ex x ρ S
  | (sub, o, c) :: r => if sub x.cls then aInd (clRun o (c x.cls) ρ S) else clsR x ρ S r
/-- es: the classes that may come -/
noncomputable def sTryC (es : List Str) (cs : List ClF) (b : FS) : FS := fun ρ S => match b ρ S with
  | .ex x ρ' S' => if x.cls ∈ es ∧ x.ns = [] then clsR x ρ' S' cs else .no
  | r => r
def SuF (X : Cx) (es : List Str) (suite : List Stmt) (c : Str → Addr → FS) : Prop :=
  ∀ (y : Str), y ∈ es → ∀ (a : Addr) (oe : Obj) (pn : List (Addr × Obj)) (C : Addr), X.mg y = some (.ref C) → Zc (.ref C) none oe → (∃ vs, oe.data = .fields vs) → PSs (X.suite a ((a, oe) :: pn)) suite (tS (X.suite a ((a, oe) :: pn)) W0 (c y a))
inductive ClsF (X : Cx) (es : List Str) : List ExceptHandler → List ClF → Prop
  | nil : ClsF X es [] []
  | plain {x : Str} {sub : Str → Bool} {c : Str → Addr → FS} {b₀ : Stmt} {su : List Stmt} {np q : Pos} {hds : List ExceptHandler} {l : List ClF} (h : CatF X.K X.mg es x sub) (hg : Gl X x) (k : SuF X es (b₀ :: su) c) (r : ClsF X es hds l) (hd : (x == ("__debug__" : Str)) = false := by decide) :
      ClsF X es (.ExceptHandler (some (.Name x np)) none (b₀ :: su) q :: hds) ((sub, none, c) :: l)
  | named {x n : Str} {i : Nat} {sub : Str → Bool} {c : Str → Addr → FS} {b₀ : Stmt} {su : List Stmt} {np q : Pos} {hds : List ExceptHandler} {l : List ClF} (h : CatF X.K X.mg es x sub) (hg : Gl X x) (hi : X.N[i]? = some n) (hln : X.env.kindOf n = some .local) (k : SuF X es (b₀ :: su) c) (r : ClsF X es hds l) (hd : (x == ("__debug__" : Str)) = false := by decide) :
      ClsF X es (.ExceptHandler (some (.Name x np)) (some n) (b₀ :: su) q :: hds) ((sub, some i, c) :: l)
section
variable {X : Cx} {W : WX} {es : List Str}
def tsOf (X : Cx) (es : List Str) (c : Str → Addr → FS) : Addr → Value → Option Addr → TS := fun a cls d D σ H => ∃ y C, y ∈ es ∧ X.mg y = some (.ref C) ∧ cls = .ref C ∧ d = none ∧ tS X W0 (c y a) D σ H
theorem SuF.su {suite : List Stmt} {c : Str → Addr → FS} (k : SuF X es suite c) : SuOk X suite (tsOf X es c) := by
  intro a oe cls d pn hz hd
  refine ⟨fun pins s σ H D I h => ?_⟩
  obtain ⟨y, C, hy, hyC, rfl, rfl, t⟩ := h
  exact (k y hy a oe pn C hyC hz hd).run pins s σ H D I t
theorem EndS.nox {K : PySem.W.Frag} {mg : Str → Option Value} {w : Wd} {H : Hp} {D : Ends} {r : RS} (h : EndS K mg w H r.noX D W) : EndS K mg w H r D W0 := by
  cases r with
  | ex x ρ S => exact h.elim
  | _ => exact h
theorem ClsF.go {hds : List ExceptHandler} {cs : List ClF} (h : ClsF X es hds cs) (hk : ∀ y ∈ es, ExcK X.K X.mg y) : ∃ l, ClsOk X hds l ∧ ∀ (D : Ends) (w : Wd) (x : Ex) (ρ : FEnv) (S : Store) (σ : L2.St) (H : Hp) (cy : Value) (od : Option Addr), x.cls ∈ es → x.ns = [] → Sto X.K X.mg w S H → EnvR X.K X.mg w H ρ σ → ExR X.K X.mg w H x cy od →
    EndS X.K X.mg w H (clsR x ρ S cs) D W → wCls X.K W D l cy od σ H := by
  have ex0 : ∀ {w : Wd} {H : Hp} {x : Ex} {cy : Value} {od : Option Addr}, x.cls ∈ es → x.ns = [] → ExR X.K X.mg w H x cy od → ∃ C, X.mg x.cls = some (.ref C) ∧ cy = .ref C ∧ od = none := by
    intro w H x cy od hx hn ex
    obtain ⟨gy, hr⟩ := ex
    obtain ⟨C, gC, _⟩ := hk _ hx
    cases gC.symm.trans gy
    refine ⟨C, gC, rfl, ?_⟩
    rcases hr with ⟨_, _, z⟩ | ⟨d, vs, z, _⟩
    · exact z
    · exact absurd hn z
  induction h with
  | nil =>
    refine ⟨[], .nil, fun D w x ρ S σ H cy od hx hn s en ex h => ?_⟩
    exact h w H σ cy od Ext.refl s en ex
  | @plain x sub c b₀ su np q hds l hc hg k r hd ih =>
    obtain ⟨cv, nm, hx1⟩ := hc.names hg hd
    obtain ⟨l', ok', go'⟩ := ih
    refine ⟨(cv, none, tsOf X es c) :: l', .plain nm k.su ok', fun D w x ρ S σ H cy od hx hn s en ex h => ?_⟩
    obtain ⟨C, gC, rfl, rfl⟩ := ex0 hx hn ex
    refine ⟨sub x.cls, hx1 _ hx _ gC, fun hs a na => ?_, fun hs => ?_⟩
    · have h2 : EndS X.K X.mg w H (aInd (clRun none (c x.cls) ρ S)) D W := by
        have h' := h
        unfold clsR at h'
        rw [if_pos hs] at h'
        exact h'
      by_cases hno : aInd (clRun none (c x.cls) ρ S) = .no
      · rw [hno] at h2; exact h2.elim
      · rw [← aInd_at a rfl hno] at h2
        exact ⟨x.cls, C, hx, gC, rfl, rfl, w, ρ, S, s, en, h2.nox⟩
    · have h2 : EndS X.K X.mg w H (clsR x ρ S l) D W := by
        have h' := h
        unfold clsR at h'
        rw [if_neg (by rw [hs]; decide)] at h'
        exact h'
      exact go' D w x ρ S σ H _ _ hx hn s en ex h2
  | @named x n i sub c b₀ su np q hds l hc hg hi hln k r hd ih =>
    obtain ⟨cv, nm, hx1⟩ := hc.names hg hd
    obtain ⟨l', ok', go'⟩ := ih
    refine ⟨(cv, some i, tsOf X es c) :: l', .named hi hln nm k.su ok', fun D w x ρ S σ H cy od hx hn s en ex h => ?_⟩
    obtain ⟨C, gC, rfl, rfl⟩ := ex0 hx hn ex
    refine ⟨sub x.cls, hx1 _ hx _ gC, fun hs a na => ?_, fun hs => ?_⟩
    · have h2 : EndS X.K X.mg w H (aInd (clRun (some i) (c x.cls) ρ S)) D W := by
        have h' := h
        unfold clsR at h'
        rw [if_pos hs] at h'
        exact h'
      by_cases hno : aInd (clRun (some i) (c x.cls) ρ S) = .no
      · rw [hno] at h2; exact h2.elim
      · rw [← aInd_at a rfl hno] at h2
        exact ⟨x.cls, C, hx, gC, rfl, rfl, w, ρ.set i (some (.exn a)), S, s, en.set (by unfold Rp; rfl), EndS.clr h2⟩
    · have h2 : EndS X.K X.mg w H (clsR x ρ S l) D W := by
        have h' := h
        unfold clsR at h'
        rw [if_neg (by rw [hs]; decide)] at h'
        exact h'
      exact go' D w x ρ S σ H _ _ hx hn s en ex h2
theorem q_tryC {body : List Stmt} {h₀ : ExceptHandler} {hds : List ExceptHandler} {cs : List ClF} {pos : Pos} {fb : FS} (stk : X.stack = X.env :: X.outer) (frm : X.env.frame = some X.env.locals) (hN : X.N.Nodup) (tk : Takes X W) (hk : ∀ y ∈ es, ExcK X.K X.mg y)
    (hb : ∀ (W' : WX) (pn : List (Addr × Obj)) (xe : Value → Shared → Prop), Takes (X.tr pn xe) W' → PassesOwn (model X.prog X.w) X.A X.env xe → PSs (X.tr pn xe) body (tS (X.tr pn xe) W' fb))
    (hc : ClsF X es (h₀ :: hds) cs) : PS X (.Try body (h₀ :: hds) [] [] pos) (tS X W (sTryC es cs fb)) := by
  obtain ⟨l, okl, go⟩ := hc.go (W := W) hk
  refine PS.wk (try_cls (tb := fun W' => tS X W' fb) stk frm hN tk (fun W' pn xe t o => hb W' pn xe t o) okl) fun D σ H ⟨w, ρ, S, s, en, h⟩ => ?_
  refine ⟨w, ρ, S, s, en, ?_⟩
  unfold sTryC at h
  cases hbb : fb ρ S with
  | ex y ρ' S' =>
    rw [hbb] at h
    simp only at h
    split at h
    · rename_i hm
      intro w' H' σ' cy od e s' en' ex
      exact go D w' y ρ' S' σ' H' cy od hm.1 hm.2 s' en' ex (h.on e)
    · exact h.elim
  | _ => rw [hbb] at h; exact h
end
end Kw

/-! Kw16: isinstance of the exception in hand, asked for one of two classes. -/
namespace Kw
open PySem PySem.Spec PyProof.Rows L2
def rIsET (K : PySem.W.Frag) (C a : Addr) : List V → Hp → VK → Prop := fun xs H Q => ∃ (tp : Addr) (cs : List V) (us : List Value) (b : Bool), xs = [.ref a, .ref tp] ∧ H tp = some (.tup cs) ∧ Paired ClsV cs us ∧ PySem.W.kitAny K (.ref C) us = some b ∧ Q (.bl b) H
theorem call_isET {X : Cx} {a C : Addr} {oe : Obj} {pn : List (Addr × Obj)} (F : ExcC X.K C) (hz : Zc (.ref C) none oe) (hf : ∃ vs, oe.data = .fields vs) : CallR (X.suite a ((a, oe) :: pn)) (.builtin "isinstance") (rIsET X.K C a) := by
  intro pins s σ H xs us Q I r h
  obtain ⟨tp, cs, ws, b, rfl, hT, k, e, q⟩ := h
  obtain ⟨u1, u2, rfl, r1, r2⟩ := vals2 r
  cases (show u2 = Value.ref tp from r2)
  cases (show u1 = Value.ref a from r1)
  obtain ⟨hget, _⟩ := I.pin (a, oe) (List.mem_append.mpr (.inl List.mem_cons_self))
  obtain ⟨vs, hv⟩ := hf
  have J : PySem.W.InstAt s.heap a oe C none := by
    obtain ⟨c1, c2, c3, c4⟩ := oe
    obtain ⟨h1, h2⟩ := hz
    dsimp only at h1 h2 hv
    subst h1 h2 hv
    exact ⟨hget, rfl, rfl, trivial⟩
  obtain ⟨_, its, rv, o, h1, h2, n, h3⟩ := (show ObjOk X.prog X.w H s.heap tp (.tup cs) from I.hok tp _ hT)
  have e3 := ClsV.all k rv
  subst e3
  obtain ⟨oc, od, dt, sl⟩ := o
  dsimp only at h2 h3
  subst h2 h3
  exact PySem.W.kia_tup (PySem.W.handS_kitx_exc F.hg F.hk F.hs F.hd F.ha F.hn F.ht F.hm) I.kIn J h1 e (fun z => nomatch z) fun tk => ⟨.bl b, H, I.kept (t' := tk) fun _ _ z => z, rfl, q⟩
section
variable {X : Cx} {W : WX} {o : Expr} {fe : FE} {a : Addr} {oe : Obj} {pn : List (Addr × Obj)} {y x1 x2 : Str} {C : Addr} {b1 b2 : Bool} {p p1 p2 pos tpos : Pos} {k : Nat}
theorem q_isET (hy : ExcK X.K X.mg y) (hyC : X.mg y = some (.ref C)) (h1 : IsxO X.K X.mg y x1 b1) (h2 : IsxO X.K X.mg y x2 b2) (hz : Zc (.ref C) none oe) (hf : ∃ vs, oe.data = .fields vs)
    (hg : Gl X "isinstance") (hm : X.mg "isinstance" = none) (hg1 : Gl X x1) (hg2 : Gl X x2) (ho : PE (X.suite a ((a, oe) :: pn)) o (tF (X.suite a ((a, oe) :: pn)) W fe)) (hd1 : (x1 == ("__debug__" : Str)) = false := by decide) (hd2 : (x2 == ("__debug__" : Str)) = false := by decide)
    (s1 : starEach [o, .Tuple [.Name x1 p1, .Name x2 p2] k tpos] X.env = (false, eval o X.env) :: starEach [.Tuple [.Name x1 p1, .Name x2 p2] k tpos] X.env := by rfl)
    (s2 : starEach [.Tuple [.Name x1 p1, .Name x2 p2] k tpos] X.env = (false, eval (.Tuple [.Name x1 p1, .Name x2 p2] k tpos) X.env) :: starEach [] X.env := by rfl)
    (s3 : starEach [.Name x1 p1, .Name x2 p2] X.env = (false, eval (.Name x1 p1) X.env) :: starEach [.Name x2 p2] X.env := by rfl) (s4 : starEach [.Name x2 p2] X.env = (false, eval (.Name x2 p2) X.env) :: starEach [] X.env := by rfl)
    (hpl : (backTo pos (starEach [.Tuple [.Name x1 p1, .Name x2 p2] k tpos] X.env)).any (·.1) = false := by rfl) :
    PE (X.suite a ((a, oe) :: pn)) (.Call (.Name "isinstance" p) [o, .Tuple [.Name x1 p1, .Name x2 p2] k tpos] [] pos) (tF (X.suite a ((a, oe) :: pn)) W (fIsE a (b1 || b2) fe)) := by
  obtain ⟨C1, m1, k1⟩ := hy
  obtain ⟨C2, B1, m2, m3, k2⟩ := h1
  obtain ⟨C3, B2, m4, m5, k3⟩ := h2
  cases hyC.symm.trans m1
  cases hyC.symm.trans m2
  cases hyC.symm.trans m4
  have n1 : PE (X.suite a ((a, oe) :: pn)) (.Name x1 p1) (tC (.ref B1)) := pe_glob hg1 m3 rfl hd1
  have n2 : PE (X.suite a ((a, oe) :: pn)) (.Name x2 p2) (tC (.ref B2)) := pe_glob hg2 m5 rfl hd2
  have tup := pe_tup (x1 := k) (pos := tpos) (pa_cons n1 (pa_cons n2 pa_nil s4) s3)
  refine PE.wk (pe_callB (call_isET k1 hz hf) hg hm (by decide +kernel) (pa_cons ho (pa_cons tup pa_nil s2) s1) (by decide) (by decide) s1 hpl) fun σ H Q ⟨w, ρ, S, s, en, h⟩ => ?_
  refine ⟨w, ρ, S, s, en, (End.bind (R := fun w H => Rp X.K X.mg w H) h).imp ?_ (fun _ _ _ z => z)⟩
  rintro v H1 ⟨w1, S1, d, e1, s1', r1, h3⟩
  cases d with
  | exn a' =>
    simp only at h3
    split at h3
    · rename_i ea
      subst ea
      have ev : v = .ref a' := by unfold Rp at r1; exact r1
      refine ⟨by rw [sizeLine_eq]; simp, fun q np => ?_⟩
      refine ⟨q, [.ref B1, .ref B2], [.ref B1, .ref B2], b1 || b2, by rw [ev], upd_same, .cons (.own B1) (.cons (.own B2) .nil), ?_, ?_⟩
      · cases b1 <;> cases b2 <;> simp [PySem.W.kitAny, k2, k3]
      · exact h3 w1 _ _ (Ext.new np) (s1'.beside np) rp_b
    · exact h3.elim
  | _ => exact h3.elim
end
/-! ### methods of texts -/
def fSM (g : D → List D → Store → RE D) (o : FE) (a : FA) : FE := fun ρ S => (o ρ S).bnd fun x S1 => match x with
  | .str z => (a ρ S1).bnd fun ds S2 => g (.str z) ds S2
  | _ => .no
def strsOf : List D → Option (List Str)
  | [] => some []
  | .str z :: r => (strsOf r).map (z :: ·)
  | _ => none
def gJoin (x : D) (ds : List D) (S : Store) : RE D := match x, ds with
  | .str a, [y] => (match (seqL S y).bind strsOf with
    | some ys => if (ys.map (·.length)).sum + ys.length * a.length ≤ 16777216 then .ok (.str (Txt.join a ys)) S else .no
    | none => .no)
  | _, _ => .no
section
variable {K : PySem.W.Frag} {mg : Str → Option Value} {w : Wd} {H : Hp}
theorem strs_at : ∀ {ds : List D} {vs : List V} {ys : List Str}, RpL K mg w H ds vs → strsOf ds = some ys → vs = ys.map V.str
  | [], vs, ys, r, h => by cases h; unfold RpL at r; exact r
  | d :: ds, vs, ys, r, h => by
    cases d with
    | str z =>
      unfold RpL at r
      obtain ⟨v, t, rfl, r1, r2⟩ := r
      cases h1 : strsOf ds with
      | none => simp [strsOf, h1] at h
      | some zs =>
        simp [strsOf, h1] at h
        subst h
        rw [rp_str r1, strs_at r2 h1]; rfl
    | _ => simp [strsOf] at h
theorem join_v : MtV K mg (fun x xs H Q => ∃ a p, ∃ ys : List Str, x = .str a ∧ xs = [.ref p] ∧ (SqL K H p (ys.map V.str) ∨ SqT K H p (ys.map V.str)) ∧ (ys.map (·.length)).sum + ys.length * a.length ≤ 16777216 ∧ Q (.str (Txt.join a ys)) H) gJoin := by
  intro w S H x xs d ds Q E s r1 r2 h
  unfold gJoin at h
  split at h
  · rename_i a y
    split at h
    · rename_i ys hy
      split at h
      · rename_i hl
        obtain ⟨v, rfl, r3⟩ := r2.one_inv
        obtain ⟨zs, h1, h2⟩ := Option.bind_eq_some_iff.mp hy
        obtain ⟨p, vs, e2, t2, q2⟩ := seqL_at s r3 h1
        have e3 := strs_at q2 h2
        subst e3
        exact ⟨a, p, ys, rp_str r1, by rw [e2], .inl t2, hl, h.ret s rp_s⟩
      · exact h.elim
    · exact h.elim
  · exact h.elim
end
section
variable {X : Cx} {W : WX} {o e : Expr} {es : List Expr} {fo : FE} {fs : FA} {name : Str} {apos cpos : Pos} {id : String} {r : V → List V → Hp → VK → Prop} {g : D → List D → Store → RE D}
theorem q_smth (slot : Slot "str" name id) (hty : typeOf (.builtin id) = pure (.type "method_descriptor")) (hm : MtR X id r) (hv : MtV X.K X.mg r g) (ho : PE X o (tF X W fo)) (ha : PA X (e :: es) (tA X W fs))
    (hbase : attributeBase o name X.env (eval o X.env) = eval o X.env := by rfl)
    (hfw : ((backTo cpos (starEach (e :: es) X.env)).all (fun x => !x.1) && (backToKw cpos (keywordEach [] X.env)).all (fun x => x.1.isSome) && decide ((e :: es).length + ([] : List Keyword).length + (if ([] : List Keyword).isEmpty then 0 else 1) < 30)) = true := by rfl)
    (hln : (apos.endLine == cpos.line) = true := by rfl) (hs : starEach (e :: es) X.env = (false, eval e X.env) :: starEach es X.env := by rfl) (hpl : (backTo cpos (starEach es X.env)).any (·.1) = false := by rfl) :
    PE X (.Call (.Attribute o name apos) (e :: es) [] cpos) (tF X W (fSM g fo fs)) :=
  PE.wk (pe_bm PySem.F.plainAttrs_str slot hty hm ho ha hbase hfw hln hs hpl) fun σ H Q ⟨w, ρ, S, s, en, h⟩ => by
    refine ⟨w, ρ, S, s, en, (End.bind (R := fun w H => Rp X.K X.mg w H) h).imp ?_ (fun _ _ _ z => z)⟩
    rintro x H1 ⟨w1, S1, d, e1, s1, r1, h1⟩
    cases d with
    | str z =>
      refine ⟨by rw [rp_str r1]; rfl, w1, ρ, S1, s1, en.ext e1, (End.bind (R := fun w H => RpL X.K X.mg w H) h1).imp ?_ (fun _ _ _ z => z)⟩
      rintro us H2 ⟨w2, S2, ds, e3, s2, r2, h2⟩
      exact hv w2 S2 H2 x us (.str z) ds Q _ s2 (Rp.ext e3 _ _ r1) r2 h2
    | _ => exact h1.elim
end
end Kw

/-! Kw17: a text turned round, repr of data. -/
namespace Kw
open PySem PySem.Spec PyProof.Rows L2

/-! ### text[::-1] -/
def revS (z : Str) : Str := ⟨((Builtin.Str.strSliceIndices none none (-1) z.length).filterMap (z.cps[·]?)).toArray⟩
theorem revIx_length (n : Nat) : (Builtin.Str.strSliceIndices none none (-1) n).length ≤ n := by
  unfold Builtin.Str.strSliceIndices sliceRange
  simp only [show ¬ ((-1 : Int) > 0) by decide, if_false, List.length_map, List.length_range]
  repeat' split
  all_goals simp
  all_goals omega
theorem revS_length (z : Str) : (revS z).length ≤ z.length := by
  show (List.filterMap _ _).toArray.size ≤ _
  rw [List.size_toArray]
  exact Nat.le_trans (List.length_filterMap_le _ _) (revIx_length _)
def gRevS (x : D) (S : Store) : RE D := match x with
  | .str z => if z.length ≤ 16777216 then .ok (.str (revS z)) S else .no
  | _ => .no
section
variable {X : Cx} {W : WX} {e : Expr} {fe : FE}
theorem q_revS {k : Nat} {p1 p2 p3 pos : Pos} (he : PE X e (tF X W fe)) : PE X (.Subscript e (.Slice none none (some (.UnaryOp .USub (.Constant (.int 1) k p1) p2)) p3) pos) (tF X W (f1 gRevS fe)) := by
  refine ⟨fun pins s σ H Q I ⟨w, ρ, S, st, en, h⟩ => Subscript_ (thn (he.run pins s σ H (fun x H1 => ∃ z, x = .str z ∧ z.length ≤ 16777216 ∧ Q (.str (revS z)) H1) I ⟨w, ρ, S, st, en, (End.bind (R := fun w H => Rp X.K X.mg w H) h).imp ?_ (fun _ _ _ z => z)⟩) ?_)⟩
  · rintro x H1 ⟨w1, S1, d, e1, s1, r1, h1⟩
    cases d with
    | str z =>
      simp only [gRevS] at h1
      split at h1
      · rename_i hz; exact ⟨z, rp_str r1, hz, h1.ret s1 rp_s⟩
      · exact h1.elim
    | _ => exact h1.elim
  · rintro v s1 ⟨x, H1, I1, r1, z, rfl, hz, q⟩
    obtain ⟨t, rfl⟩ := r1
    have hst : PO X (some (.UnaryOp .USub (.Constant (.int 1) k p1) p2)) (tPart (tUn (rU fun i => .int (-i)) (tC (.int 1)))) := po_some (pe_un un_neg pe_int)
    refine wpAny_Slice (thn (po_none.run pins s1 σ H1 (fun o H2 => o = none ∧ H2 = H1) I1 ⟨rfl, rfl⟩) fun vl s2 ⟨l, H2, I2, pl, el, e2⟩ => ?_)
    subst el e2
    refine thn (po_none.run pins s2 σ H2 (fun o H3 => o = none ∧ H3 = H2) I2 ⟨rfl, rfl⟩) fun vu s3 ⟨u, H3, I3, pu, eu, e3⟩ => ?_
    subst eu e3
    refine thn (hst.run pins s3 σ H3 (fun o H4 => o = some (-1) ∧ H4 = H3) I3 ⟨1, rfl, -1, rfl, rfl, rfl⟩) fun vs s4 ⟨o, H4, I4, ps, eo, e4⟩ => ?_
    subst eo e4
    have I5 : Inv X pins σ H4 { s4 with heap := s4.heap.push { cls := .type "slice", data := .fields #[vl, vu, vs] } } := I4.kept (t' := s4.toks) fun b ob q => Heap.get?_push_of_some _ q
    obtain ⟨l, rfl, hl⟩ := IsPart.raw pl
    obtain ⟨u, rfl, hu⟩ := IsPart.raw pu
    obtain ⟨t3, rfl, ht3⟩ := IsPart.raw ps
    obtain rfl : l = none := by cases l <;> simp_all
    obtain rfl : u = none := by cases u <;> simp_all
    obtain ⟨tk, rfl⟩ : ∃ tk, t3 = some (-1, tk) := by
      cases t3 with
      | none => simp at ht3
      | some p => exact ⟨p.2, by simp at ht3; rw [← ht3]⟩
    show wpAny (model X.prog X.w) X.A (subscriptTail e (.Slice none none (some (.UnaryOp .USub (.Constant (.int 1) k p1) p2)) p3) (.str z t) (.ref s4.heap.objs.size)) (EP X pins σ Q) X.xe { s4 with heap := s4.heap.push { cls := .type "slice", data := .fields #[_, _, _] } }
    refine tail_any (ops := [.str z t, .ref s4.heap.objs.size]) (typeIs_str _ _ _) (PySem.F.slot_str_getitem.lookup) ?_ (by with_unfolding_all rfl)
    refine wpAny_getItem_str_slice (l := none) (u := none) (st := some (-1, tk)) ⟨_, Heap.get?_push_size _ rfl, rfl, rfl⟩ rfl ?_
    have hl := revS_length z
    refine ⟨?_, .str _, H4, I5.tok _, ⟨_, rfl⟩, q⟩
    show (revS z).length ≤ sizeLine
    rw [sizeLine_eq]; omega
end
/-! ### repr of data -/
def keyP : Key → PyData
  | .inl i => .int i
  | .inr x => .str x
mutual
/-- a value as data that is shown -/
inductive Rs (K : PySem.W.Frag) (H : Hp) (b : Bool) : V → PyData → Prop
  | non : Rs K H b .non .none
  | bl (c : Bool) : Rs K H b (.bl c) (.bool c)
  | int (i : Int) : Rs K H b (.int i) (.int i)
  | str (x : Str) : Rs K H b (.str x) (.str x)
  | lst {a : Addr} {xs : List V} {ds : List PyData} : SqL K H a xs → (b = true → a ≠ sysModules) → RsL K H b xs ds → Rs K H b (.ref a) (.list ds)
  | tup {a : Addr} {xs : List V} {ds : List PyData} : SqT K H a xs → RsL K H b xs ds → Rs K H b (.ref a) (.tuple ds)
  | dic {a : Addr} {kvs : List (Key × V)} {ps : List (PyData × PyData)} : H a = some (.dK kvs) → RsV K H b kvs ps → Rs K H b (.ref a) (.dict ps)
inductive RsL (K : PySem.W.Frag) (H : Hp) (b : Bool) : List V → List PyData → Prop
  | nil : RsL K H b [] []
  | cons {v : V} {vs : List V} {d : PyData} {ds : List PyData} : Rs K H b v d → RsL K H b vs ds → RsL K H b (v :: vs) (d :: ds)
inductive RsV (K : PySem.W.Frag) (H : Hp) (b : Bool) : List (Key × V) → List (PyData × PyData) → Prop
  | nil : RsV K H b [] []
  | cons {k : Key} {v : V} {r : List (Key × V)} {d : PyData} {ps : List (PyData × PyData)} : Rs K H b v d → RsV K H b r ps → RsV K H b ((k, v) :: r) ((keyP k, d) :: ps)
end
mutual
/-- no list in it -/
def noLs : PyData → Bool
  | .list _ => false
  | .tuple ds => noLsL ds
  | .dict kvs => noLsV kvs
  | _ => true
def noLsL : List PyData → Bool
  | [] => true
  | d :: ds => noLs d && noLsL ds
def noLsV : List (PyData × PyData) → Bool
  | [] => true
  | (_, d) :: ps => noLs d && noLsV ps
end
section
variable {X : Cx} {pins : List (Addr × Obj)} {σ : L2.St} {H : Hp} {s : Shared} {b : Bool}
mutual
theorem Rs.reads (I : Inv X pins σ H s) : ∀ (d : PyData) (v : V) (u : Value), Rs X.K H b v d → RelV v u → ∃ as, Reads s.heap u d as ∧ (noLs d = true ∨ b = true → sysModules ∉ as)
  | .none, _, _, .non, r => by cases r; exact ⟨[], .none, fun _ z => nomatch z⟩
  | .bool b, _, _, .bl _, r => by cases r; exact ⟨[], .bool b, fun _ z => nomatch z⟩
  | .int i, _, _, .int _, r => by obtain ⟨t, rfl⟩ := r; exact ⟨[], .int i t, fun _ z => nomatch z⟩
  | .str x, _, _, .str _, r => by obtain ⟨t, rfl⟩ := r; exact ⟨[], .str x t, fun _ z => nomatch z⟩
  | .list ds, _, _, .lst (a := a) hs hne ha, r => by
    cases r
    obtain ⟨its, rv, ⟨o, n, ho, hc, _, hd⟩, _⟩ := I.list hs
    obtain ⟨as, hr, hn⟩ := RsL.reads I ds _ its ha rv
    refine ⟨_, .list ho hc hd hr, fun z => ?_⟩
    have hb : b = true := by
      rcases z with z | z
      · simp [noLs] at z
      · exact z
    intro y
    rcases List.mem_cons.mp y with y | y
    · exact hne hb y.symm
    · exact hn (.inr hb) y
  | .tuple ds, _, _, .tup hs ha, r => by
    cases r
    obtain ⟨its, rv, ⟨o, ho, hc, n, hd⟩, _⟩ := I.tuple hs
    obtain ⟨as, hr, hn⟩ := RsL.reads I ds _ its ha rv
    exact ⟨_, .tuple ho hc hd hr, fun z => hn (by simpa [noLs] using z)⟩
  | .dict ps, _, _, .dic (a := a) (kvs := kvs) hs hv, r => by
    cases r
    obtain ⟨_, sm, vs, kv, o, es, ep, ho, hc, hd, hk, hp, _⟩ := dk_of I.hok hs
    obtain ⟨h1, bs, h2, hn⟩ := RsV.reads I ps kvs vs es.toList hv kv hp
    refine ⟨_, .dict (as := []) (bs := bs) ho hc.1 hd h1 h2, fun z y => ?_⟩
    rcases List.mem_append.mp y with y | y
    · have : sysModules = a := by simpa using y
      rw [this] at sm
      simp at sm
    · exact hn (by simpa [noLs] using z) y
theorem RsL.reads (I : Inv X pins σ H s) : ∀ (ds : List PyData) (vs : List V) (us : List Value), RsL X.K H b vs ds → Vals vs us → ∃ as, ReadsAll s.heap us ds as ∧ (noLsL ds = true ∨ b = true → sysModules ∉ as)
  | [], _, _, .nil, r => by cases r; exact ⟨_, .nil, fun _ z => nomatch z⟩
  | d :: ds, _, _, .cons h1 h2, r => by
    cases r with
    | cons r1 r2 =>
      obtain ⟨as, q1, n1⟩ := Rs.reads I d _ _ h1 r1
      obtain ⟨bs, q2, n2⟩ := RsL.reads I ds _ _ h2 r2
      refine ⟨_, .cons q1 q2, fun z y => ?_⟩
      simp only [noLsL, Bool.and_eq_true] at z
      rcases List.mem_append.mp y with y | y
      · exact n1 (z.imp (·.1) id) y
      · exact n2 (z.imp (·.2) id) y
theorem RsV.reads (I : Inv X pins σ H s) : ∀ (ps : List (PyData × PyData)) (kvs : List (Key × V)) (vs : List (Key × Value)) (es : List DictEntry), RsV X.K H b kvs ps → KV kvs vs → Pairs (mixKind X.prog X.w) es vs → ReadsAll s.heap (es.map (·.key)) (ps.map (·.1)) [] ∧ ∃ bs, ReadsAll s.heap (es.map (·.val)) (ps.map (·.2)) bs ∧ (noLsV ps = true ∨ b = true → sysModules ∉ bs)
  | [], _, _, _, .nil, r, q => by cases r; cases q; exact ⟨.nil, [], .nil, fun _ z => nomatch z⟩
  | (_, d) :: ps, _, _, _, .cons (k := k) h1 h2, r, q => by
    cases r with
    | cons r1 r2 =>
      cases q with
      | cons q1 q2 q3 =>
        obtain ⟨e1, e2⟩ := r1
        obtain ⟨a1, bs, a2, a3⟩ := RsV.reads I ps _ _ _ h2 r2 q3
        obtain ⟨as, b1, b2⟩ := Rs.reads I d _ _ h1 e2
        refine ⟨?_, as ++ bs, ?_, fun z y => ?_⟩
        · rw [← e1] at q1
          have hk : ∀ v, keyIs k v = true → Reads s.heap v (keyP k) [] := fun v hv => by
            rcases keyIs_shape hv with ⟨i, t, rfl, rfl⟩ | ⟨x, t, rfl, rfl⟩
            · exact .int i t
            · exact .str x t
          exact ReadsAll.cons (hk _ q1) a1
        · rw [List.map_cons, List.map_cons, q2]
          exact .cons b1 a2
        · simp only [noLsV, Bool.and_eq_true] at z
          rcases List.mem_append.mp y with y | y
          · exact b2 (z.imp (·.1) id) y
          · exact a3 (z.imp (·.2) id) y
end
end
def okSh (b : Bool) (p : PyData) : Bool := p.showable && decide (p.depth ≤ 190) && decide (p.shown.length ≤ 16777216) && (!p.hasDict || noLs p || b)
def rRepr (K : PySem.W.Frag) : List V → Hp → VK → Prop := fun xs H Q => ∃ x p b, xs = [x] ∧ Rs K H b x p ∧ okSh b p = true ∧ Q (.str p.shown) H
theorem call_repr {X : Cx} (hg : X.A.guards = some []) (hu : X.A.units + 200 < cLine) : CallR X (.builtin "repr") (rRepr X.K) := by
  intro pins s σ H xs us Q I r h
  obtain ⟨x, p, b, rfl, hx, ok, q⟩ := h
  obtain ⟨u, rfl, ru⟩ := vals1 r
  simp only [okSh, Bool.and_eq_true, decide_eq_true_eq, Bool.or_eq_true, Bool.not_eq_true'] at ok
  obtain ⟨⟨⟨sh, dp⟩, sz⟩, nl⟩ := ok
  have sz' : p.shown.length ≤ sizeLine := by rw [sizeLine_eq]; exact sz
  obtain ⟨as, rd, ns⟩ := Rs.reads I p x u hx ru
  have goR : ∀ a, u = .ref a → wpAny (model X.prog X.w) X.A (call (.builtin "repr") [u]) (EP X pins σ Q) X.xe s := by
    rintro a rfl
    refine repr_of_reads' (h₀ := s.heap) rd sh (fun z => ns (by
      rcases nl with (h1 | h1) | h1
      · rw [z] at h1; cases h1
      · exact .inl h1
      · exact .inr h1)) hg (by omega) (fun _ _ e => e) (fun h' t tk hk => ⟨.str _, H, I.kept hk, ⟨_, rfl⟩, q⟩) sz'
  cases hx with
  | non => cases ru; exact PySem.P.repr_of_none ⟨.str _, H, I.tok _, ⟨_, rfl⟩, q⟩
  | bl c => cases ru; exact PySem.P.repr_of_bool ⟨.str _, H, I.tok _, ⟨_, rfl⟩, q⟩
  | int i => obtain ⟨t, rfl⟩ := ru; exact PySem.P.repr_of_int (by simpa [PyData.showable] using sh) ⟨.str _, H, I.tok _, ⟨_, rfl⟩, q⟩
  | str z => obtain ⟨t, rfl⟩ := ru; exact PySem.P.repr_of_str ⟨.str _, H, I.tok _, ⟨_, rfl⟩, q⟩ sz'
  | lst _ _ _ => exact goR _ ru
  | tup _ _ => exact goR _ ru
  | dic _ _ => exact goR _ ru
mutual
def sh0 : D → Option PyData
  | .non => some .none
  | .bl b => some (.bool b)
  | .int i => some (.int i)
  | .str x => some (.str x)
  | .tup ds => (sh0L ds).map .tuple
  | .lst ds => (sh0L ds).map .list
  | .fls ds => (sh0L ds).map .list
  | .dic ks ds => (sh0L ds).map fun ps => .dict ((ks.map keyP).zip ps)
  | _ => none
def sh0L : List D → Option (List PyData)
  | [] => some []
  | d :: ds => (sh0 d).bind fun a => (sh0L ds).map (a :: ·)
end
mutual
def shS (S : Store) : D → Option PyData
  | .non => some .none
  | .bl b => some (.bool b)
  | .int i => some (.int i)
  | .str x => some (.str x)
  | .tup ds => (shSL S ds).map .tuple
  | .lst ds => (shSL S ds).map .list
  | .fls ds => (shSL S ds).map .list
  | .dic ks ds => (shSL S ds).map fun ps => .dict ((ks.map keyP).zip ps)
  | .loc n => ((Kw.cellOf S n).bind sh0L).map .list
  | _ => none
def shSL (S : Store) : List D → Option (List PyData)
  | [] => some []
  | d :: ds => (shS S d).bind fun a => (shSL S ds).map (a :: ·)
end
section
variable {K : PySem.W.Frag} {mg : Str → Option Value} {w : Wd} {H : Hp} {S : Store} {b : Bool}
/-- the modules' table is told first -/
def sysB (S : Store) : Bool := match S with
  | .sys :: _ => true
  | _ => false
theorem sysB_at (s : Sto K mg w S H) (h : sysB S = true) : sysModules ∈ w.hd ∧ K.lookup sysModules = none ∧ ∃ φ, H sysModules = some (.ext φ) ∧ SysQ φ := by
  unfold sysB at h
  split at h
  · have c := s.cell 0 .sys rfl
    exact ⟨c.2.1, c.2.2.2.2, c.2.2.2.1⟩
  · cases h
theorem RsV.zip : ∀ {ks : List Key} {vs : List V} {ps : List PyData}, RsL K H b vs ps → RsV K H b (ks.zip vs) ((ks.map keyP).zip ps)
  | [], _, _, _ => .nil
  | _ :: _, _, _, .nil => .nil
  | _ :: _, _, _, .cons h1 h2 => .cons h1 (RsV.zip h2)
theorem Fp.ne {a : Addr} {xs : List V} (t : Fp K w H a xs) (h1 : sysModules ∈ w.hd) (h2 : K.lookup sysModules = none) : a ≠ sysModules := by
  intro e
  subst e
  rcases t with ⟨o, _, off⟩ | ⟨o, its, n, h, _⟩
  · exact off.2 h1
  · rw [h2] at h; cases h
mutual
theorem sh0_at (hb : b = true → sysModules ∈ w.hd ∧ K.lookup sysModules = none) : ∀ (d : D) (v : V) (p : PyData), Rp K mg w H d v → sh0 d = some p → Rs K H b v p
  | .non, v, p, r, h => by unfold Rp at r; simp only [sh0] at h; cases h; subst r; exact .non
  | .bl _, v, p, r, h => by unfold Rp at r; simp only [sh0] at h; cases h; subst r; exact .bl _
  | .int _, v, p, r, h => by unfold Rp at r; simp only [sh0] at h; cases h; subst r; exact .int _
  | .str _, v, p, r, h => by unfold Rp at r; simp only [sh0] at h; cases h; subst r; exact .str _
  | .tup ds, v, p, r, h => by
    obtain ⟨a, xs, e, t, q⟩ := tup_at r
    simp only [sh0, Option.map_eq_some_iff] at h
    obtain ⟨ps, h1, rfl⟩ := h
    subst e
    exact .tup t (sh0L_at hb ds xs ps q h1)
  | .lst ds, v, p, r, h => by
    unfold Rp at r
    obtain ⟨a, xs, e, t, off, q⟩ := r
    simp only [sh0, Option.map_eq_some_iff] at h
    obtain ⟨ps, h1, rfl⟩ := h
    subst e
    exact .lst (.of t) (fun z e => off.2 (e ▸ (hb z).1)) (sh0L_at hb ds xs ps q h1)
  | .dic ks ds, v, p, r, h => by
    unfold Rp at r
    obtain ⟨a, vs, e, t, _, _, q⟩ := r
    simp only [sh0, Option.map_eq_some_iff] at h
    obtain ⟨ps, h1, rfl⟩ := h
    subst e
    exact .dic t (RsV.zip (sh0L_at hb ds vs ps q h1))
  | .ins _ _ _, v, p, r, h => by simp [sh0] at h
  | .loc _, v, p, r, h => by simp [sh0] at h
  | .glo _, v, p, r, h => by simp [sh0] at h
  | .exn _, v, p, r, h => by simp [sh0] at h
  | .exo _ _ _, v, p, r, h => by simp [sh0] at h
  | .fls ds, v, p, r, h => by
    unfold Rp at r
    obtain ⟨a, xs, e, t, q⟩ := r
    simp only [sh0, Option.map_eq_some_iff] at h
    obtain ⟨ps, h1, rfl⟩ := h
    subst e
    exact .lst t.sq (fun z e => t.ne (hb z).1 (hb z).2 e) (sh0L_at hb ds xs ps q h1)
theorem sh0L_at (hb : b = true → sysModules ∈ w.hd ∧ K.lookup sysModules = none) : ∀ (ds : List D) (vs : List V) (ps : List PyData), RpL K mg w H ds vs → sh0L ds = some ps → RsL K H b vs ps
  | [], vs, ps, r, h => by unfold RpL at r; simp only [sh0L] at h; cases h; subst r; exact .nil
  | d :: ds, vs, ps, r, h => by
    unfold RpL at r
    obtain ⟨v, vs', e, r1, r2⟩ := r
    simp only [sh0L, Option.bind_eq_some_iff, Option.map_eq_some_iff] at h
    obtain ⟨a, h1, b', h2, rfl⟩ := h
    subst e
    exact .cons (sh0_at hb d v a r1 h1) (sh0L_at hb ds vs' b' r2 h2)
end
mutual
theorem shS_at (s : Sto K mg w S H) (hb : b = true → sysB S = true) : ∀ (d : D) (v : V) (p : PyData), Rp K mg w H d v → shS S d = some p → Rs K H b v p
  | .non, v, p, r, h => by unfold Rp at r; simp only [shS] at h; cases h; subst r; exact .non
  | .bl _, v, p, r, h => by unfold Rp at r; simp only [shS] at h; cases h; subst r; exact .bl _
  | .int _, v, p, r, h => by unfold Rp at r; simp only [shS] at h; cases h; subst r; exact .int _
  | .str _, v, p, r, h => by unfold Rp at r; simp only [shS] at h; cases h; subst r; exact .str _
  | .tup ds, v, p, r, h => by
    obtain ⟨a, xs, e, t, q⟩ := tup_at r
    simp only [shS, Option.map_eq_some_iff] at h
    obtain ⟨ps, h1, rfl⟩ := h
    subst e
    exact .tup t (shSL_at s hb ds xs ps q h1)
  | .lst ds, v, p, r, h => by
    unfold Rp at r
    obtain ⟨a, xs, e, t, off, q⟩ := r
    simp only [shS, Option.map_eq_some_iff] at h
    obtain ⟨ps, h1, rfl⟩ := h
    subst e
    exact .lst (.of t) (fun z e => off.2 (e ▸ (sysB_at s (hb z)).1)) (shSL_at s hb ds xs ps q h1)
  | .dic ks ds, v, p, r, h => by
    unfold Rp at r
    obtain ⟨a, vs, e, t, _, _, q⟩ := r
    simp only [shS, Option.map_eq_some_iff] at h
    obtain ⟨ps, h1, rfl⟩ := h
    subst e
    exact .dic t (RsV.zip (shSL_at s hb ds vs ps q h1))
  | .loc n, v, p, r, h => by
    simp only [shS, Option.map_eq_some_iff, Option.bind_eq_some_iff] at h
    obtain ⟨ps, ⟨ds, h0, h1⟩, rfl⟩ := h
    obtain ⟨a, xs, h3, h4, h5⟩ := cellOf_at s h0
    unfold Rp at r
    have e := r.2 a h3
    subst e
    refine .lst (.inl h4) (fun z e => ?_) (sh0L_at (fun z => ⟨(sysB_at s (hb z)).1, (sysB_at s (hb z)).2.1⟩) ds xs ps h5 h1)
    obtain ⟨_, _, φ, h6, _⟩ := sysB_at s (hb z)
    rcases h4 with h4 | ⟨o, h4⟩
    · rw [e, h6] at h4; cases h4
    · rw [e, h6] at h4; cases h4
  | .ins _ _ _, v, p, r, h => by simp [shS] at h
  | .glo _, v, p, r, h => by simp [shS] at h
  | .exn _, v, p, r, h => by simp [shS] at h
  | .exo _ _ _, v, p, r, h => by simp [shS] at h
  | .fls ds, v, p, r, h => by
    unfold Rp at r
    obtain ⟨a, xs, e, t, q⟩ := r
    simp only [shS, Option.map_eq_some_iff] at h
    obtain ⟨ps, h1, rfl⟩ := h
    subst e
    exact .lst t.sq (fun z e => t.ne (sysB_at s (hb z)).1 (sysB_at s (hb z)).2.1 e) (shSL_at s hb ds xs ps q h1)
theorem shSL_at (s : Sto K mg w S H) (hb : b = true → sysB S = true) : ∀ (ds : List D) (vs : List V) (ps : List PyData), RpL K mg w H ds vs → shSL S ds = some ps → RsL K H b vs ps
  | [], vs, ps, r, h => by unfold RpL at r; simp only [shSL] at h; cases h; subst r; exact .nil
  | d :: ds, vs, ps, r, h => by
    unfold RpL at r
    obtain ⟨v, vs', e, r1, r2⟩ := r
    simp only [shSL, Option.bind_eq_some_iff, Option.map_eq_some_iff] at h
    obtain ⟨a, h1, b', h2, rfl⟩ := h
    subst e
    exact .cons (shS_at s hb d v a r1 h1) (shSL_at s hb ds vs' b' r2 h2)
end
end
def gRepr (ds : List D) (S : Store) : RE D := match ds with
  | [x] => (match shS S x with
    | some p => if okSh (sysB S) p = true then .ok (.str p.shown) S else .no
    | none => .no)
  | _ => .no
theorem repr_v {K : PySem.W.Frag} {mg : Str → Option Value} : CallV K mg (rRepr K) gRepr := by
  intro w S H vs ds Q E s r h
  unfold gRepr at h
  split at h
  · rename_i x
    split at h
    · rename_i p hp
      split at h
      · rename_i ok
        obtain ⟨v, rfl, r1⟩ := r.one_inv
        exact ⟨v, p, sysB S, rfl, shS_at s (fun z => z) x v p r1 hp, ok, h.ret s rp_s⟩
      · exact h.elim
    · exact h.elim
  · exact h.elim
/-! ### str(number) -/
def rStrI : List V → Hp → VK → Prop := fun xs H Q => ∃ i : Int, xs = [.int i] ∧ i.natAbs.log2 < 1920 ∧ Q (.str (toString i)) H
theorem call_strI {X : Cx} : CallR X (.type "str") rStrI := by
  intro pins s σ H xs us Q I r h
  obtain ⟨i, rfl, hz, q⟩ := h
  obtain ⟨u, rfl, t, rfl⟩ := vals1 r
  exact PySem.P.str_of_int hz ⟨.str _, H, I.tok _, ⟨_, rfl⟩, q⟩
def gStr (ds : List D) (S : Store) : RE D := match ds with
  | [.int i] => if i.natAbs.log2 < 1920 then .ok (.str (toString i)) S else .no
  | _ => .no
theorem str_v {K : PySem.W.Frag} {mg : Str → Option Value} : CallV K mg rStrI gStr := by
  intro w S H vs ds Q E s r h
  unfold gStr at h
  split at h
  · split at h
    · rename_i hz
      obtain ⟨v, rfl, r1⟩ := r.one_inv
      exact ⟨_, by rw [rp_int r1], hz, h.ret s rp_s⟩
    · exact h.elim
  · exact h.elim
end Kw

/-! Kw18: rows turned round. -/
namespace Kw
open PySem PySem.Spec PyProof.Rows L2

theorem turned_pick (l : List Value) : ((List.range l.length).filterMap fun (m : Nat) => l.toArray[(((l.length : Int) - 1) + (m : Int) * (-1)).toNat]?) = l.reverse := by
  apply List.ext_getElem?
  intro i
  have key : ∀ (n : Nat), n ≤ l.length → ((List.range n).filterMap fun (m : Nat) => l.toArray[(((l.length : Int) - 1) + (m : Int) * (-1)).toNat]?) = l.reverse.take n := by
    intro n
    induction n with
    | zero => intro _; simp
    | succ n ih =>
      intro hn
      rw [List.range_succ, List.filterMap_append, ih (by omega), List.take_add_one]
      congr 1
      have e1 : (((l.length : Int) - 1) + (n : Int) * (-1)).toNat = l.length - 1 - n := by omega
      have e2 : l.reverse[n]? = some (l[l.length - 1 - n]'(by omega)) := by
        rw [List.getElem?_reverse (by omega), List.getElem?_eq_getElem (by omega)]
      rw [e2]
      simp only [List.filterMap_cons, List.filterMap_nil]
      rw [e1]
      have e3 : l.toArray[l.length - 1 - n]? = some (l[l.length - 1 - n]'(by omega)) := by
        rw [List.getElem?_toArray, List.getElem?_eq_getElem (by omega)]
      rw [e3]; rfl
  rw [key l.length (Nat.le_refl _), List.take_of_length_le (by simp)]
theorem tup_turned {prog : Program} {w : World} {A : Around} {E : Value → Shared → Prop} {s : Shared} {t sl : Addr} {its : List Value} {tk : Tok} {Q : Value → Shared → Prop} (ht : IsTup s.heap t its.toArray) (hs : s.heap.IsSliceOf sl .none .none (.int (-1) tk)) (hz : its.length ≤ sizeLine)
    (h : Q (.ref s.heap.objs.size) { s with heap := s.heap.push { cls := .type "tuple", data := .seq its.reverse.toArray } }) : wpAny (model prog w) A (getItem (.ref t) (.ref sl)) Q E s := by
  have fits : sizeOk (.seq its.reverse.toArray) := by
    show its.reverse.toArray.size ≤ sizeLine
    rw [List.size_toArray, List.length_reverse]; exact hz
  obtain ⟨so, so1, so2, so3⟩ := id hs
  have tyS : s.TypeIs (.ref sl) "slice" := ⟨so, so1, so2⟩
  have bnd : Builtin.Slice.sliceAdjust none none (-1) (its.toArray.size : Int) = ((its.length : Int) - 1, -1) := by
    rw [List.size_toArray]; rfl
  have plc : Builtin.Slice.slicePlaces ((its.length : Int) - 1) (-1) (-1) = its.length := by
    unfold Builtin.Slice.slicePlaces
    have h0 : ¬ ((-1 : Int) > 0) := by decide
    simp only [h0, if_false]
    split
    · have e : ((its.length : Int) - 1 - -1 - 1) / (- -1) + 1 = (its.length : Int) := by
        rw [show (- -1 : Int) = 1 by decide, Int.ediv_one]; omega
      rw [e]; simp
    · have : its.length = 0 := by omega
      rw [this]; rfl
  unfold getItem
  try with_reducible refine wpAny_holding ?_
  first | refine wpAny_bind (wpAny_pure ?_) | skip
  refine wpAny_bind (wpAny_sequenceKey ht.typeIs (by decide) (wpAny_bind (wpAny_callSpecial?_slot (name := Str.ofString "__getitem__") ht.typeIs PyProof.Rows.slot_tuple_getitem (wpAny_call_entry PyProof.Rows.slot_tuple_getitem ht.typeIs entry_tuple_getitem ?_ (args_tuple_getitem _ _)))))
  show wpAny _ _ (Builtin.Tuple.tupleItemsOf (.ref t) >>= _) _ _ s
  refine wpAny_bind (tupleItemsOf_ ht (wpAny_bind (wpAny_typeOf tyS ?_)))
  rw [if_pos (by decide)]
  refine wpAny_bind ?_
  unfold Builtin.Slice.sliceApplied Builtin.Slice.sliceFields
  refine wpAny_bind (wpAny_bind (wpAny_field so1 so3 (x := .none) rfl (wpAny_bind (wpAny_field so1 so3 (x := .none) rfl (wpAny_bind (wpAny_field so1 so3 (x := .int (-1) tk) rfl (wpAny_pure (wpAny_bind (slicePart_int ?_)))))))))
  show wpAny _ _ (if ((-1 : Int) == 0) = true then _ else _) _ _ s
  rw [if_neg (by decide)]
  refine wpAny_bind (slicePart_none (wpAny_bind (slicePart_none (wpAny_bind (wpAny_pure ?_)))))
  show wpAny _ _ (match Builtin.Slice.sliceAdjust none none (-1) (its.toArray.size : Int) with | (lo, hi) => pure (lo, (-1 : Int), Builtin.Slice.slicePlaces lo hi (-1))) _ _ s
  rw [bnd]
  show wpAny _ _ (pure ((its.length : Int) - 1, (-1 : Int), Builtin.Slice.slicePlaces ((its.length : Int) - 1) (-1) (-1))) _ _ s
  rw [plc]
  refine wpAny_pure ?_
  have no : ¬ (((((its.length : Int) - 1)) == 0 && (-1 : Int) == 1 && its.length == its.toArray.size) = true) := by simp
  show wpAny _ _ (if ((((its.length : Int) - 1)) == 0 && (-1 : Int) == 1 && its.length == its.toArray.size) = true then _ else _) _ _ s
  rw [if_neg no, turned_pick]
  first
    | exact wpAny_bind (m := Builtin.Tuple.tupleExact _) (wpAny_newObj_type (wpAny_pure ⟨_, rfl, wpAny_pure h⟩) fits)
    | exact wpAny_bind (m := Builtin.Tuple.tupleExact _) (wpAny_newObj_type (wpAny_bind (wpAny_pure (wpAny_pure ⟨_, rfl, wpAny_pure h⟩))) fits)
    | exact wpAny_bind (wpAny_bind (m := Builtin.Tuple.tupleExact _) (wpAny_newObj_type (wpAny_pure (wpAny_pure ⟨_, rfl, wpAny_pure h⟩)) fits))
    | exact wpAny_bind (wpAny_bind (m := Builtin.Tuple.tupleExact _) (wpAny_newObj_type (wpAny_pure ⟨_, rfl, wpAny_pure h⟩) fits))
/-- a text, a tuple, a list turned round -/
def gTurn (x : D) (S : Store) : RE D := match x with
  | .str z => if z.length ≤ 16777216 then .ok (.str (revS z)) S else .no
  | .tup ds => .ok (.tup ds.reverse) S
  | x => (match seqL S x with
    | some ds => .ok (.lst ds.reverse) S
    | none => .no)
section
variable {K : PySem.W.Frag} {mg : Str → Option Value} {w : Wd} {H : Hp}
theorem RpL.rev : ∀ {ds : List D} {vs : List V}, RpL K mg w H ds vs → RpL K mg w H ds.reverse vs.reverse
  | [], vs, r => by unfold RpL at r; subst r; simp; exact RpL.nil
  | d :: ds, vs, r => by
    unfold RpL at r
    obtain ⟨v, t, rfl, r1, r2⟩ := r
    rw [List.reverse_cons, List.reverse_cons]
    exact RpL.append (RpL.rev r2) (RpL.one r1)
end
def rTurn (K : PySem.W.Frag) : V → Hp → VK → Prop := fun x H Q => (∃ z, x = .str z ∧ z.length ≤ 16777216 ∧ Q (.str (revS z)) H) ∨ (∃ a xs, x = .ref a ∧ SqT K H a xs ∧ ∀ p, H p = none → Q (.ref p) (upd H p (.tup xs.reverse))) ∨ (∃ a xs, x = .ref a ∧ SqL K H a xs ∧ ∀ p, H p = none → Q (.ref p) (upd H p (.lst xs.reverse)))
section
variable {X : Cx} {W : WX} {e : Expr} {fe : FE}
theorem q_turn {k : Nat} {p1 p2 p3 pos : Pos} (he : PE X e (tF X W fe)) : PE X (.Subscript e (.Slice none none (some (.UnaryOp .USub (.Constant (.int 1) k p1) p2)) p3) pos) (tF X W (f1 gTurn fe)) := by
  refine ⟨fun pins s σ H Q I ⟨w, ρ, S, st, en, h⟩ => Subscript_ (thn (he.run pins s σ H (fun x H1 => rTurn X.K x H1 Q) I ⟨w, ρ, S, st, en, (End.bind (R := fun w H => Rp X.K X.mg w H) h).imp ?_ (fun _ _ _ z => z)⟩) ?_)⟩
  · rintro x H1 ⟨w1, S1, d, e1, s1, r1, h1⟩
    unfold gTurn at h1
    split at h1
    · rename_i z
      split at h1
      · rename_i hz; exact .inl ⟨z, rp_str r1, hz, h1.ret s1 rp_s⟩
      · exact h1.elim
    · obtain ⟨a, xs, rfl, t1, q1⟩ := tup_at r1
      refine .inr (.inl ⟨a, xs, rfl, t1, fun p np => ?_⟩)
      refine h1 w1 _ _ (Ext.new np) (s1.beside np) ?_
      show Rp _ _ _ _ _ _
      unfold Rp
      exact ⟨p, _, rfl, .inl ⟨upd_same, s1.new np⟩, RpL.ext (Ext.new np) _ _ (RpL.rev q1)⟩
    · split at h1
      · rename_i ds hds
        obtain ⟨a, xs, rfl, t1, q1⟩ := seqL_at s1 r1 hds
        exact .inr (.inr ⟨a, xs, rfl, t1, fun p np => newLst s1 (RpL.rev q1) np h1⟩)
      · exact h1.elim
  · rintro v s1 ⟨x, H1, I1, r1, hx⟩
    have hst : PO X (some (.UnaryOp .USub (.Constant (.int 1) k p1) p2)) (tPart (tUn (rU fun i => .int (-i)) (tC (.int 1)))) := po_some (pe_un un_neg pe_int)
    refine wpAny_Slice (thn (po_none.run pins s1 σ H1 (fun o H2 => o = none ∧ H2 = H1) I1 ⟨rfl, rfl⟩) fun vl s2 ⟨l, H2, I2, pl, el, e2⟩ => ?_)
    subst el e2
    refine thn (po_none.run pins s2 σ H2 (fun o H3 => o = none ∧ H3 = H2) I2 ⟨rfl, rfl⟩) fun vu s3 ⟨u, H3, I3, pu, eu, e3⟩ => ?_
    subst eu e3
    refine thn (hst.run pins s3 σ H3 (fun o H4 => o = some (-1) ∧ H4 = H3) I3 ⟨1, rfl, -1, rfl, rfl, rfl⟩) fun vs s4 ⟨o, H4, I4, ps, eo, e4⟩ => ?_
    subst eo e4
    have I5 : Inv X pins σ H4 { s4 with heap := s4.heap.push { cls := .type "slice", data := .fields #[vl, vu, vs] } } := I4.kept (t' := s4.toks) fun b ob q => Heap.get?_push_of_some _ q
    have pl0 := pl
    have pu0 := pu
    have ps0 := ps
    obtain ⟨l, rfl, hl⟩ := IsPart.raw pl
    obtain ⟨u, rfl, hu⟩ := IsPart.raw pu
    obtain ⟨t3, rfl, ht3⟩ := IsPart.raw ps
    obtain rfl : l = none := by cases l <;> simp_all
    obtain rfl : u = none := by cases u <;> simp_all
    obtain ⟨tk, rfl⟩ : ∃ tk, t3 = some (-1, tk) := by
      cases t3 with
      | none => simp at ht3
      | some p => exact ⟨p.2, by simp at ht3; rw [← ht3]⟩
    show wpAny (model X.prog X.w) X.A (subscriptTail e (.Slice none none (some (.UnaryOp .USub (.Constant (.int 1) k p1) p2)) p3) v (.ref s4.heap.objs.size)) (EP X pins σ Q) X.xe { s4 with heap := s4.heap.push { cls := .type "slice", data := .fields #[_, _, _] } }
    rcases hx with ⟨z, rfl, hz, q⟩ | ⟨a, xs, rfl, hq, q⟩ | ⟨a, xs, rfl, hq, q⟩
    · obtain ⟨t, rfl⟩ := r1
      refine tail_any (ops := [.str z t, .ref s4.heap.objs.size]) (typeIs_str _ _ _) (PySem.F.slot_str_getitem.lookup) ?_ (by with_unfolding_all rfl)
      refine wpAny_getItem_str_slice (l := none) (u := none) (st := some (-1, tk)) ⟨_, Heap.get?_push_size _ rfl, rfl, rfl⟩ rfl ?_
      have hl := revS_length z
      refine ⟨?_, .str _, H4, I5.tok _, ⟨_, rfl⟩, q⟩
      show (revS z).length ≤ sizeLine
      rw [sizeLine_eq]; omega
    · obtain rfl : v = Value.ref a := r1
      obtain ⟨its, r, ht, hz⟩ := I5.tuple hq
      refine tail_any (ops := [.ref a, .ref s4.heap.objs.size]) ht.typeIs (PyProof.Rows.slot_tuple_getitem.lookup) ?_ (by with_unfolding_all rfl)
      refine tup_turned ht (Heap.IsSliceOf.new _ _ _ _) (by rw [← r.length]; exact hz) ?_
      refine ⟨.ref _, _, I5.laid (t' := s4.toks) (o := .tup xs.reverse) (fun b ob q => Heap.get?_push_of_some _ q) (Nat.le_refl _) ?_, rfl, q _ (I5.hok.fresh (Nat.le_refl _))⟩
      exact ⟨by rw [List.length_reverse]; exact hz, _, r.reverse, IsTup.new _ _⟩
    · obtain rfl : v = Value.ref a := r1
      obtain ⟨its, r, ht, hz⟩ := I5.list hq
      have hlen := r.length
      refine tail_any (ops := [.ref a, .ref s4.heap.objs.size]) ht.isList.typeIs (PySem.slot_list_getitem.lookup) ?_ (by with_unfolding_all rfl)
      refine wpAny_getItem_list_slice ht.isList (Heap.IsSliceOf.new _ _ _ _) pl0 pu0 ps0 (by decide) ?_ (by rw [List.size_toArray]; omega)
      rw [PySem.W.krv_pick]
      refine ⟨.ref _, _, I5.laid (t' := s4.toks) (o := .lst xs.reverse) (fun b ob q => Heap.get?_push_of_some _ q) (Nat.le_refl _) ?_, rfl, q _ (I5.hok.fresh (Nat.le_refl _))⟩
      exact ⟨by rw [List.length_reverse]; exact hz, _, 0, r.reverse, Heap.get?_push_size _ rfl⟩
end
@[simp] theorem gTurn_tup {ds : List D} {S : Store} : gTurn (.tup ds) S = .ok (.tup ds.reverse) S := rfl
end Kw

/-! Kw19: own defs called by names alone; list(range(n)). -/
namespace Kw
open PySem PySem.Spec PyProof.Rows L2

/-- the values ws, written by names in an order of their own, in the parameters' order -/
def perm {α : Type} (d : α) (π : List Nat) (ws : List α) : List α := π.map fun i => ws.getD i d
def fnK (π : List Nat) (f : FF) : FF := fun ds S => f (perm .non π ds) S
/-- the def x binds names so -/
def TK (K : PySem.W.Frag) (mg : Str → Option Value) (x : Str) (ks : List Str) (π : List Nat) : Prop :=
  ∃ f oc od fd osl, mg x = some (.ref f) ∧ K.lookup f = some ⟨oc, od, .func fd, osl⟩ ∧ (∀ i ∈ π, i < ks.length) ∧ ∀ ws : List Value, ws.length = ks.length → bindArgs fd ⟨[], ks.zip ws⟩ = pure ((fd.params.args.map (·.arg)).zip (perm .none π ws))
theorem tk_mk {K : PySem.W.Frag} {mg : Str → Option Value} {h : Heap} {x : Str} {st : Stmt} {ks : List Str} {π : List Nat} {f : Addr} {oc : Value} {od an : Option Addr} {osl : Array (Option Value)} {kV doc pm cdv ct : Value} (X : K.In h) (G : h.Ns mainGlobals mg) (a : PySem.W.nsIn K mainGlobals x = some (some (.ref f)))
    (l : K.lookup f = some ⟨oc, od, .func (PySem.W.fnOf x x (defArgs st) (defBody st) (defScope st) .none kV doc pm an cdv ct), osl⟩) (hi : ∀ i ∈ π, i < ks.length)
    (hb : ∀ (kV doc pm : Value) (an : Option Addr) (cdv ct : Value) (ws : List Value), ws.length = ks.length → bindArgs (PySem.W.fnOf x x (defArgs st) (defBody st) (defScope st) .none kV doc pm an cdv ct) ⟨[], ks.zip ws⟩ = pure (((defArgs st).args.map (·.arg)).zip (perm .none π ws))) : TK K mg x ks π :=
  ⟨f, oc, od, _, osl, PySem.W.mg_of X G a, l, hi, hb kV doc pm an cdv ct⟩
theorem vals_perm {vs : List V} {us : List Value} (r : Vals vs us) : ∀ {π : List Nat}, (∀ i ∈ π, i < vs.length) → Vals (perm .non π vs) (perm .none π us)
  | [], _ => .nil
  | i :: π, h => by
    have hi : i < vs.length := h i List.mem_cons_self
    have e1 : vs[i]? = some vs[i] := List.getElem?_eq_getElem hi
    obtain ⟨u, hu, ru⟩ := r.get e1
    have t := vals_perm r (π := π) fun j hj => h j (List.mem_cons_of_mem _ hj)
    show Vals (vs.getD i .non :: perm .non π vs) (us.getD i .none :: perm .none π us)
    rw [List.getD_eq_getElem?_getD, List.getD_eq_getElem?_getD, e1, hu]
    exact .cons ru t
theorem RpL.perm {K : PySem.W.Frag} {mg : Str → Option Value} {w : Wd} {H : Hp} {ds : List D} {vs : List V} (r : RpL K mg w H ds vs) : ∀ {π : List Nat}, (∀ i ∈ π, i < ds.length) → RpL K mg w H (perm .non π ds) (perm .non π vs)
  | [], _ => RpL.nil
  | i :: π, h => by
    have hi : i < ds.length := h i List.mem_cons_self
    have e1 : ds[i]? = some ds[i] := List.getElem?_eq_getElem hi
    obtain ⟨u, hu, ru⟩ := r.get e1
    have t := RpL.perm r (π := π) fun j hj => h j (List.mem_cons_of_mem _ hj)
    show RpL K mg w H (ds.getD i .non :: Kw.perm .non π ds) (vs.getD i .non :: Kw.perm .non π vs)
    rw [List.getD_eq_getElem?_getD, List.getD_eq_getElem?_getD, e1, hu]
    exact RpL.cons ru t
section
variable {X : Cx} {W : WX} {pos : Pos} {k : Nat} {x : Str} {f : FF} {p : Pos} {kws : List Keyword} {fs : FA} {ks : List Str} {π : List Nat} {nm : Option Str} {e : Expr} {kpos : Pos} {fe : FE}
theorem q_knil : PK X [] (tA X W fNil) := ⟨fun pos pins s σ H Q I ⟨w, ρ, S, st, en, h⟩ => pk_nil.run pos pins s σ H Q I (h.ret st RpL.nil)⟩
theorem q_kcons (ha : PE X e (tF X W fe)) (hr : PK X kws (tA X W fs)) : PK X (⟨nm, e, kpos⟩ :: kws) (tA X W (fCons fe fs)) := by
  refine ⟨fun pos pins s σ H Q I ⟨w, ρ, S, st, en, h⟩ => (pk_cons (nm := nm) (kpos := kpos) ha hr).run pos pins s σ H Q I ?_⟩
  refine ⟨w, ρ, S, st, en, (End.bind (R := fun w H => Rp X.K X.mg w H) h).imp ?_ (fun _ _ _ z => z)⟩
  rintro v H1 ⟨w1, S1, d, e1, s1, r1, h1⟩
  refine ⟨w1, ρ, S1, s1, en.ext e1, (End.bind (R := fun w H => RpL X.K X.mg w H) h1).imp ?_ (fun _ _ _ z => z)⟩
  rintro vs H2 ⟨w2, S2, ds, e2, s2, r2, h2⟩
  exact h2.ret s2 (RpL.cons (Rp.ext e2 _ _ r1) r2)
theorem q_callK (C : Cal X.prog X.w X.K X.mg X.base k x f) (B : TK X.K X.mg x ks π) (hr : RoomG k X.A) (tk : Takes X W) (hg : Gl X x) (ha : PK X kws (tA X W fs)) (hdb : (x == ("__debug__" : Str)) = false := by decide)
    (hall : (backToKw pos (keywordEach kws X.env)).all (·.1.isSome) = true := by rfl) (hks : (backToKw pos (keywordEach kws X.env)).filterMap (·.1) = ks := by rfl)
    (hpl : ((backTo pos (starEach [] X.env)).any (·.1) || (backToKw pos (keywordEach kws X.env)).any (·.1.isNone)) = false := by rfl) : PE X (.Call (.Name x p) [] kws pos) (tF X W (fArg (fun ds S => if ds.length = ks.length then fnK π f ds S else .no) fs)) := by
  obtain ⟨a, fd, ps, F, hm, hk, hb, ar, hps, oc, od, osl, lk⟩ := C
  obtain ⟨a', oc', od', fd', osl', hm', lk', hi, bd⟩ := B
  rw [hm] at hm'; cases hm'
  rw [lk] at lk'; cases lk'
  refine ⟨fun pins s σ H Q I ⟨w, ρ, S, s0, en, h⟩ => wpAny_Call_Name_kw (ld_glob I hg hm ?_ hdb)⟩
  refine PySem.W.callWith_KW0 (h₀ := X.base) I.ok.mod.kin hk hall (thn (ha.run pos pins s σ H (fun vs H1 => vs.length = ks.length ∧ spF X.K X.mg ps.length f (perm .non π vs) H1 Q (WE W σ)) I
    ⟨w, ρ, S, s0, en, (End.bind (R := fun w H => RpL X.K X.mg w H) h).imp ?_ (fun _ _ _ z => z)⟩) fun us s1 ⟨vs, H1, I1, r, ql, q⟩ => ⟨I1.kIn, ?_⟩) hpl
  · rintro vs H1 ⟨w1, S1, ds, e1, s1, r1, h1⟩
    split at h1
    · rename_i hd
      refine ⟨by rw [← r1.length]; exact hd, w1, S1, perm .non π ds, s1, RpL.perm r1 (fun i hi' => by rw [hd]; exact hi i hi'), ?_, h1⟩
      apply Classical.byContradiction
      intro hn
      have : fnK π f ds S1 = .no := ar _ S1 hn
      rw [this] at h1
      exact h1
    · exact h1.elim
  · rw [hks]
    have rp := vals_perm r (π := π) (fun i hi' => by rw [ql]; exact hi i hi')
    have bd' := bd us (by rw [← r.length]; exact ql)
    have hl' : (perm .non π vs).length = ps.length := F.size _ _ _ _ q
    rw [← hps] at bd'
    refine wpAny_call (codeAny_mono (F.runs X.A X.stack s1 H1 ⟨[], ks.zip us⟩ (perm .none π us) (perm .non π vs) Q (WE W σ) hr I1.env0 (.of_eq bd') rp q) fun res s' hq => ?_)
    match res, hq with
    | .error e, hq => exact passAt tk σ pins H1 s1 e s' I1 hq
    | .ok (.ret u), hq => exact I1.after hq
    | .ok .next, hq => exact hq.elim
    | .ok .brk, hq => exact hq.elim
    | .ok .cont, hq => exact hq.elim
end
end Kw

/-! Kw20: comprehensions of two sources; list(range(n)). -/
namespace Kw
open PySem PySem.Spec PyProof.Rows L2
/-- the outer loop: F is what one of its items adds -/
noncomputable def compO (g : FG) (F : FEnv → List D → Store → RE (List D)) (gu : Option (Nat × List D)) (ρ : FEnv) : List D → List D → Store → RE (List D)
  | [], acc, S => gchk gu S (.ok acc S) .no
  | d :: r, acc, S => gchk gu S (match g d ρ S with
    | some (ρ1, S1) => (match F ρ1 acc S1 with
      | .ok acc2 S2 => compO g F gu ρ r acc2 S2
      | _ => .no)
    | none => .no) .no
noncomputable def inL (fi1 : FI) (g1 : FG) (te : FE) (vs1 : List Nat) : FEnv → List D → Store → RE (List D) := fun ρ1 acc S => match fi1 ρ1 S with
  | .ok p S1 => compL g1 fYes te p.2 (wipeR ρ1 vs1) p.1 acc S1
  | _ => .no
noncomputable def fLc2 (fi : FI) (g : FG) (fi1 : FI) (g1 : FG) (te : FE) (vs vs1 : List Nat) : FE := fun ρ S => (fi ρ S).bnd fun p S1 => match compO g (inL fi1 g1 te vs1) p.2 (wipeR ρ vs) p.1 [] S1 with
  | .ok acc S2 => .ok (.lst acc) S2
  | _ => .no
section
variable {X : Cx} {W : WX} {fi fi1 : FI} {g g1 : FG} {sl sl1 : List Nat} {te : FE}
theorem lc2_core' {σ : L2.St} {H : Hp} {Q : VK} {vs vs1 : List Nat} (hsl : ∀ i ∈ sl, i ∈ vs) (hsl1 : ∀ i ∈ sl1, i ∈ vs1) (h : tF X W (fLc2 fi g fi1 g1 te vs vs1) σ H Q) :
    tLc2 (tI X W fi) (tG X sl g) (tT X W0 fYes) (tI X W0 fi1) (tG X sl1 g1) (tT X W0 fYes) (tF X W0 te) vs vs1 σ H Q := by
  obtain ⟨w, ρ, S, s, en, h⟩ := h
  refine ⟨w, ρ, S, s, en, (End.bind (R := ItOk X.K X.mg) h).imp ?_ (fun _ _ _ z => z)⟩
  rintro J H1 ⟨w1, S1, ⟨items, gu⟩, e1, s1, J1, h1⟩ C hC
  have enw : EnvR X.K X.mg w1 H1 (wipeR ρ vs) (wipe σ vs) := (en.ext e1).wipe vs
  let fin : RE (List D) → RE D := fun r => match r with
    | .ok acc S2 => .ok (.lst acc) S2
    | _ => .no
  have h1' : End X.K X.mg (fun w H => Rp X.K X.mg w H) w1 H1 (fin (compO g (inL fi1 g1 te vs1) gu (wipeR ρ vs) items [] S1)) Q (fun c od H' => W c od σ H') := h1
  let G : Hp → List D → Store → RE (List D) → Prop := fun H' acc S' r => ∃ w' xs, ExtD C w1 H1 w' H' ∧ Sto X.K X.mg w' S' H' ∧ H' C = some (.lst xs) ∧ RpL X.K X.mg w' H' acc xs ∧ ∃ r0, fin r = r0 ∧ End X.K X.mg (fun w H => Rp X.K X.mg w H) w1 H1 r0 Q (fun c od H' => W c od σ H')
  refine ⟨fun i m H' => ∃ acc S', i + m = items.length ∧ G H' acc S' (compO g (inL fi1 g1 te vs1) gu (wipeR ρ vs) (items.drop i) acc S'), ⟨items.length, [], S1, by omega, ⟨w1.φ, C :: w1.hd⟩, [], ExtD.begin_ hC, s1.mvd hC, upd_same, RpL.nil, _, rfl, h1'⟩, ?_⟩
  rintro i m H' ⟨acc, S', hm, w', xs, ed, s', hx, ra, r0, hr0, he⟩
  have no_end : ∀ {r : RE D}, r = .no → End X.K X.mg (fun w H => Rp X.K X.mg w H) w1 H1 r Q (fun c od H' => W c od σ H') → False := fun e h => by rw [e] at h; exact h
  cases hd : items.drop i with
  | nil =>
    rw [hd] at hr0
    unfold compO at hr0
    unfold gchk at hr0
    split at hr0
    · rename_i gd1
      have hl : items.length ≤ i := List.drop_eq_nil_iff.mp hd
      refine .inl ⟨(J1 w' S' H' ed.mv s' gd1).1 i hl, ?_⟩
      have hCin : C ∈ w'.hd := by rw [ed.hd]; exact List.mem_cons_self
      have hout : some C ∉ w'.φ := (s'.ap C hCin).2
      have hnh : C ∉ w1.hd := fun z => (s1.ap C z).1 hC
      have ra3 := RpL.mv (Mv.show (H := H') ed.hd) _ _ ra
      subst hr0
      refine he ⟨w'.φ, w1.hd⟩ H' (.ref C) ed.done (s'.show ed.hd ⟨_, hx⟩) ?_
      show Rp _ _ _ _ _ _
      unfold Rp
      exact ⟨C, xs, rfl, hx, ⟨hout, hnh⟩, ra3⟩
    · exact (no_end hr0.symm he).elim
  | cons d r =>
    rw [hd] at hr0
    unfold compO at hr0
    unfold gchk at hr0
    split at hr0
    · rename_i gd1
      have hi' : items[i]? = some d := by
        have := congrArg (·[0]?) hd
        simpa using this
      have hr : items.drop (i + 1) = r := by
        have := congrArg List.tail hd
        simpa using this
      have hlt : i < items.length := (List.getElem?_eq_some_iff.mp hi').1
      obtain ⟨j1, j2⟩ := (J1 w' S' H' ed.mv s' gd1).2 i d hi'
      refine .inr ⟨j1, fun H2 => ∃ acc2 S2, G H2 acc2 S2 (compO g (inL fi1 g1 te vs1) gu (wipeR ρ vs) r acc2 S2), fun H2 ⟨acc2, S2, z⟩ => ⟨m - 1, by omega, acc2, S2, by omega, by rw [hr]; exact z⟩, ?_⟩
      intro x H'' hy
      obtain ⟨j3, j4, j5⟩ := j2 x H'' hy
      have enw' : EnvR X.K X.mg w' H'' (wipeR ρ vs) (wipe σ vs) := (enw.mv ed.mv).ext j3
      refine ⟨w', wipeR ρ vs, S', d, j4, enw', j5, ?_⟩
      split at hr0
      · rename_i ρ1 S1' hg1
        rw [hg1]
        intro w2 H2 σ2 e2 s2 en2 k2 l2
        have hw : wipe σ2 vs = wipe σ vs := by
          rw [← wipe_wipe σ vs]
          exact wipe_eq l2 fun i hi => k2 i (fun z => hi (hsl i z))
        refine ⟨hw, w2, ρ1, S1', s2, en2, ?_⟩
        have ed2 : ExtD C w1 H1 w2 H2 := (ed.step j3).step e2
        intro w3 H3 b e3 s3 hb
        cases hb
        rw [if_pos rfl]
        have en3 := en2.ext e3
        refine ⟨w3, ρ1, S1', s3, en3, ?_⟩
        have exx3 : Ext w' H' w3 H3 := (j3.trans e2).trans e3
        have hCin' : C ∈ w'.hd := by rw [ed.hd]; exact List.mem_cons_self
        have hx3 : H3 C = some (.lst xs) := exx3.fr C _ hx (s'.ap C hCin').2
        have ra3 := RpL.ext exx3 _ _ ra
        have ed3 : ExtD C w1 H1 w3 H3 := ed2.step e3
        split at hr0
        · rename_i acc2 S2' hin
          unfold inL at hin
          split at hin
          · rename_i p S3 hfi
            obtain ⟨items1, gu1⟩ := p
            rw [hfi]
            intro w4 H4 J' e4 s4 JO
            have en4 : EnvR X.K X.mg w4 H4 (wipeR ρ1 vs1) (wipe σ2 vs1) := (en3.ext e4).wipe vs1
            have hC3 : C ∈ w3.hd := by rw [ed3.hd]; exact List.mem_cons_self
            have hx4 : H4 C = some (.lst xs) := e4.fr C _ hx3 (s3.ap C hC3).2
            have ra4 := RpL.ext e4 _ _ ra3
            have ed4 : ExtD C w1 H1 w4 H4 := ed3.step e4
            -- the inner loop
            let G1 : Hp → List D → Store → RE (List D) → Prop := fun H' acc S' r1 => ∃ w' xs, ExtD C w1 H1 w' H' ∧ Mv w4 H4 w' H' ∧ Sto X.K X.mg w' S' H' ∧ H' C = some (.lst xs) ∧ RpL X.K X.mg w' H' acc xs ∧ r1 = .ok acc2 S2'
            refine ⟨fun j k H' => ∃ acc S', j + k = items1.length ∧ G1 H' acc S' (compL g1 fYes te gu1 (wipeR ρ1 vs1) (items1.drop j) acc S'), ⟨items1.length, acc, S3, by omega, w4, xs, ed4, Mv.refl, s4, hx4, ra4, hin⟩, ?_⟩
            rintro j k H5 ⟨acc5, S5, hk, w5, xs5, ed5, mv5, s5, hx5, ra5, hr5⟩
            cases hd5 : items1.drop j with
            | nil =>
              rw [hd5] at hr5
              unfold compL at hr5
              unfold gchk at hr5
              split at hr5
              · rename_i gd5
                have hl5 : items1.length ≤ j := List.drop_eq_nil_iff.mp hd5
                cases hr5
                exact .inl ⟨(JO w5 _ H5 mv5 s5 gd5).1 j hl5, _, _, w5, xs5, ed5, s5, hx5, ra5, _, hr0, he⟩
              · cases hr5
            | cons d5 r5 =>
              rw [hd5] at hr5
              unfold compL at hr5
              unfold gchk at hr5
              split at hr5
              · rename_i gd5
                have hi5 : items1[j]? = some d5 := by
                  have := congrArg (·[0]?) hd5
                  simpa using this
                have hr6 : items1.drop (j + 1) = r5 := by
                  have := congrArg List.tail hd5
                  simpa using this
                have hlt5 : j < items1.length := (List.getElem?_eq_some_iff.mp hi5).1
                obtain ⟨q1, q2⟩ := (JO w5 S5 H5 mv5 s5 gd5).2 j d5 hi5
                refine .inr ⟨q1, fun H2 => ∃ acc2 S2, G1 H2 acc2 S2 (compL g1 fYes te gu1 (wipeR ρ1 vs1) r5 acc2 S2), fun H2 ⟨acc2, S2, z⟩ => ⟨k - 1, by omega, acc2, S2, by omega, by rw [hr6]; exact z⟩, ?_⟩
                intro x5 H6 hy5
                obtain ⟨j6, j7, j8⟩ := q2 x5 H6 hy5
                have en6 : EnvR X.K X.mg w5 H6 (wipeR ρ1 vs1) (wipe σ2 vs1) := (en4.mv mv5).ext j6
                refine ⟨w5, wipeR ρ1 vs1, S5, d5, j7, en6, j8, ?_⟩
                split at hr5
                · rename_i ρ6 S6 hg6
                  rw [hg6]
                  intro w7 H7 σ7 e7 s7 en7 k7 l7
                  have hw7 : wipe σ7 vs1 = wipe σ2 vs1 := by
                    rw [← wipe_wipe σ2 vs1]
                    exact wipe_eq l7 fun i hi => k7 i (fun z => hi (hsl1 i z))
                  refine ⟨hw7, w7, ρ6, S6, s7, en7, ?_⟩
                  intro w8 H8 b8 e8 s8 hb8
                  cases hb8
                  rw [if_pos rfl]
                  refine ⟨w8, ρ6, S6, s8, en7.ext e8, ?_⟩
                  have hyes : fYes ρ6 S6 = .ok true S6 := rfl
                  rw [hyes] at hr5
                  simp only at hr5
                  split at hr5
                  · rename_i y S9 hy9
                    rw [hy9]
                    intro w9 H9 u e9 s9 r9
                    have exx : Ext w5 H5 w9 H9 := ((j6.trans e7).trans e8).trans e9
                    have ed9 : ExtD C w1 H1 w9 H9 := ed5.step exx
                    have hC5 : C ∈ w5.hd := by rw [ed5.hd]; exact List.mem_cons_self
                    have hC9 : C ∈ w9.hd := by rw [ed9.hd]; exact List.mem_cons_self
                    have hx9 : H9 C = some (.lst xs5) := exx.fr C _ hx5 (s5.ap C hC5).2
                    have ra9 := RpL.ext exx _ _ ra5
                    split at hr5
                    · rename_i hlen
                      refine ⟨xs5, hx9, by rw [← ra5.length]; exact hlen, acc5 ++ [y], S9, w9, xs5 ++ [u], ed9.poke, (mv5.trans exx.mv).trans (Mv.poke hC9), s9.poke hC9 ⟨_, hx9⟩, upd_same, ?_, hr5⟩
                      exact (RpL.mv (Mv.poke hC9) _ _ ra9).append (RpL.one (Rp.mv (Mv.poke hC9) _ _ r9))
                    · cases hr5
                  · cases hr5
                · cases hr5
              · cases hr5
          · cases hin
        · exact (no_end hr0.symm he).elim
      · exact (no_end hr0.symm he).elim
    · exact (no_end hr0.symm he).elim
theorem q_lc2 {elt tg iter tg1 iter1 : Expr} {scope : Scope} {own : List (Str × Nat)} {vs1 : List Nat} {pos : Pos} (hc : X.calm = true) (hN : X.N.Nodup) (hi : PI X tg iter (tI X W fi)) (ok : BlkOk X.N X.env.scope scope own) (hv : ∀ i ∈ vs1, i ∈ own.map (·.2)) (hsl : ∀ i ∈ sl, i ∈ own.map (·.2)) (hsl1 : ∀ i ∈ sl1, i ∈ vs1)
    (hg : ∀ (s : Shared) (H : Hp) (C : Addr) (cl : List (Str × Addr)) (fp : List Addr), PG (X.blk s H scope (compEnvC scope cl C X.env) fp) tg (tG (X.blk s H scope (compEnvC scope cl C X.env) fp) sl g))
    (hi1 : ∀ (s : Shared) (H : Hp) (C : Addr) (cl : List (Str × Addr)) (fp : List Addr), PI (X.blk s H scope (compEnvC scope cl C X.env) fp) tg1 iter1 (tI (X.blk s H scope (compEnvC scope cl C X.env) fp) W0 fi1))
    (hg1 : ∀ (s : Shared) (H : Hp) (C : Addr) (cl : List (Str × Addr)) (fp : List Addr), PG (X.blk s H scope (compEnvC scope cl C X.env) fp) tg1 (tG (X.blk s H scope (compEnvC scope cl C X.env) fp) sl1 g1))
    (he : ∀ (s : Shared) (H : Hp) (C : Addr) (cl : List (Str × Addr)) (fp : List Addr), PE (X.blk s H scope (compEnvC scope cl C X.env) fp) elt (tF (X.blk s H scope (compEnvC scope cl C X.env) fp) W0 te))
    (hs : ∀ x, foldedSetIterable iter X.env x = pure x := by intro _; rfl) (hs1 : ∀ env x, foldedSetIterable iter1 env x = pure x := by intro _ _; rfl) :
    PE X (.ListComp elt [⟨tg, iter, [], 0⟩, ⟨tg1, iter1, [], 0⟩] scope pos) (tF X W (fLc2 fi g fi1 g1 te (own.map (·.2)) vs1)) :=
  PE.wk (pe_lc2 (g := tG X sl g) (tt := tT X W0 fYes) (wi1 := tI X W0 fi1) (g1 := tG X sl1 g1) (tt1 := tT X W0 fYes) (te := tF X W0 te) hc hN hi ok hv hg (fun _ _ _ _ _ => qts_nil) hi1 hg1 (fun _ _ _ _ _ => qts_nil) he hs hs1) fun σ H Q h => lc2_core' hsl hsl1 h
theorem q_setLc2 {elt tg iter tg1 iter1 : Expr} {scope : Scope} {own : List (Str × Nat)} {vs1 : List Nat} {i : Nat} {y : Str} {py pos spos : Pos} (hc : X.calm = true) (hN : X.N.Nodup) (hy : X.N[i]? = some y) (hyl : X.env.scope.names.lookup y = some .local)
    (hsw : swapsWith (.ListComp elt [⟨tg, iter, [], 0⟩, ⟨tg1, iter1, [], 0⟩] scope pos) (some (.Name y py)) spos.line X.env = pure true) (hi : PI X tg iter (tI X W fi)) (ok : BlkOk X.N X.env.scope scope own) (hv : ∀ i ∈ vs1, i ∈ own.map (·.2)) (hsl : ∀ i ∈ sl, i ∈ own.map (·.2)) (hsl1 : ∀ i ∈ sl1, i ∈ vs1)
    (hg : ∀ (s : Shared) (H : Hp) (C : Addr) (cl : List (Str × Addr)) (fp : List Addr), PG (X.blk s H scope (compEnvC scope cl C X.env) fp) tg (tG (X.blk s H scope (compEnvC scope cl C X.env) fp) sl g))
    (hi1 : ∀ (s : Shared) (H : Hp) (C : Addr) (cl : List (Str × Addr)) (fp : List Addr), PI (X.blk s H scope (compEnvC scope cl C X.env) fp) tg1 iter1 (tI (X.blk s H scope (compEnvC scope cl C X.env) fp) W0 fi1))
    (hg1 : ∀ (s : Shared) (H : Hp) (C : Addr) (cl : List (Str × Addr)) (fp : List Addr), PG (X.blk s H scope (compEnvC scope cl C X.env) fp) tg1 (tG (X.blk s H scope (compEnvC scope cl C X.env) fp) sl1 g1))
    (he : ∀ (s : Shared) (H : Hp) (C : Addr) (cl : List (Str × Addr)) (fp : List Addr), PE (X.blk s H scope (compEnvC scope cl C X.env) fp) elt (tF (X.blk s H scope (compEnvC scope cl C X.env) fp) W0 te))
    (hs : ∀ x, foldedSetIterable iter X.env x = pure x := by intro _; rfl) (hs1 : ∀ env x, foldedSetIterable iter1 env x = pure x := by intro _ _; rfl) :
    PS X (.Assign [.Name y py] (.ListComp elt [⟨tg, iter, [], 0⟩, ⟨tg1, iter1, [], 0⟩] scope pos) spos) (tS X W (sSet i (fLc2 fi g fi1 g1 te (own.map (·.2)) vs1))) :=
  PS.wk (ps_setLc2 (g := tG X sl g) (tt := tT X W0 fYes) (wi1 := tI X W0 fi1) (g1 := tG X sl1 g1) (tt1 := tT X W0 fYes) (te := tF X W0 te) hc hN hy hyl hsw hi ok hv hg (fun _ _ _ _ _ => qts_nil) hi1 hg1 (fun _ _ _ _ _ => qts_nil) he hs hs1) fun D σ H ⟨w, ρ, S, s, en, h⟩ => by
    refine lc2_core' (Q := fun x H1 => gName i x σ H1 D.nx) hsl hsl1 ⟨w, ρ, S, s, en, (h.of (R := fun w H => Rp X.K X.mg w H) en).imp (fun v H1 ⟨w1, S1, d, e1, s1, r1, h1⟩ => h1.nx' s1 ((en.ext e1).set r1)) (fun _ _ _ z => z)⟩
end
/-! ### list(range(n)) -/
theorem rgV_ints (n : Int) : rgV 0 n = ((List.range n.toNat).map fun (i : Nat) => ((i : Nat) : Int)).map V.int := by
  unfold rgV
  rw [List.map_map, Int.sub_zero]
  apply List.map_congr_left
  intro i _
  simp
def gRng (x : D) (S : Store) : RE D := match x with
  | .int n => if 0 ≤ n ∧ n ≤ 16777216 then .ok (.lst (((List.range n.toNat).map fun (i : Nat) => ((i : Nat) : Int)).map D.int)) S else .no
  | _ => .no
theorem q_listRg {X : Cx} {W : WX} {e : Expr} {fe : FE} {p p' pos pos' : Pos} (hc : X.calm = true) (hg : Gl X "list") (hm : X.mg "list" = none) (hg' : Gl X "range") (hm' : X.mg "range" = none) (he : PE X e (tF X W fe))
    (na : starEach [.Call (.Name "range" p') [e] [] pos'] X.env = (false, eval (.Call (.Name "range" p') [e] [] pos') X.env) :: starEach [] X.env := by rfl) (na' : starEach [e] X.env = (false, eval e X.env) :: starEach [] X.env := by rfl) :
    PE X (.Call (.Name "list" p) [.Call (.Name "range" p') [e] [] pos'] [] pos) (tF X W (f1 gRng fe)) :=
  PE.wk (pe_listRg hc hg hm (prg_1 hg' hm' he na') na) fun σ H Q ⟨w, ρ, S, s, en, h⟩ => by
    refine ⟨w, ρ, S, s, en, (End.bind (R := fun w H => Rp X.K X.mg w H) h).imp ?_ (fun _ _ _ z => z)⟩
    rintro v H1 ⟨w1, S1, d, e1, s1, r1, h1⟩
    unfold gRng at h1
    split at h1
    · rename_i n
      split at h1
      · rename_i hn
        refine ⟨n, rp_int r1, RgOk.of_le (by omega) (by omega) (by omega) (by omega), fun q hq => ?_⟩
        rw [rgV_ints]
        exact newLst s1 (RpL.ints _) hq h1
      · exact h1.elim
    · exact h1.elim
end Kw

/-! Kw21: sorted of lists of data. -/
namespace Kw
open PySem PySem.Spec PySem.Calls PyProof.Rows L2
/-- xs put in the order of their data -/
noncomputable def sortB {α : Type} (xs : List α) (ps : List PyData) : List α := ((xs.zip ps).mergeSort (PySem.W.dataLe false Prod.snd)).map Prod.fst
theorem zip_snd {α : Type} : ∀ {xs : List α} {ps : List PyData}, xs.length = ps.length → (xs.zip ps).map Prod.snd = ps
  | [], [], _ => rfl
  | [], _ :: _, h => by simp at h
  | _ :: _, [], h => by simp at h
  | x :: xs, p :: ps, h => by
    show p :: (xs.zip ps).map Prod.snd = _
    rw [zip_snd (by simpa using h)]
theorem zip_fst {α : Type} : ∀ {xs : List α} {ps : List PyData}, xs.length = ps.length → (xs.zip ps).map Prod.fst = xs
  | [], [], _ => rfl
  | [], _ :: _, h => by simp at h
  | _ :: _, [], h => by simp at h
  | x :: xs, p :: ps, h => by
    show x :: (xs.zip ps).map Prod.fst = _
    rw [zip_fst (by simpa using h)]
theorem sortB_perm {α : Type} {xs : List α} {ps : List PyData} (h : xs.length = ps.length) : (sortB xs ps).Perm xs := by
  have h1 := (List.mergeSort_perm (xs.zip ps) (PySem.W.dataLe false Prod.snd)).map Prod.fst
  rw [zip_fst h] at h1
  exact h1
theorem sortB_length {α : Type} {xs : List α} {ps : List PyData} (h : xs.length = ps.length) : (sortB xs ps).length = xs.length := (sortB_perm h).length_eq
/-- sorted by what stands for each -/
theorem sortB_map {α β : Type} (f : β → α) (p : β → PyData) (L : List β) : sortB (L.map f) (L.map p) = (L.mergeSort (PySem.W.dataLe false p)).map f := by
  have e : (L.map f).zip (L.map p) = L.map fun x => (f x, p x) := by
    induction L with
    | nil => rfl
    | cons x L ih => simp [ih]
  unfold sortB
  rw [e, ← List.map_mergeSort (f := fun x => (f x, p x)) (r := PySem.W.dataLe false p) (fun a _ b _ => rfl), List.map_map]
  rfl
theorem DpAll.length {K : PySem.W.Frag} {H : Hp} : ∀ {vs : List V} {ds : List PyData}, DpAll K H vs ds → vs.length = ds.length
  | _, _, .nil => rfl
  | _, _, .cons _ t => by simp [DpAll.length t]
def rSortD (K : PySem.W.Frag) : List V → Hp → VK → Prop := fun vs H Q => ∃ (a : Addr) (xs : List V) (ps : List PyData), vs = [V.ref a] ∧ SqL K H a xs ∧ DpAll K H xs ps ∧ PySem.W.AllAlike ps ∧ PySem.W.Sortable ps ∧ PyData.depthAll ps ≤ 190 ∧ ∀ p, H p = none → Q (.ref p) (upd H p (.lst (sortB xs ps)))
theorem depth_mem : ∀ {ps : List PyData} {p : PyData}, p ∈ ps → p.depth ≤ PyData.depthAll ps
  | q :: ps, p, h => by
    simp only [PyData.depthAll]
    rcases List.mem_cons.mp h with rfl | h
    · omega
    · have := depth_mem h; omega
section
variable {X : Cx}
theorem each_vals : ∀ {xs : List V} {us : List Value} {ps : List PyData}, Vals xs us → xs.length = ps.length → PySem.W.EachIs (fun u (b : V × PyData) => RelV b.1 u) us (xs.zip ps)
  | _, _, [], .nil, _ => .nil
  | _, _, _ :: _, .nil, h => by simp at h
  | _, _, [], .cons _ _, h => by simp at h
  | _, _, p :: ps, .cons r t, h => .cons r (each_vals t (by simpa using h))
theorem vals_each : ∀ {bs : List (V × PyData)} {us : List Value}, PySem.W.EachIs (fun u (b : V × PyData) => RelV b.1 u) us bs → Vals (bs.map Prod.fst) us
  | _, _, .nil => .nil
  | _, _, .cons r t => .cons r (vals_each t)
theorem each_reads {h : Heap} : ∀ {xs : List V} {us : List Value} {ps : List PyData} {as : List Addr}, Vals xs us → ReadsAll h us ps as → PySem.W.EachIs (fun u (b : V × PyData) => ∃ as, Reads h u b.2 as) us (xs.zip ps)
  | _, _, _, _, .nil, r => by cases r; exact .nil
  | _, _, _, _, .cons _ t, r => by
    cases r with
    | cons r1 r2 => exact .cons ⟨_, r1⟩ (each_reads t r2)
theorem cr_sortedD (hu : X.A.units + 200 < cLine) : CallR X (.builtin "sorted") (rSortD X.K) := by
  intro pins s σ H vs us Q I r h
  obtain ⟨a, xs, ps, rfl, hs, hd, hal, hso, hdep, q⟩ := h
  obtain ⟨its, rv, hl, hz⟩ := I.list hs
  rw [Vals.ref1 r]
  have el := DpAll.length hd
  obtain ⟨as, ra⟩ := Dp.readsAll I ps xs its hd rv
  have ez := zip_snd el
  refine PySem.W.sorted_data (β := V × PyData) (bs := xs.zip ps) (enc := Prod.snd) (R := fun u b => RelV b.1 u) hl.isList (each_vals rv el) (each_reads rv ra) (by rw [ez]; exact hal) (by rw [ez]; exact hso) (by rw [List.length_zip]; omega) (fun b hb => ?_) fun out h1 h2 => ?_
  · have hm : b.2 ∈ ps := by rw [← ez]; exact List.mem_map.mpr ⟨b, hb, rfl⟩
    have := depth_mem hm
    omega
  · obtain ⟨ep, he'⟩ := PyProof.Rows.sortedAll_at s.heap its out.toArray
    exact ⟨.ref _, upd H (s.heap.objs.size + 1) (.lst (sortB xs ps)), I.laid (t' := s.toks) (fun _ _ => PyProof.Rows.sortedAll_old) (Nat.le_succ _) ⟨by rw [sortB_length el]; exact hz, out, ep, vals_each h2, he'⟩, rfl, q _ (I.hok.fresh (Nat.le_succ _))⟩
open Classical in
noncomputable def gSorted (ds : List D) (S : Store) : RE D := match ds with
  | [x] => (match seqL S x with
    | some ys => (match pySL S ys with
      | some ps => if PySem.W.AllAlike ps ∧ PySem.W.Sortable ps ∧ PyData.depthAll ps ≤ 190 then .ok (.lst (sortB ys ps)) S else .no
      | none => .no)
    | none => .no)
  | _ => .no
theorem pySL_length {S : Store} : ∀ {ds : List D} {ps : List PyData}, pySL S ds = some ps → ds.length = ps.length
  | [], ps, h => by
    have : some [] = some ps := h
    cases this; rfl
  | d :: ds, ps, h => by
    have h' : ((pyS S d).bind fun a => (pySL S ds).map (a :: ·)) = some ps := h
    rw [Option.bind_eq_some_iff] at h'
    obtain ⟨p, _, h2⟩ := h'
    rw [Option.map_eq_some_iff] at h2
    obtain ⟨qs, h3, rfl⟩ := h2
    simp [pySL_length h3]
theorem RpL.of_all {K : PySem.W.Frag} {mg : Str → Option Value} {w : Wd} {H : Hp} : ∀ {L : List (D × V)}, (∀ b ∈ L, Rp K mg w H b.1 b.2) → RpL K mg w H (L.map Prod.fst) (L.map Prod.snd)
  | [], _ => RpL.nil
  | b :: L, h => RpL.cons (h b List.mem_cons_self) (RpL.of_all fun c hc => h c (List.mem_cons_of_mem _ hc))
theorem RpL.zip {K : PySem.W.Frag} {mg : Str → Option Value} {w : Wd} {H : Hp} : ∀ {ds : List D} {vs : List V}, RpL K mg w H ds vs → ∀ b ∈ ds.zip vs, Rp K mg w H b.1 b.2
  | [], vs, h, b, hb => by simp at hb
  | d :: ds, vs, h, b, hb => by
    unfold RpL at h
    obtain ⟨v, r, rfl, h1, h2⟩ := h
    rcases List.mem_cons.mp hb with rfl | hb
    · exact h1
    · exact RpL.zip h2 b hb
theorem RpL.sort {K : PySem.W.Frag} {mg : Str → Option Value} {w : Wd} {H : Hp} {ds : List D} {vs : List V} {ps : List PyData} (h : RpL K mg w H ds vs) (hp : ds.length = ps.length) : RpL K mg w H (sortB ds ps) (sortB vs ps) := by
  have el := h.length
  have z1 : ((ds.zip vs).zip ps).map (fun t => t.1.1) = ds := by
    have e : (fun t : (D × V) × PyData => t.1.1) = Prod.fst ∘ Prod.fst := rfl
    rw [e, ← List.map_map, zip_fst (by rw [List.length_zip]; omega)]
    exact List.map_fst_zip (by omega)
  have z2 : ((ds.zip vs).zip ps).map (fun t => t.1.2) = vs := by
    have e : (fun t : (D × V) × PyData => t.1.2) = Prod.snd ∘ Prod.fst := rfl
    rw [e, ← List.map_map, zip_fst (by rw [List.length_zip]; omega)]
    exact List.map_snd_zip (by omega)
  have z3 : ((ds.zip vs).zip ps).map Prod.snd = ps := zip_snd (by rw [List.length_zip]; omega)
  have s1 := sortB_map (fun t : (D × V) × PyData => t.1.1) Prod.snd ((ds.zip vs).zip ps)
  have s2 := sortB_map (fun t : (D × V) × PyData => t.1.2) Prod.snd ((ds.zip vs).zip ps)
  rw [z1, z3] at s1
  rw [z2, z3] at s2
  rw [s1, s2]
  have key := RpL.of_all (K := K) (mg := mg) (w := w) (H := H) (L := (((ds.zip vs).zip ps).mergeSort (PySem.W.dataLe false Prod.snd)).map Prod.fst) (fun b hb => by
    obtain ⟨t, ht, rfl⟩ := List.mem_map.mp hb
    have hm := (List.mergeSort_perm _ _).mem_iff.mp ht
    exact RpL.zip h _ (List.of_mem_zip (a := t.1) (b := t.2) hm).1)
  rw [List.map_map, List.map_map] at key
  exact key
theorem sorted_v {K : PySem.W.Frag} {mg : Str → Option Value} : CallV K mg (rSortD K) gSorted := by
  intro w S H xs ds Q E s r h
  unfold gSorted at h
  split at h
  · rename_i x
    split at h
    · rename_i ys h1
      split at h
      · rename_i ps h2
        split at h
        · rename_i hc
          obtain ⟨v, rfl, r1⟩ := r.one_inv
          obtain ⟨a, zs, rfl, hs, rl⟩ := seqL_at s r1 h1
          exact ⟨a, zs, ps, rfl, hs, pySL_at s ys zs ps rl h2, hc.1, hc.2.1, hc.2.2, fun p np => newLst s (rl.sort (pySL_length h2)) np h⟩
        · exact h.elim
      · exact h.elim
    · exact h.elim
  · exact h.elim
end
end Kw

/-! Kw22: the ends, with tables of code objects and the modules' table. -/
namespace Kw
open PySem PySem.Spec PySem.Calls PyProof.Rows L2
/-- a code object, its table, the name that the table's code objects bear -/
abbrev Tb := Addr × Addr × Str
def tbP (cs : List Tb) : List Addr := cs.map fun p => p.2.1
/-- the cells at the start -/
def topS0 (cs : List Tb) : Store := .sys :: cs.map fun p => .tab p.2.2
def topW (cs : List Tb) : Wd := ⟨none :: (tbP cs).map some, [sysModules]⟩
structure TopH (K : PySem.W.Frag) (cs : List Tb) (H : Hp) (a : Addr) (ns : List Int) : Prop where
  sysx : ∃ φ, H sysModules = some (.ext φ) ∧ SysQ φ
  look : K.lookup sysModules = none
  tbl : ∀ p ∈ cs, H p.2.1 = some (.tbl #[])
  tin : ∀ p ∈ cs, PySem.W.tabIn K p.2.2 = some (p.1, p.2.1)
  nodup : (tbP cs).Nodup
  scr : SqL K H a (ns.map V.int)
  frz : ∀ o, H a = some o → ∃ u, o = .frz u (.lst (ns.map V.int))
section
variable {K : PySem.W.Frag} {mg : Str → Option Value} {cs : List Tb} {H : Hp} {a : Addr} {ns : List Int}
theorem TopH.sys_ne (t : TopH K cs H a ns) {p : Tb} (hp : p ∈ cs) : p.2.1 ≠ sysModules := fun e => by
  obtain ⟨φ, h, _⟩ := t.sysx
  have := t.tbl p hp
  rw [e, h] at this; cases this
theorem topW_get {n : Nat} {b : Addr} (h : (topW cs).φ[n]? = some (some b)) : ∃ m, n = m + 1 ∧ (tbP cs)[m]? = some b := by
  cases n with
  | zero => cases h
  | succ m =>
    refine ⟨m, rfl, ?_⟩
    have h' : ((tbP cs).map some)[m]? = some (some b) := h
    rw [List.getElem?_map] at h'
    cases e : (tbP cs)[m]? with
    | none => rw [e] at h'; cases h'
    | some c => rw [e] at h'; simpa using h'
theorem top_sto (t : TopH K cs H a ns) : Sto K mg (topW cs) (topS0 cs) H := by
  have nsys : some sysModules ∉ (topW cs).φ := fun z => by
    rcases List.mem_cons.mp (show some sysModules ∈ none :: (tbP cs).map some from z) with z | z
    · cases z
    · obtain ⟨b, hb, e⟩ := List.mem_map.mp z
      cases e
      obtain ⟨p, hp, e⟩ := List.mem_map.mp hb
      exact t.sys_ne hp e
  refine ⟨by simp [topW, topS0, tbP], fun m n b h1 h2 => ?_, fun b hb => ?_, fun n c hc => ?_⟩
  · obtain ⟨i, rfl, hi⟩ := topW_get h1
    obtain ⟨j, rfl, hj⟩ := topW_get h2
    have hil : i < (tbP cs).length := by
      rcases Nat.lt_or_ge i (tbP cs).length with l | l
      · exact l
      · rw [List.getElem?_eq_none l] at hi; cases hi
    have := (List.getElem?_inj hil t.nodup).mp (hi.trans hj.symm)
    omega
  · have e : b = sysModules := by simpa [topW] using hb
    subst e
    obtain ⟨φ, h, _⟩ := t.sysx
    exact ⟨by rw [h]; exact fun z => (nomatch z), nsys⟩
  · cases n with
    | zero =>
      have e : c = .sys := by simpa [topS0] using hc.symm
      subst e
      exact ⟨rfl, List.mem_cons_self, nsys, t.sysx, t.look⟩
    | succ m =>
      have hc' : (cs.map fun p => Cell.tab p.2.2)[m]? = some c := hc
      rw [List.getElem?_map] at hc'
      cases e : cs[m]? with
      | none => rw [e] at hc'; cases hc'
      | some p =>
        rw [e] at hc'
        have e2 : Cell.tab p.2.2 = c := by simpa using hc'
        subst e2
        have hp := List.mem_of_getElem? e
        refine ⟨_, _, t.tin p hp, ?_, #[], t.tbl p hp, trivial, fun pos cv h => ?_⟩
        · show ((tbP cs).map some)[m]? = _
          rw [List.getElem?_map, tbP, List.getElem?_map, e]; rfl
        · have h' : codeAmong pos [] = some cv := h
          simp [codeAmong] at h'
theorem top_script (t : TopH K cs H a ns) : Rp K mg (topW cs) H (.fls (ns.map .int)) (.ref a) := by
  unfold Rp
  refine ⟨a, _, rfl, ?_, RpL.ints ns⟩
  rcases t.scr with (h | ⟨o, h⟩) | h
  · obtain ⟨u, e⟩ := t.frz _ h; cases e
  · refine .inl ⟨o, h, fun z => ?_, fun z => ?_⟩
    · rcases List.mem_cons.mp (show some a ∈ none :: (tbP cs).map some from z) with z | z
      · cases z
      · obtain ⟨b, hb, e⟩ := List.mem_map.mp z
        cases e
        obtain ⟨p, hp, rfl⟩ := List.mem_map.mp hb
        have := t.tbl p hp
        rw [h] at this; cases this
    · have e : a = sysModules := by simpa [topW] using z
      obtain ⟨φ, q, _⟩ := t.sysx
      rw [e, q] at h; cases h
  · exact .inr h
/-- the law's promise, from a heap of that kind; the modules' table stays -/
def spTop (K : PySem.W.Frag) (cs : List Tb) : Sp := fun vs H Q _ => ∃ (a : Addr) (ns : List Int), vs = [.ref a] ∧ ns.length ≤ 63 ∧ (∀ z ∈ ns, Builtin.Int.intBits z ≤ 1048576) ∧ TopH K cs H a ns ∧ ∀ H', (∀ φ, H sysModules = some (.ext φ) → H' sysModules = some (.ext φ)) → Q (.bl true) H'
theorem top_imp {F : FF} (hF : ∀ ns : List Int, ns.length ≤ 63 → (∀ z ∈ ns, Builtin.Int.intBits z ≤ 1048576) → ∃ S', F [.fls (ns.map .int)] (topS0 cs) = .ok (.bl true) S') : ∀ vs H Q E, spTop K cs vs H Q E → spF K mg 1 F vs H Q E := by
  rintro vs H Q E ⟨a, ns, rfl, hl, hb, t, q⟩
  obtain ⟨S', e⟩ := hF ns hl hb
  have st := top_sto (mg := mg) t
  refine ⟨topW cs, topS0 cs, [.fls (ns.map .int)], st, RpL.one (top_script t), rfl, ?_⟩
  rw [e]
  intro w' H' v ex s r
  rw [rp_bl r]
  exact q H' fun φ h => ex.fr _ _ h (st.ap sysModules List.mem_cons_self).2
def topH (K : PySem.W.Frag) (ps : List Addr) (om : Obj) (a : Addr) (vs : List Value) (ns : List Int) : Hp := fun b =>
  if b = sysModules then some (.ext fun h => h.get? sysModules = some om) else if b ∈ ps then some (.tbl #[]) else if b = a ∧ (K.lookup a).isNone = true then some (.frz (scrO vs) (.lst (ns.map V.int))) else none
theorem head_t {P : Program} {w : World} {mb : Str → Option Value} {k : Nat} {fa : Addr} {fd : FuncData} {x : Str} {s : Shared} {vs : List Value} (KX : K.In s.heap) (gm : s.heap.Ns mainGlobals mg) (gb : s.heap.Ns builtinsNs mb)
    (boot : ∀ y : Str, y ≠ "__name__" → mb y = bootBuiltins y) (lim : s.heap.NoLimit) (sy : ∃ mm, s.heap.Ns sysModules mm) (bmn : ∃ bm ob, mg "__builtins__" = some (.ref bm) ∧ bm ≠ builtinsNs ∧ s.heap.get? bm = some ob ∧ ob.cls = .type "module" ∧ ob.dict = some builtinsNs ∧ ob.data = .plain) (ng : s.gens = #[])
    (ha : s.heap.get? a = some (scrO vs)) (hi : IntsAre vs ns) (hl : ns.length ≤ 63) (hz : ∀ z ∈ ns, Builtin.Int.intBits z ≤ 1048576) (hr : RoomG k callerA)
    (kS : K.lookup sysModules = none) (hT : ∀ p ∈ cs, s.heap.get? p.2.1 = some { cls := .none, data := .fields #[] }) (kT : ∀ p ∈ cs, K.lookup p.2.1 = none) (hC : ∀ p ∈ cs, PySem.W.CodeHd s.heap p.1 p.2.1) (nd : (tbP cs).Nodup) (hI : ∀ p ∈ cs, PySem.W.tabIn K p.2.2 = some (p.1, p.2.1))
    (F : ∀ base : Heap, K.In base → base.Ns mainGlobals mg → (∀ p ∈ cs, LamX.TabB base mg p.1 p.2.1) → FnG P w K mg base k fa fd [x] (spTop K cs)) (hbd : ∀ (s : Shared) (u : Value), BindsTo s fd ⟨[u], []⟩ [(x, u)]) (no : ∀ H e s', L2.CX P w [] H s (fun _ _ _ => False) e s' → False) :
    codeAny (model P w) callerA (.call (.ref fa) ⟨[.ref a], []⟩) (fun r s' => r = .ok (.ret (.bool true)) ∧ OldK s.heap s'.heap ∧ s'.os = s.os ∧ AllBare s'.gens) s := by
  obtain ⟨mm, om, es, ep, hom, hod, _⟩ := sy
  have rv := vals_ints hi
  have hsz : ns.length ≤ sizeLine := Nat.le_trans hl (by rw [sizeLine_eq]; decide)
  have hsz' : (ns.map V.int).length ≤ sizeLine := by rw [List.length_map]; exact hsz
  have aS : a ≠ sysModules := fun e => by
    rw [e, hom] at ha
    have := congrArg Obj.data (Option.some.inj ha)
    rw [hod] at this; cases this
  have tS : ∀ p ∈ cs, p.2.1 ≠ sysModules := fun p hp e => by
    have := hT p hp
    rw [e, hom] at this
    have := congrArg Obj.data (Option.some.inj this)
    rw [hod] at this; cases this
  have tA : a ∉ tbP cs := fun z => by
    obtain ⟨p, hp, e⟩ := List.mem_map.mp z
    have := hT p hp
    rw [e, ha] at this
    have := congrArg Obj.data (Option.some.inj this)
    cases this
  have sT : sysModules ∉ tbP cs := fun z => by
    obtain ⟨p, hp, e⟩ := List.mem_map.mp z
    exact tS p hp e
  generalize hH : topH K (tbP cs) om a vs ns = H
  have Hs : H sysModules = some (.ext fun h => h.get? sysModules = some om) := by rw [← hH]; exact if_pos rfl
  have Ht : ∀ b, b ∈ tbP cs → H b = some (.tbl #[]) := fun b hb => by
    rw [← hH]; unfold topH
    have n1 : ¬ b = sysModules := fun z => sT (by rw [← z]; exact hb)
    rw [if_neg n1, if_pos hb]
  have Ho : ∀ b, b ≠ sysModules → b ∉ tbP cs → H b = if b = a ∧ (K.lookup a).isNone = true then some (.frz (scrO vs) (.lst (ns.map V.int))) else none := fun b h1 h2 => by
    rw [← hH]; unfold topH
    rw [if_neg h1, if_neg h2]
  have Hc : ∀ b u, H b = some u → (b = sysModules ∧ u = .ext fun h => h.get? sysModules = some om) ∨ (b ∈ tbP cs ∧ u = .tbl #[]) ∨ (b = a ∧ K.lookup a = none ∧ u = .frz (scrO vs) (.lst (ns.map V.int))) := fun b u e => by
    by_cases h1 : b = sysModules
    · subst h1; rw [Hs] at e; cases e; exact .inl ⟨rfl, rfl⟩
    · by_cases h2 : b ∈ tbP cs
      · rw [Ht b h2] at e; cases e; exact .inr (.inl ⟨h2, rfl⟩)
      · rw [Ho b h1 h2] at e
        split at e
        · rename_i q; cases e; exact .inr (.inr ⟨q.1, by simpa using q.2, rfl⟩)
        · cases e
  have top : TopH K cs H a ns := by
    refine ⟨⟨_, Hs, fun h z => ⟨om, es, ep, z, hod⟩⟩, kS, fun p hp => Ht _ (List.mem_map.mpr ⟨p, hp, rfl⟩), hI, nd, ?_, fun o e => ?_⟩
    · cases hk : K.lookup a with
      | some o =>
        have e := (KX a o hk).symm.trans ha
        cases e
        exact .inr ⟨_, vs.toArray, _, hk, rfl, rfl, rfl, by rw [List.size_toArray, hi.length]; exact hsz, by simpa using rv⟩
      | none => exact .inl (.inr ⟨scrO vs, by rw [Ho a aS tA, if_pos ⟨rfl, by rw [hk]; rfl⟩]⟩)
    · rcases Hc _ _ e with ⟨z, _⟩ | ⟨z, _⟩ | ⟨_, _, z⟩
      · exact absurd z aS
      · exact absurd z tA
      · exact ⟨_, z⟩
  have hok : HOk P w H s.heap := fun b u e => by
    rcases Hc _ _ e with ⟨rfl, rfl⟩ | ⟨z, rfl⟩ | ⟨rfl, _, rfl⟩
    · exact ⟨hom, ⟨om, hom⟩, fun h1 h2 q st => st _ q⟩
    · obtain ⟨p, hp, rfl⟩ := List.mem_map.mp z
      exact hT p hp
    · exact ⟨ha, hsz', vs, _, rv, ha⟩
  have un : ∀ {b : Addr} {o : Obj}, s.heap.get? b = some o → b ≠ sysModules → o.data ≠ .fields #[] → (o ≠ scrO vs ∨ K.lookup b ≠ none) → H b = none := fun {b o} g n1 n2 n3 => by
    cases e : H b with
    | none => rfl
    | some u =>
      rcases Hc _ _ e with ⟨z, _⟩ | ⟨z, _⟩ | ⟨rfl, k0, _⟩
      · exact absurd z n1
      · obtain ⟨p, hp, rfl⟩ := List.mem_map.mp z
        rw [hT p hp] at g; cases g
        exact absurd rfl n2
      · rcases n3 with n | n
        · exact absurd (Option.some.inj (g.symm.trans ha)) n
        · exact absurd k0 n
  have nsT : ∀ {b : Addr} {m : Str → Option Value}, b ≠ sysModules → s.heap.Ns b m → (hidT s.heap H).Ns b m := fun {b m} n ⟨o, es, ep, g, d, r⟩ =>
    ⟨o, es, ep, hidT_get g (un g n (fun z => by rw [z] at d; cases d) (.inl fun z => by rw [z] at d; exact nomatch d)), d, r⟩
  have kH : K.In (hidT s.heap H) := fun b o g => by
    refine hidT_get (KX b o g) ?_
    cases e : H b with
    | none => rfl
    | some u =>
      rcases Hc _ _ e with ⟨rfl, _⟩ | ⟨z, _⟩ | ⟨rfl, k0, _⟩
      · rw [kS] at g; cases g
      · obtain ⟨p, hp, rfl⟩ := List.mem_map.mp z
        rw [kT p hp] at g; cases g
      · rw [k0] at g; cases g
  obtain ⟨mc, lim1, lim2⟩ := lim
  have dS : mainGlobals ≠ sysModules := by decide
  have dB : builtinsNs ≠ sysModules := by decide
  have dC : cStatics ≠ sysModules := by decide
  have md : L2.Mod K mg (hidT s.heap H) := ⟨kH, nsT dS gm, ⟨mb, nsT dB gb, boot⟩, ⟨mc, nsT dC lim1, lim2⟩⟩
  have tb : ∀ p ∈ cs, LamX.TabB (hidT s.heap H) mg p.1 p.2.1 := fun p hp => by
    have tp := hT p hp
    refine ⟨?_, ?_, fun z => ?_⟩
    · obtain ⟨oc, us, f1, f2, f3, f4, f5, f6, f7, g1, g2, g3, g4, rest⟩ := hC p hp
      refine ⟨oc, us, f1, f2, f3, f4, f5, f6, f7, hidT_get g1 (un g1 (fun z => ?_) (fun z => ?_) (.inl fun z => ?_)), g2, g3, g4, rest⟩
      · rw [z, hom] at g1; cases g1
        rw [hod] at g3; cases g3
      · rw [z] at g3; cases g3; simp at g4
      · rw [z] at g3; cases g3
    · obtain ⟨bm, ob, b1, b2, b3, b4, b5, b6⟩ := bmn
      refine ⟨bm, ob, b1, b2, fun z => ?_, fun z => ?_, hidT_get b3 (un b3 (fun z => ?_) (fun z => ?_) (.inl fun z => ?_)), b4, b5, b6⟩
      · obtain ⟨og, _, _, g1, g2, _⟩ := gm
        rw [z, g1] at b3; cases b3
        rw [g2] at b6; cases b6
      · rw [z, tp] at b3; cases b3; cases b6
      · rw [z, hom] at b3; cases b3
        rw [hod] at b6; cases b6
      · rw [z] at b6; cases b6
      · rw [z] at b6; cases b6
    · obtain ⟨og, _, _, g1, g2, _⟩ := gm
      rw [z, tp] at g1; cases g1; cases g2
  have e0 : Env0 P w K mg (hidT s.heap H) callerA [] s H := { frames := rfl, mod := md, bs := fun b o g => of_hidT g, bsz := Nat.le_of_eq (hidT_size _ _), funs := trivial, frf := fun b hb => (nomatch hb), hok := hok, bare := .of_eq ng }
  refine codeAny_mono ((F _ kH (nsT dS gm) tb).runs callerA [] s H ⟨[.ref a], []⟩ [.ref a] [.ref a] (fun v H' => v = .bl true ∧ ∀ φ, H sysModules = some (.ext φ) → H' sysModules = some (.ext φ)) (fun _ _ _ => False) hr e0 (hbd s (.ref a)) (.cons rfl .nil) ⟨a, ns, rfl, hl, hz, top, fun H' q => ⟨rfl, q⟩⟩) fun r s' h => ?_
  match r, h with
  | .error e, h => exact (no H e s' h).elim
  | .ok .next, h => exact h.elim
  | .ok .brk, h => exact h.elim
  | .ok .cont, h => exact h.elim
  | .ok (.ret u), ⟨v, H', os, bare, ch, hok', rv', q1, q2⟩ =>
    subst q1
    obtain rfl : u = Value.bool true := rv'
    have kept : ∀ b o, b ∉ tbP cs → s.heap.get? b = some o → s'.heap.get? b = some o := fun b o nb g => by
      cases e : H b with
      | none => exact ch.keep b o g e (fun y => nomatch y) (fun y => nomatch y)
      | some z =>
        rcases Hc _ _ e with ⟨rfl, rfl⟩ | ⟨y, _⟩ | ⟨rfl, _, rfl⟩
        · obtain ⟨y, _⟩ := hok' _ _ (q2 _ e)
          rw [hom] at g; cases g; exact y
        · exact absurd y nb
        · rw [ha] at g; cases g
          exact (hok' _ _ (ch.frzs _ _ _ e)).1
    have grew : ∀ b ∈ tbP cs, ∃ more : Array Value, s'.heap.get? b = some { cls := .none, data := .fields more } := fun b hb => by
      obtain ⟨more, z⟩ := ch.tbls b #[] (Ht b hb)
      exact ⟨_, hok' b _ z⟩
    refine ⟨rfl, ⟨fun b o g => ?_, fun b o g => ?_⟩, os, bare⟩
    · by_cases hb : b ∈ tbP cs
      · obtain ⟨more, hm⟩ := grew b hb
        obtain ⟨p, hp, rfl⟩ := List.mem_map.mp hb
        have tp := hT p hp
        rw [tp] at g; cases g
        exact .inr (.inl ⟨((hC p hp).tab tp).isCodeTable, rfl, #[], more, rfl, by rw [Array.empty_append]; exact hm⟩)
      · exact .inl (kept b o hb g)
    · by_cases hb : b ∈ tbP cs
      · obtain ⟨more, hm⟩ := grew b hb
        exact ⟨_, hm⟩
      · exact ⟨o, kept b o hb g⟩
/-- what is known of the law at the top's heap -/
structure TopOk (K : PySem.W.Frag) (mg : Str → Option Value) (cs : List Tb) (h : Heap) : Prop where
  sysk : K.lookup sysModules = none
  at_ : ∀ p ∈ cs, h.get? p.2.1 = some { cls := .none, data := .fields #[] }
  look : ∀ p ∈ cs, K.lookup p.2.1 = none
  code : ∀ p ∈ cs, PySem.W.CodeHd h p.1 p.2.1
  nodup : (tbP cs).Nodup
  tin : ∀ p ∈ cs, PySem.W.tabIn K p.2.2 = some (p.1, p.2.1)
theorem TopOk.none {h : Heap} (hk : K.lookup sysModules = none) : TopOk K mg [] h := ⟨hk, fun _ z => (nomatch z), fun _ z => (nomatch z), fun _ z => (nomatch z), List.nodup_nil, fun _ z => (nomatch z)⟩
end
theorem walk_t {l : PySem.W.OpenLaw} {k : Nat} {q : Program} {loose : List Str} {XP : (Str → Option Value) → Heap → Prop} {YP : World → Heap → Prop} {d : DefRec} {K : Params → PySem.W.Frag} {x : Str} (hn : l.most = some 63) (hdf : d.params.defaults = []) (hr : RoomG k callerA) (hnone : importsNone q = true)
    (hY : ∀ (w : World) (h : Heap), YP w h → (K w.params).In h)
    (F : ∀ (w : World) (mg mb : Str → Option Value) (mean : ExcName → Option Value) (fa : Addr) (h : Heap), Top q (PySem.W.looseW q loose) mean mg mb h → (K w.params).In h → h.Ns mainGlobals mg → mg d.name = some (.ref fa) →
      ∃ (cs : List Tb) (fd : FuncData), TopOk (K w.params) mg cs h ∧ (∀ (s : Shared) (u : Value), BindsTo s fd ⟨[u], []⟩ [(x, u)]) ∧ ∀ base : Heap, (K w.params).In base → base.Ns mainGlobals mg → (∀ p ∈ cs, LamX.TabB base mg p.1 p.2.1) → FnG l.prog w (K w.params) mg base k fa fd [x] (spTop (K w.params) cs))
    (no : ∀ (w : World) (H : Hp) (s : Shared) (e : Value) (s' : Shared), L2.CX l.prog w [] H s (fun _ _ _ => False) e s' → False) : PySem.W.WalkO q loose XP YP l.row.toRowW d [] (fun f vs => PySem.call f vs) := by
  refine Att.attach_callB hn hdf fun w s0 s1 mg mb fa o pm cd doc a vs ns G Y ho hd hcd hmg hobj hints hlen hbits hg => ?_
  obtain ⟨cs, fd, tk, hbd, hF⟩ := F w mg mb _ fa _ G.T (hY w _ Y) G.T.g hmg
  obtain ⟨mm, hm, _⟩ := (G.T.seer hnone).mods
  exact head_t (hY w _ Y) G.T.g G.T.b G.T.builtins G.T.nolimit ⟨mm, hm⟩ G.T.bmain hg hobj hints hlen hbits hr tk.sysk tk.at_ tk.look tk.code tk.nodup tk.tin hF hbd (fun H e s' => no w H s1 e s')
/-- the law's def as the end wants it -/
theorem law_mkT {P : Program} {w : World} {K : PySem.W.Frag} {mg : Str → Option Value} {h : Heap} {k : Nat} {fa f : Addr} {x nm : Str} {st : Stmt} {N : List Str} {b : FS} {cs : List Tb} {oc : Value} {od an : Option Addr} {osl : Array (Option Value)} {kV doc pm cdv ct : Value} (X : K.In h) (G : h.Ns mainGlobals mg) (hfa : mg nm = some (.ref fa))
    (tk : TopOk K mg cs h) (a : PySem.W.nsIn K mainGlobals nm = some (some (.ref f))) (l : K.lookup f = some ⟨oc, od, .func (PySem.W.fnOf nm nm (defArgs st) (defBody st) (defScope st) .none kV doc pm an cdv ct), osl⟩) (c : PySem.W.codeIn K cdv nm = true) (kk : PySem.W.keepIn K (.ref f) = true)
    (hb : ∀ (kV doc pm : Value) (an : Option Addr) (cdv ct : Value) (us : List Value), us.length = 1 → bindArgs (PySem.W.fnOf nm nm (defArgs st) (defBody st) (defScope st) .none kV doc pm an cdv ct) ⟨us, []⟩ = pure ([x].zip us)) (S : FnScope N [x] (defScope st))
    (body : ∀ base : Heap, K.In base → base.Ns mainGlobals mg → (∀ p ∈ cs, LamX.TabB base mg p.1 p.2.1) → ∀ (f : Addr) (cdv : Value) (A : Around) (outer : List Env) (s : Shared) (H : Hp) (E : XK), RoomG k (A.deeper (envOfC nm (defScope st) s.heap.objs.size f cdv)) →
      PSs (cxOf (L2.CX P w) P w K mg base N nm (defScope st) f cdv A outer s H E) (defBody st) (tS (cxOf (L2.CX P w) P w K mg base N nm (defScope st) f cdv A outer s H E) (fun c d _ H => E c d H) b))
    (hF : ∀ ns : List Int, ns.length ≤ 63 → (∀ z ∈ ns, Builtin.Int.intBits z ≤ 1048576) → ∃ S', fnB 1 N.length b [.fls (ns.map .int)] (topS0 cs) = .ok (.bl true) S') :
    ∃ (cs : List Tb) (fd : FuncData), TopOk K mg cs h ∧ (∀ (s : Shared) (u : Value), BindsTo s fd ⟨[u], []⟩ [(x, u)]) ∧ ∀ base : Heap, K.In base → base.Ns mainGlobals mg → (∀ p ∈ cs, LamX.TabB base mg p.1 p.2.1) → FnG P w K mg base (k + 1) fa fd [x] (spTop K cs) := by
  have e := hfa.symm.trans (PySem.W.mg_of X G a)
  cases e
  have F := fun_mk (st := st) l c kk
  refine ⟨cs, _, tk, fun s u => .of_eq (hb kV doc pm an cdv ct [u] rfl), fun base Kb Gb Tb => ?_⟩
  exact (fn_ok F S (body base Kb Gb Tb fa)).weak (top_imp hF)
end Kw

/-! Kw23: sorted(range(n), key=lambda p: things[p]): the places of things in their order. -/
namespace Kw
open PySem PySem.Spec PySem.Calls PyProof.Rows L2
mutual
/-- no list and no dict in it -/
def noL : PyData → Bool
  | .list _ => false
  | .dict _ => false
  | .tuple xs => noLL xs
  | _ => true
def noLL : List PyData → Bool
  | [] => true
  | x :: xs => noL x && noLL xs
end
mutual
theorem noL_reads {h : Heap} : ∀ (d : PyData) (v : Value) (as : List Addr), Reads h v d as → noL d = true → as = []
  | _, _, _, .none, _ => rfl
  | _, _, _, .bool _, _ => rfl
  | _, _, _, .int _ _, _ => rfl
  | _, _, _, .str _ _, _ => rfl
  | _, _, _, .list _ _ _ _, n => by simp [noL] at n
  | _, _, _, .tuple (xs := xs) _ _ _ r, n => noLL_reads xs _ _ r (by simpa [noL] using n)
  | _, _, _, .dict _ _ _ _ _, n => by simp [noL] at n
theorem noLL_reads {h : Heap} : ∀ (ds : List PyData) (vs : List Value) (as : List Addr), ReadsAll h vs ds as → noLL ds = true → as = []
  | _, _, _, .nil, _ => rfl
  | _, _, _, .cons (d := d) (ds := ds) r t, n => by
    simp only [noLL, Bool.and_eq_true] at n
    rw [noL_reads d _ _ r n.1, noLL_reads ds _ _ t n.2]
    rfl
end
theorem noLL_mem : ∀ {ds : List PyData} {d : PyData}, noLL ds = true → d ∈ ds → noL d = true
  | x :: xs, d, h, m => by
    simp only [noLL, Bool.and_eq_true] at h
    rcases List.mem_cons.mp m with rfl | m
    · exact h.1
    · exact noLL_mem h.2 m
theorem readsAll_get {h : Heap} : ∀ {vs : List Value} {ds : List PyData} {as : List Addr}, ReadsAll h vs ds as → ∀ {i : Nat} {d : PyData}, ds[i]? = some d → ∃ v bs, vs[i]? = some v ∧ Reads h v d bs
  | _, _, _, .nil, i, d, e => by simp at e
  | _, _, _, .cons r t, 0, d, e => by
    simp at e; subst e
    exact ⟨_, _, rfl, r⟩
  | _, _, _, .cons r t, i + 1, d, e => by
    obtain ⟨v, bs, h1, h2⟩ := readsAll_get t (i := i) (by simpa using e)
    exact ⟨v, bs, by simpa using h1, h2⟩
/-! ### sorting by keys that may hold lists: these stay as they are -/
section
variable {prog : Program} {w : World} {A : Around} {E : Value → Shared → Prop} {s : Shared} {kz : List PyData}
/-- the key k is told, off lists that stood in h0 already and are not a -/
def KeyOld (h0 : Heap) (a : Addr) (k : PyData) (t : Shared) (v : Value) (t' : Shared) : Prop := ∃ g n as, t' = { t with heap := g, toks := n } ∧ (∀ c o, t.heap.get? c = some o → g.get? c = some o) ∧ Reads g v k as ∧ ∀ c ∈ as, c ≠ a ∧ h0.get? c ≠ none
theorem reads_old {h : Heap} : ∀ {v : Value} {d : PyData} {as : List Addr}, Reads h v d as → ∀ c ∈ as, h.get? c ≠ none := by
  intro v d as r
  refine Reads.rec (motive_1 := fun v d as _ => ∀ c ∈ as, h.get? c ≠ none) (motive_2 := fun vs ds as _ => ∀ c ∈ as, h.get? c ≠ none) ?_ ?_ ?_ ?_ ?_ ?_ ?_ ?_ ?_ r
  · exact fun c hc => nomatch hc
  · exact fun b c hc => nomatch hc
  · exact fun i t c hc => nomatch hc
  · exact fun x t c hc => nomatch hc
  · intro a o vs n xs as h1 h2 h3 h4 ih c hc
    rcases List.mem_cons.mp hc with rfl | hc
    · rw [h1]; exact fun z => nomatch z
    · exact ih c hc
  · intro a o vs n xs as h1 h2 h3 h4 ih c hc
    exact ih c hc
  · intro a o es n kvs as bs h1 h2 h3 h4 h5 i1 i2 c hc
    rcases List.mem_append.mp hc with hc | hc
    · rcases List.mem_cons.mp hc with rfl | hc
      · rw [h1]; exact fun z => nomatch z
      · exact i1 c hc
    · exact i2 c hc
  · exact fun c hc => nomatch hc
  · intro v vs d ds as bs h1 h2 i1 i2 c hc
    rcases List.mem_append.mp hc with hc | hc
    · exact i1 c hc
    · exact i2 c hc
theorem keyOld_rest {a kS : Addr} {b : Bool} {vs : List Value} {e0 : Nat} {P : PySem.Fin → Shared → Prop} {f : Value} {h0 : Heap} (kp : PySem.W.KeepsBut a h0 s.heap) (fr : h0.get? kS = none) (gS : s.heap.get? kS = some (seqObj "list" #[] 0)) (ga : s.heap.get? a = some (seqObj "list" #[] e0)) (ne : kS ≠ a)
    (ln : kz.length = vs.length) (sm : vs.length ≤ sizeLine) (al : PySem.W.AllAlike kz) (so : PySem.W.Sortable kz) (dp : ∀ d, d ∈ kz → A.units + d.depth < cLine)
    (ask : ∀ (i : Nat) (v : Value) (k : PyData), vs[i]? = some v → kz[i]? = some k → ∀ (g : Heap) (n : Nat), PySem.W.KeepsBut a h0 g → wpAny (model prog w) A (call f [v]) (KeyOld h0 a k { s with heap := g, toks := n }) (fun _ _ => False) { s with heap := g, toks := n })
    (fin : ∀ g n out c, PySem.W.KeepsBut a h0 g → g.get? a = some (seqObj "list" (List.toArray out) c) → PySem.W.KeyedOut b kz vs out → P (.done (.ret .none)) { s with heap := g, toks := n }) : wpAny (model prog w) A (PyProof.Rows.ksk_rest a f b vs.toArray e0 (.ref kS)) P E s := by
  unfold PyProof.Rows.ksk_rest
  refine wpAny_bind (wpAny_rule ?_)
  rw [List.forIn_toArray]
  refine wpAny_bind (PyProof.Rows.ksk_fold (fun i t => ∃ g n ks c, t = { s with heap := g, toks := n } ∧ PySem.W.KeepsBut a h0 g ∧ g.get? kS = some (seqObj "list" ks c) ∧ g.get? a = some (seqObj "list" #[] e0) ∧
    PySem.W.EachIs (fun v k => PySem.W.alike k k = true ∧ ∃ as, Reads g v k as ∧ ∀ c ∈ as, c ≠ a ∧ h0.get? c ≠ none) ks.toList (kz.take i)) vs 0 s ⟨s.heap, s.toks, #[], 0, rfl, kp, gS, ga, by rw [List.take_zero]; exact PySem.W.EachIs.nil⟩ ?each ?last)
  case each =>
    rintro j x t hx ⟨g, n, ks, c, rfl, kp1, gS1, ga1, hk⟩
    rw [Nat.zero_add] at hk ⊢
    have jl : j < vs.length := (List.getElem?_eq_some_iff.mp hx).1
    have hkj : kz[j]? = some (kz[j]'(by omega)) := List.getElem?_eq_getElem _
    generalize (kz[j]'(by omega)) = k at hkj
    have km := List.mem_of_getElem? hkj
    have kk := al k km k km
    have kl : ks.size ≤ vs.length := by
      have z := hk.length
      rw [Array.length_toList, List.length_take] at z
      omega
    refine wpAny_bind (wpAny_attempt (wpAny_mono (ask j x k hx hkj g n kp1) (fun v t hv => ?_) fun _ _ z => z.elim))
    obtain ⟨g2, n2, as, rfl, up, rd, old⟩ := hv
    dsimp only
    have gS2 := up _ _ gS1
    have ga2 := up _ _ ga1
    have same := Heap.SameBut.update g2 kS (Obj.mapSeq (·.push v))
    have gS3 := get?_update_seq gS2 (·.push v)
    refine wpAny_bind (listUpdate_at gS2 rfl ?_ (Nat.le_trans kl sm) (Nat.le_trans (Nat.le_of_eq (Array.size_push ..)) (Nat.succ_le_succ (Nat.le_trans kl sm))))
    have moved : ∀ (u : Value) (d : PyData), (PySem.W.alike d d = true ∧ ∃ as, Reads g2 u d as ∧ ∀ c ∈ as, c ≠ a ∧ h0.get? c ≠ none) → PySem.W.alike d d = true ∧ ∃ as, Reads (g2.update kS (Obj.mapSeq (·.push v))) u d as ∧ ∀ c ∈ as, c ≠ a ∧ h0.get? c ≠ none := by
      rintro u d ⟨q1, bs, q2, q3⟩
      exact ⟨q1, bs, PySem.W.Reads.keepBut (a := kS) (fun c o hc e => (same.2 c hc).trans e) (fun o e => by rw [gS2] at e; rw [← Option.some.inj e]) d u bs q1 q2 (fun z => (q3 _ z).2 fr), q3⟩
    have e1 : kz.take (j + 1) = kz.take j ++ [k] := by rw [List.take_add_one, hkj]; rfl
    have e2 : (ks.push v).toList = ks.toList ++ [v] := by simp
    refine wpAny_pure ⟨rfl, _, _, ks.push v, _, rfl, (kp1.trans_all up).same same (.inr fr), gS3, (same.2 a ne.symm).trans ga2, ?_⟩
    rw [e1, e2]
    exact PySem.W.each_snoc (R := fun (u : Value) (d : PyData) => PySem.W.alike d d = true ∧ ∃ as, Reads (g2.update kS (Obj.mapSeq (·.push v))) u d as ∧ ∀ c ∈ as, c ≠ a ∧ h0.get? c ≠ none) (moved v k ⟨kk, as, rd, old⟩) (hk.mono fun u d q => moved u d ⟨q.1, q.2.imp fun bs z => ⟨PyProof.Rows.Reads.keeps up z.1, z.2⟩⟩)
  case last =>
    rintro t ⟨g, n, ks, c, rfl, kp1, gS1, ga1, hk⟩
    have hk2 : PySem.W.EachIs (fun v k => ∃ as, Reads g v k as) ks.toList kz := by
      have z : kz.take (0 + vs.length) = kz := List.take_of_length_le (by omega)
      rw [z] at hk
      exact hk.mono fun v k q => q.2.imp fun as z => z.1
    have sz : ks.size = vs.length := by
      have z := hk2.length
      rw [Array.length_toList] at z
      omega
    refine wpAny_bind (listItems_at gS1 rfl ?_)
    exact PySem.W.keyH_end (κ := PySem.W.dataKind g kz) (h₁ := h0) kp1 fr gS1 ga1 ne (PySem.W.SortsAt.data (s := { s with heap := g, toks := n }) hk2 al so dp) sz sm fun g3 n3 c3 k3 z3 => fin g3 n3 _ c3 k3 z3 ⟨g, ks.toList, al, rfl, hk2⟩
theorem keyOld_tree {a : Addr} {b : Bool} {vs : List Value} {P : PySem.Fin → Shared → Prop} {f : Value} {n : Nat} (at_ : s.heap.get? a = some (seqObj "list" vs.toArray n)) (ln : kz.length = vs.length) (sm : vs.length ≤ sizeLine) (al : PySem.W.AllAlike kz) (so : PySem.W.Sortable kz) (dp : ∀ d, d ∈ kz → A.units + d.depth < cLine)
    (ask : ∀ (i : Nat) (v : Value) (k : PyData), vs[i]? = some v → kz[i]? = some k → ∀ (g : Heap) (n : Nat), PySem.W.KeepsBut a s.heap g → wpAny (model prog w) A (call f [v]) (KeyOld s.heap a k { s with heap := g, toks := n }) (fun _ _ => False) { s with heap := g, toks := n })
    (fin : ∀ g n out c, PySem.W.KeepsBut a s.heap g → g.get? a = some (seqObj "list" (List.toArray out) c) → PySem.W.KeyedOut b kz vs out → P (.done (.ret .none)) { s with heap := g, toks := n }) : wpAny (model prog w) A (PyProof.Rows.ksk_tree a f b) P E s := by
  have al1 : a < s.heap.objs.size := Heap.lt_size at_
  have em := get?_update_seq at_ fun _ => (#[] : Array Value)
  have sz : ((s.heap.update a (Obj.mapSeq fun _ => (#[] : Array Value))).push (seqObj "tuple" vs.toArray 0)).objs.size = s.heap.objs.size + 1 := by rw [size_push', Heap.size_update]
  unfold PyProof.Rows.ksk_tree
  refine wpAny_bind (listItems_at at_ rfl (wpAny_bind (listUpdate_at at_ rfl ?_ (by rw [List.size_toArray]; exact sm) (Nat.zero_le _))))
  refine wpAny_bind (seqEpoch_at em rfl (wpAny_bind (wpAny_newTuple (wpAny_bind (wpAny_newList (wpAny_holding ?_) (Nat.zero_le _))) (show vs.length ≤ _ from sm))))
  exact keyOld_rest (h0 := s.heap) (s := { s with heap := _ }) (kS := _) (fun c o hc q => PySem.W.sortingHeap_old hc q) (Heap.get?_none_of_le (by rw [sz]; exact Nat.le_succ _)) (Heap.get?_push_size _ rfl) (Heap.get?_push_of_some _ (Heap.get?_push_of_some _ em)) (by rw [sz]; exact Nat.ne_of_gt (Nat.lt_succ_of_lt al1)) ln sm al so dp ask fin
end
/-! ### sorted of a range -/
section
variable {prog : Program} {w : World} {A : Around} {E : Value → Shared → Prop} {s : Shared} {b : Bool} {kz : List PyData}
/-- a key, off lists that stood already -/
def KeyIn (h0 : Heap) (k : PyData) (t : Shared) (v : Value) (t' : Shared) : Prop := ∃ g n as, t' = { t with heap := g, toks := n } ∧ (∀ c o, t.heap.get? c = some o → g.get? c = some o) ∧ Reads g v k as ∧ ∀ c ∈ as, h0.get? c ≠ none
theorem sorted_rangeK {r : Addr} {n : Int} {t u v : Tok} {f : Value} {kw : List (Str × Value)} {Q : Value → Shared → Prop} (hh : A.handled = none) (hr : IsRange s.heap r 0 n 1 t u v) (hn0 : 0 ≤ n) (hn : n ≤ 16777216) (hlen : (kz.length : Int) = n) (hal : PySem.W.AllAlike kz) (hk : PySem.W.Sortable kz)
    (hu : ∀ d, d ∈ kz → A.units + 2 + d.depth < cLine) (ha1 : argsOk "sorted" ⟨[.ref r], kw⟩) (ha2 : ∀ x, argsOk "list.sort" ⟨[.ref x], kw⟩) (ht : ∀ x, Builtin.«list.sort» ⟨[.ref x], kw⟩ = ksk_tree x f b)
    (turn : ∀ (i : Nat) (tk0 : Tok) (k : PyData), kz[i]? = some k → ∀ (h : Heap) (tk : Nat), (∀ b o, s.heap.get? b = some o → h.get? b = some o) →
      wpAny (model prog w) A.in1.in1 (call f [.int (i : Int) tk0]) (KeyIn s.heap k { s with heap := h, toks := tk }) (fun _ _ => False) { s with heap := h, toks := tk })
    (h : ∀ (out : List Value) (c : Nat) (h' : Heap) (tk : Nat) (D : Addr), (∀ b o, s.heap.get? b = some o → h'.get? b = some o) → s.heap.get? D = none → h'.get? D = some (seqObj "list" (List.toArray out) c) → out.length = kz.length →
      Vals (((((List.range kz.length).map fun (i : Nat) => V.int (i : Int)).zip kz).mergeSort (PySem.W.dataLe b Prod.snd)).map Prod.fst) out → Q (.ref D) { s with heap := h', toks := tk }) :
    wpAny (model prog w) A (call (.builtin "sorted") [.ref r] kw) Q E s := by
  refine call_function_entry_kw kind_sorted plain_sorted entry_sorted ha1 ?_
  unfold Builtin.«sorted»
  refine wpAny_bind (m := checkCount "sorted" 1 1 _) (wpAny_pure ?_)
  refine wpAny_bind (L2.collect_range (n := n.toNat) hh hr (small_one (by omega) (by omega) (by omega) (by omega)) (by have := rangeSize_nat 0 n; simpa using this) (by omega) fun h1 tk1 acc hk1 hi => ?_)
  have hsz : acc.size = n.toNat := hi.1
  have hal1 : acc.toList.length = kz.length := by rw [Array.length_toList, hsz]; omega
  have hz : acc.toList.length ≤ sizeLine := by rw [hal1, sizeLine_eq]; omega
  refine wpAny_bind (wpAny_newList ?_ (by show acc.toList.length ≤ _; exact hz))
  have hD : (h1.push (seqObj "list" acc.toList.toArray 0)).get? h1.objs.size = some (seqObj "list" acc.toList.toArray 0) := Heap.get?_push_size _ rfl
  have fresh : s.heap.get? h1.objs.size = none := by
    cases e : s.heap.get? h1.objs.size with
    | none => rfl
    | some o => exact absurd (Heap.lt_size (hk1 _ _ e)) (Nat.lt_irrefl _)
  have up : ∀ {g : Heap}, PySem.W.KeepsBut h1.objs.size (h1.push (seqObj "list" acc.toList.toArray 0)) g → ∀ b o, s.heap.get? b = some o → g.get? b = some o := fun {g} kp b o q =>
    kp b o (Nat.ne_of_lt (Heap.lt_size (hk1 _ _ q))) (Heap.get?_push_of_some _ (hk1 _ _ q))
  have ez := zip_snd (xs := (List.range kz.length).map fun (i : Nat) => V.int (i : Int)) (ps := kz) (by simp)
  have rel : PySem.W.EachIs (fun u (b : V × PyData) => RelV b.1 u) acc.toList (((List.range kz.length).map fun (i : Nat) => V.int (i : Int)).zip kz) := by
    refine each_vals (vals_of_at (by simp [hal1]) fun j x u h1 h2 => ?_) (by simp)
    rw [List.getElem?_map] at h1
    cases e : (List.range kz.length)[j]? with
    | none => rw [e] at h1; cases h1
    | some y =>
      rw [e] at h1
      have hy : j = y := by
        have := List.getElem?_eq_some_iff.mp e
        obtain ⟨h3, h4⟩ := this
        simp at h4; exact h4
      subst hy
      have h1' : V.int (j : Int) = x := by simpa using h1
      subst h1'
      obtain ⟨t, ht⟩ := hi.2 j u (by rw [← Array.getElem?_toList]; exact h2)
      exact ⟨t, by rw [ht]; simp⟩
  refine wpAny_bind (wpAny_holding (wpAny_call_entry_kw slot_list_sort ⟨_, hD, rfl⟩ entry_list_sort ?body (ha2 _)))
  case body =>
    show wpAny (model prog w) A.in1.in1 (Builtin.«list.sort» ⟨[.ref h1.objs.size], kw⟩) _ _ _
    rw [ht]
    refine keyOld_tree (kz := kz) (vs := acc.toList) (n := 0) (s := { s with heap := h1.push (seqObj "list" acc.toList.toArray 0), toks := tk1 }) hD hal1.symm hz hal hk hu (fun i v k hv hkz hp tk kp => ?_) fun h' tk out c kp hD' ko => ?_
    · obtain ⟨t, rfl⟩ := hi.2 i v (by rw [← Array.getElem?_toList]; exact hv)
      have := turn i t k hkz hp tk (up kp)
      rw [Int.zero_add, Int.mul_one]
      refine wpAny_mono this (fun v t' z => ?_) (fun _ _ z => z)
      obtain ⟨g, n, as, z1, z2, z3, z4⟩ := z
      refine ⟨g, n, as, z1, z2, z3, fun c hc => ⟨fun e => z4 c hc (by rw [e]; exact fresh), fun e => ?_⟩⟩
      cases q : s.heap.get? c with
      | none => exact z4 c hc q
      | some o => rw [Heap.get?_push_of_some _ (hk1 _ _ q)] at e; cases e
    · refine ⟨_, rfl, wpAny_pure ⟨_, rfl, ?_⟩⟩
      refine h out c h' tk _ (up kp) fresh hD' (ko.length (by rw [hal1])  |>.trans hal1) ?_
      refine vals_each (PySem.W.keyedOut_each Prod.snd ?_ rel)
      rw [ez]; exact ko
end
/-! ### the lambda -/
abbrev oPar (ap : Pos) : Arguments := { posonlyargs := [], args := [{ arg := "place", annotation := none, pos := ap }], vararg := none, kwonlyargs := [], kw_defaults := [], kwarg := none, defaults := [] }
abbrev oBody (b1 b2 b3 : Pos) : Expr := .Subscript (.Name "things" b1) (.Name "place" b2) b3
abbrev oSc : Scope := { kind := .function, names := [("place", .local), ("things", .free)], isGenerator := false, isCoroutine := false, more := [] }
section
variable {prog : Program} {w : World} {A : Around} {s : Shared}
theorem order_turn {f c c' a : Addr} {q : Str} {pm ctv u : Value} {ap b1 b2 b3 : Pos} {its : Array Value} {i : Nat} {tk : Tok} {k : PyData} (hroom : A.depth < recursionLimit)
    (hf : s.heap.get? f = some (PySem.W.kla_obj "<lambda>" q (oPar ap) (oBody b1 b2 b3) oSc [("things", c)] pm c' ctv)) (hcd : s.heap.CodeRec (.ref c') q) (hcell : s.heap.IsCell c (some (.ref a))) (hl : s.heap.IsList a its ∨ IsTup s.heap a its) (hi : its[i]? = some u)
    (hfit : (i : Int) < 2 ^ 63) (hlim : s.heap.NoLimit) {as : List Addr} {h0 : Heap} (hr : Reads s.heap u k as) (hold : ∀ c ∈ as, h0.get? c ≠ none) : wpAny (model prog w) A (call (.ref f) [.int (i : Int) tk]) (KeyIn h0 k s) (fun _ _ => False) s := by
  refine wpAny_call (PySem.W.kla_callFunE hroom hf rfl rfl rfl rfl hcd ?_)
  have hb : bindArgs (PySem.W.kla_fn "<lambda>" q (oPar ap) (oBody b1 b2 b3) oSc [("things", c)] pm (.ref c') ctv) ⟨[.int (i : Int) tk], []⟩ = (pure [("place", Value.int (i : Int) tk)] : Sem (List (Str × Value))) := rfl
  rw [hb]
  refine wpAny_pure (wpAny_newFunctionEnv (fun y hy => ?_) (fun y hy => ?_) (fun h₁ hns hsb => ⟨hlim.fresh _ hsb, ?_⟩) rfl)
  · simp only [oSc, List.mem_cons, List.not_mem_nil, or_false] at hy
    rcases hy with rfl | rfl <;> simp
  · rw [List.mem_singleton.mp hy]
    rfl
  · have kp : ∀ b o, s.heap.get? b = some o → h₁.get? b = some o := fun b o e => hsb.extBut b o (Nat.ne_of_lt (Heap.lt_size e)) (Heap.get?_push_of_some _ e)
    show codeAny _ _ (.expr (oBody b1 b2 b3) _) _ _
    refine PySem.W.kla_codeExpr ?_
    obtain ⟨oc, hoc1, hoc2⟩ := hcell
    refine Subscript_ (wpAny_Name (wpAny_loadName_free (c := c) rfl rfl rfl ⟨oc, kp _ _ hoc1, hoc2⟩ (wpAny_Name (wpAny_loadName_local rfl rfl hns rfl ?_))))
    have fin : KeyIn h0 k s u { s with heap := h₁, toks := s.toks + 1 } := ⟨h₁, _, as, rfl, kp, PyProof.Rows.Reads.keeps kp hr, hold⟩
    rcases hl with ⟨ol, hol⟩ | ⟨ol, hol⟩
    · exact item_listR (l := a) (items := its) ⟨ol, kp _ _ hol.1, hol.2⟩ (by omega) hfit (by simpa using hi) fin
    · exact subscriptTail_builtinR (x := u) (IsTup.typeIs ⟨ol, kp _ _ hol.1, hol.2⟩) slot_tuple_getitem.lookup
        (getItem_tuple (j := i) (Q := fun r s' => r = u ∧ KeyIn h0 k s r s') ⟨ol, kp _ _ hol.1, hol.2⟩ (by omega) hfit (seqIndex_of (by omega) (by have := (Array.getElem?_eq_some_iff.mp hi).1; omega)) hi ⟨rfl, fin⟩) rfl
end
/-! ### a lambda is made -/
section
variable {X : Cx} {pins : List (Addr × Obj)} {σ : L2.St} {H : Hp} {s : Shared}
/-- what making a lambda does to what is known: its code object is found in the table, or is new there -/
def LamH (q : Str) (P : Addr) (ps : Array Value) (H H1 : Hp) (c' : Addr) : Prop :=
  (H1 = H ∧ H c' = some (LamX.CodeO c' q)) ∨
  ∃ more : Array Value, H c' = none ∧ c' ≠ P ∧ H1 = upd (upd H P (.tbl (ps ++ more))) c' (LamX.CodeO c' q) ∧ TriplesOk (ps ++ more).toList ∧ ∀ (pos : Pos) (cv : Value), codeAmong pos (ps ++ more).toList = some cv → codeAmong pos ps.toList = some cv ∨ cv = .ref c'
theorem lam_mk {c P : Addr} {q : Str} {ps : Array Value} {params : Arguments} {body : Expr} {scope : Scope} {pos : Pos} {E Q : Value → Shared → Prop} (I : Inv X pins σ H s) (TB : LamX.TabB X.base X.mg c P) (hcode : X.env.code = .ref c) (hq : X.env.qual ++ "<lambda>" = q)
    (hP : H P = some (.tbl ps)) (tri : TriplesOk ps.toList) (among : ∀ (p : Pos) (cv : Value), codeAmong p ps.toList = some cv → ∃ c, cv = .ref c ∧ H c = some (LamX.CodeO c q)) (hdef : defaultsOf params X.env = ([], [])) (hfree : ∀ y ∈ scope.names, y.2 = .free → ∃ c, X.env.cells.lookup y.1 = some c)
    (k : ∀ (f c' : Addr) (pm ctv : Value) (H1 : Hp) (s' : Shared), Inv X pins σ H1 s' → LamH q P ps H H1 c' → H1 f = none → f ∉ frs X.stack → s'.heap.get? f = some (PySem.W.kla_obj "<lambda>" q params body scope (cloFrom X.env.cells scope.names []) pm c' ctv) → (∃ ps1 : Array Value, H1 P = some (.tbl ps1) ∧ TriplesOk ps1.toList ∧ codeAmong pos ps1.toList = some (.ref c')) → Q (.ref f) s') :
    wpAny (model X.prog X.w) X.A (eval (.Lambda params body scope pos) X.env) Q E s := by
  subst hq
  have kb := TB.bm.keeps I.bk
  have kc := TB.code.keeps I.bk
  have kg := I.mod.glob.keeps I.bk
  have gP : s.heap.get? P = some { cls := .none, data := .fields ps } := I.hok P _ hP
  have out : ∀ f, s.heap.objs.size ≤ f → f ∉ frs X.stack := by
    intro f hf z
    rcases List.mem_cons.mp (I.stkSub _ z) with e | e
    · have := I.lt
      rw [← e] at this
      exact absurd (Nat.lt_of_lt_of_le this hf) (Nat.lt_irrefl _)
    · exact I.nofs hf e
  refine PySem.W.kla_eval hdef ?_
  rcases hc : codeAmong pos ps.toList with _ | cv
  · refine PySem.W.kla_makeFunction (c := c) (P := P) (ps := ps) (mg := X.mg) (closure_ok hfree) I.ok.glob kg hcode kc gP tri hc TB.gP kb ?_
    intro c' ctv h' tk hx hge hlt hrec htb
    obtain ⟨c2, oc, vs, t, e2, hoc, hd, hv⟩ := hrec
    cases e2
    have fr : H c' = none := I.hok.fresh hge
    have sz : s.heap.objs.size ≤ h'.objs.size := Nat.le_trans hge (Nat.le_of_lt hlt)
    have np : P ≠ c' := L2.ne_of_none hP fr
    have J := LamX.inv_table (t' := tk) (more := #[rawInt pos.line, rawInt pos.col, .ref c']) (h' := h'.push (PySem.W.kla_obj "<lambda>" (X.env.qual ++ "<lambda>") params body scope (cloFrom X.env.cells scope.names []) ((X.mg "__name__").getD .none) c' ctv)) I hP (fun b o hb e => Heap.get?_push_of_some _ (hx b o hb e)) (Heap.get?_push_of_some _ htb) hge ⟨oc, vs, t, Heap.get?_push_of_some _ hoc, hd, hv⟩
    have eT : (ps ++ #[rawInt pos.line, rawInt pos.col, .ref c']).toList = ps.toList ++ [rawInt pos.line, rawInt pos.col, .ref c'] := by simp
    refine k h'.objs.size c' _ ctv _ _ J (.inr ⟨_, fr, fun z => np z.symm, rfl, ?_, ?_⟩) ?_ (out _ sz) (Heap.get?_push_size _ rfl) ⟨_, by rw [upd_ne np, upd_same], by rw [eT]; exact PySem.TriplesOk_snoc _ _ _ _ tri, by rw [eT]; exact PySem.codeAmong_snoc _ tri hc⟩
    · have e : (ps ++ #[rawInt pos.line, rawInt pos.col, .ref c']).toList = ps.toList ++ [rawInt pos.line, rawInt pos.col, .ref c'] := by simp
      rw [e]; exact PySem.TriplesOk_snoc _ _ _ _ tri
    · intro p' cv hcv
      have e : (ps ++ #[rawInt pos.line, rawInt pos.col, .ref c']).toList = ps.toList ++ [rawInt pos.line, rawInt pos.col, .ref c'] := by simp
      rw [e] at hcv
      exact LamX.among_app _ tri hcv
    · have h1 : h'.objs.size ≠ c' := fun z => Nat.ne_of_gt hlt z
      have h2 : h'.objs.size ≠ P := fun z => Nat.ne_of_gt (Nat.lt_of_lt_of_le (Heap.lt_size gP) sz) z
      rw [upd_ne h1, upd_ne h2]
      exact I.hok.fresh sz
  · obtain ⟨c', e, hco⟩ := among pos cv hc
    subst e
    refine PySem.W.kla_makeFunctionHit (c := c) (P := P) (ps := ps) (mg := X.mg) (closure_ok hfree) I.ok.glob kg hcode kc gP tri hc kb ?_
    intro ctv h' tk hx hsz
    have J : Inv X pins σ H { s with heap := h'.push (PySem.W.kla_obj "<lambda>" (X.env.qual ++ "<lambda>") params body scope (cloFrom X.env.cells scope.names []) ((X.mg "__name__").getD .none) c' ctv), toks := tk } := I.kept fun b o e => Heap.get?_push_of_some _ (hx b o e)
    exact k _ c' _ ctv H _ J (.inl ⟨rfl, hco⟩) (I.hok.fresh hsz) (out _ hsz) (Heap.get?_push_size _ rfl) ⟨ps, hP, tri, hc⟩
end
section
variable {K : PySem.W.Frag} {mg : Str → Option Value} {w : Wd} {S : Store} {H H1 : Hp} {j : Nat} {x : Str} {P c c' : Addr} {ps : Array Value}
/-- the store is as it was -/
theorem lam_sto (s : Sto K mg w S H) (hj : S[j]? = some (.tab x)) (hP : w.φ[j]? = some (some P)) (e : H P = some (.tbl ps)) (k : LamH (tabQ x) P ps H H1 c') : Ext w H w H1 ∧ Sto K mg w S H1 := by
  rcases k with ⟨rfl, _⟩ | ⟨more, nc, np, rfl, tri, am⟩
  · exact ⟨Ext.refl, s⟩
  · have hPm : some P ∈ w.φ := List.mem_of_getElem? hP
    have ext : Ext w H w (upd (upd H P (.tbl (ps ++ more))) c' (LamX.CodeO c' (tabQ x))) := ⟨fun a o h n => by
      rw [upd_ne (L2.ne_of_none h nc), upd_ne (fun z : a = P => n (by rw [z]; exact hPm))]; exact h, Nat.le_refl _, fun _ _ h _ => h, fun _ h => .inl h, rfl⟩
    have ofc : w.Off c' := s.new nc
    have atc : upd (upd H P (.tbl (ps ++ more))) c' (LamX.CodeO c' (tabQ x)) c' = some (LamX.CodeO c' (tabQ x)) := upd_same
    refine ⟨ext, s.len, s.nd, fun a ha => ⟨upd_some (upd_some (s.ap a ha).1), (s.ap a ha).2⟩, fun n cc hc => ?_⟩
    by_cases hn : n = j
    · subst hn
      rw [hj] at hc; cases hc
      obtain ⟨c0, P0, t0, t1, t2⟩ := s.cell n _ hj
      rw [hP] at t1; cases t1
      refine ⟨c0, P, t0, hP, ps ++ more, by rw [upd_ne (fun z => np z.symm), upd_same], tri, fun pos cv hcv => ?_⟩
      rcases am pos cv hcv with z | z
      · obtain ⟨ps', e1, e2, e3⟩ := t2
        rw [e] at e1; cases e1
        obtain ⟨d, d1, d2, d3⟩ := e3 pos cv z
        exact ⟨d, d1, ext.fr _ _ d2 d3.1, d3⟩
      · exact ⟨c', z, atc, ofc⟩
    · refine CellR.ext ext (fun a ha => ⟨ha, ?_⟩) id (s.cell n cc hc)
      have h1 : a ≠ c' := fun z => ofc.1 (z ▸ List.mem_of_getElem? ha)
      have h2 : a ≠ P := fun z => hn (s.nd n j a ha (z ▸ hP))
      rw [upd_ne h1, upd_ne h2]
end
/-! ### the places in their order -/
open Classical in
noncomputable def gOrder (j : Nat) (x : Str) (n d : D) (S : Store) : RE D := match n with
  | .int m => (match seqA S d with
    | some ys => (match pySL S ys with
      | some ps => if m = (ys.length : Int) ∧ m ≤ 16777216 ∧ S[j]? = some (.tab x) ∧ PySem.W.AllAlike ps ∧ PySem.W.Sortable ps ∧ PyData.depthAll ps ≤ 190 ∧ True then .ok (.lst (sortB ((List.range ps.length).map fun (i : Nat) => D.int (i : Int)) ps)) S else .no
      | none => .no)
    | none => .no)
  | _ => .no
noncomputable def fOrder (j : Nat) (x : Str) (fe : FE) (i : Nat) : FE := fun ρ S => (fe ρ S).bnd fun n S1 => match ρ[i]? with
  | some (some d) => gOrder j x n d S1
  | _ => .no
/-- the def x's table and code -/
def TbF (K : PySem.W.Frag) (mg : Str → Option Value) (base : Heap) (x : Str) (cd : Value) : Prop := ∃ c P, PySem.W.tabIn K x = some (c, P) ∧ LamX.TabB base mg c P ∧ cd = .ref c
theorem q_order {X : Cx} {W : WX} {e : Expr} {fe : FE} {i j : Nat} {x : Str} {p p' pos pos' lp kp ap b1 b2 b3 : Pos} (hc : X.calm = true) (hu : X.A.units + 200 < cLine) (hdep : X.A.depth < recursionLimit) (hg : Gl X "sorted") (hm : X.mg "sorted" = none) (hg' : Gl X "range") (hm' : X.mg "range" = none) (he : PE X e (tF X W fe))
    (hN : X.N[i]? = some (Str.ofString "things")) (hcl : X.env.scope.names.lookup (Str.ofString "things") = some NameKind.cell) (hT : TbF X.K X.mg X.base x X.env.code) (hq : X.env.qual ++ "<lambda>" = tabQ x) (na' : starEach [e] X.env = (false, eval e X.env) :: starEach [] X.env := by rfl) 
    (na : starEach [.Call (.Name "range" p') [e] [] pos'] X.env = (false, eval (.Call (.Name "range" p') [e] [] pos') X.env) :: starEach [] X.env := by rfl) (hdef : defaultsOf (oPar ap) X.env = ([], []) := by rfl) :
    PE X (.Call (.Name "sorted" p) [.Call (.Name "range" p') [e] [] pos'] [⟨some "key", .Lambda (oPar ap) (oBody b1 b2 b3) oSc lp, kp⟩] pos) (tF X W (fOrder j x fe i)) := by
  refine ⟨fun pins s σ H Q I h => ?_⟩
  obtain ⟨w, ρ, S, s0, en, h⟩ := h
  obtain ⟨c, P, hti, TB, hcode⟩ := hT
  have hs : bootBuiltins (Str.ofString "sorted") = some (.builtin "sorted") := by decide +kernel
  refine wpAny_Call_Name_kw (ld_blt I hg hm hs ?_)
  have h1 : tF X W fe σ H (fun v H1 => ∃ w1 S1 n, Ext w H w1 H1 ∧ Sto X.K X.mg w1 S1 H1 ∧ Rp X.K X.mg w1 H1 n v ∧ End X.K X.mg (fun w H => Rp X.K X.mg w H) w1 H1 (match ρ[i]? with
      | some (some d) => gOrder j x n d S1
      | _ => .no) Q (fun c od H' => W c od σ H')) := ⟨w, ρ, S, s0, en, (End.bind (R := fun w H => Rp X.K X.mg w H) h).imp (fun v H1 ⟨w1, S1, n, e1, s1, r1, h1⟩ => ⟨w1, S1, n, e1, s1, r1, h1⟩) (fun _ _ _ z => z)⟩
  refine callWith_kw (args_cons (Call_ (ld_blt I hg' hm' boot_range (PyProof.Rows.callWith_type1 (one_arg he I h1 (fun v s2 y H2 I2 r q => ?_) na') na'))) na) (by rw [na]; rfl) (by rw [na]; rfl) (by rfl) (by rfl)
  obtain ⟨w1, S1, n, e1, s1, r1, h2⟩ := q
  split at h2
  case h_2 => exact h2.elim
  rename_i d hd
  unfold gOrder at h2
  split at h2
  case h_2 => exact h2.elim
  rename_i m
  split at h2
  case h_2 => exact h2.elim
  rename_i ys hys
  split at h2
  case h_2 => exact h2.elim
  rename_i ps hps
  split at h2
  case isFalse => exact h2.elim
  rename_i hk
  obtain ⟨hk1, hk2, hk3, hk4, hk5, hk6, hk7⟩ := hk
  have ey := rp_int r1
  subst ey
  obtain ⟨t, rfl⟩ := r
  refine call_range_1 ?_
  have nR : H2 s2.heap.objs.size = none := I2.hok.fresh (Nat.le_refl _)
  have I3 := I2.laid (t' := s2.toks + 1 + 1) (h' := s2.heap.push { cls := .type "range", data := .fields #[.int 0 s2.toks, .int m t, .int 1 (s2.toks + 1)] }) (a := s2.heap.objs.size) (o := .rng 0 m) (fun b u z => Heap.get?_push_of_some _ z) (Nat.le_refl _) ⟨_, _, _, Heap.get?_push_size _ rfl⟩
  have x3 : Ext w1 H2 w1 (upd H2 s2.heap.objs.size (.rng 0 m)) := Ext.new nR
  have s3 := s1.beside (o := .rng 0 m) nR
  obtain ⟨c0, P0, t0, hφ, tw⟩ := s3.cell j _ hk3
  rw [hti] at t0; cases t0
  obtain ⟨tps, tp1, tp2, tp3⟩ := tw
  refine args_nil ?_
  refine kws_cons ?_
  refine lam_mk (c := c) (P := P) I3 TB hcode hq tp1 tp2 (fun pos cv z => by
    obtain ⟨c1, z1, z2, _⟩ := tp3 pos cv z
    exact ⟨c1, z1, z2⟩) hdef (fun y hy hfr => ?_) ?_
  · have ey : y = (Str.ofString "things", NameKind.free) := by
      simp only [oSc, List.mem_cons, List.not_mem_nil, or_false] at hy
      rcases hy with rfl | rfl
      · cases hfr
      · rfl
    rw [ey]
    exact I3.ok.has _ (.inl hcl)
  intro f c' pm ctv H4 s4 I4 lm f0 ffr hf _
  obtain ⟨x4, s4'⟩ := lam_sto s3 hk3 hφ tp1 lm
  refine kws_nil ?_
  show wpAny _ _ (call (.builtin "sorted") [.ref _] [(Str.ofString "key", .ref f)]) _ _ _
  have nRoff : ¬ some s2.heap.objs.size ∈ w1.φ := (s1.new nR).1
  have hR4 : H4 s2.heap.objs.size = some (.rng 0 m) := x4.fr _ _ upd_same nRoff
  obtain ⟨rt, ru, rv, hrng⟩ := I4.hok _ _ hR4
  have hlen : ps.length = ys.length := (pySL_length hps).symm
  obtain ⟨v, hσ, rd⟩ := en.at_ i d hd
  have x04 : Ext w H w1 H4 := (e1.trans x3).trans x4
  have rd4 := Rp.ext x04 _ _ rd
  obtain ⟨a, xs, rfl, hsq, rl⟩ := seqA_at s4' rd4 hys
  have dp := pySL_at s4' ys xs ps rl hps
  have hrd : ∃ its : List Value, Vals xs its ∧ (s4.heap.IsList a its.toArray ∨ IsTup s4.heap a its.toArray) := by
    rcases hsq with z | z
    · obtain ⟨its, rvs, hl, hz⟩ := I4.list z
      exact ⟨its, rvs, .inl hl.isList⟩
    · obtain ⟨its, rvs, hl, hz⟩ := I4.tuple z
      exact ⟨its, rvs, .inr hl⟩
  obtain ⟨its, rvs, hl⟩ := hrd
  obtain ⟨as, ra⟩ := Dp.readsAll I4 ps xs its dp rvs
  obtain ⟨mm, hns, hlo⟩ := I4.loc
  obtain ⟨u, ru', hlk⟩ := hlo i _ _ hN hσ (.inr (.inl hcl))
  cases ru'
  have hcell : ∃ cc, X.env.cells.lookup (Str.ofString "things") = some cc ∧ s4.heap.IsCell cc (some (.ref a)) := by
    rcases hlk with ⟨k', _⟩ | ⟨_, cc, h1, h2⟩
    · have k2 : X.env.scope.names.lookup (Str.ofString "things") = some .local := k'
      rw [hcl] at k2; cases k2
    · exact ⟨cc, h1, h2⟩
  obtain ⟨cc, hcc, hic⟩ := hcell
  have hclo : cloFrom X.env.cells oSc.names [] = [(Str.ofString "things", cc)] := by
    show cloFrom X.env.cells [(Str.ofString "place", NameKind.local), (Str.ofString "things", NameKind.free)] [] = _
    unfold cloFrom
    rw [if_neg (by decide)]
    unfold cloFrom
    rw [if_pos (by decide)]
    unfold cloFrom
    rw [hcc]; rfl
  rw [hclo] at hf
  have hco : H4 c' = some (LamX.CodeO c' (tabQ x)) := by
    rcases lm with ⟨rfl, z⟩ | ⟨_, _, _, rfl, _, _⟩
    · exact z
    · exact upd_same
  obtain ⟨⟨oc, cvs, ct, k1, k2, k3⟩, _, _⟩ := I4.hok _ _ hco
  refine sorted_rangeK (kz := ps) (n := m) (f := .ref f) (b := false) (I4.ok.hd hc) hrng (by omega) hk2 (by omega) hk4 hk5 (fun q hq => ?_) (ksk_s1 _ _) (fun _ => ksk_l1 _ _) (fun _ => ksk_t1 _ _) (fun k tk0 q hkq g tk kp => ?_) fun out n' g tk Da kp nD gD hol hv => ?_
  · have := depth_mem hq
    omega
  · obtain ⟨uv, bs, hu1, hu2⟩ := readsAll_get ra hkq
    have hkl : k < ps.length := by
      rcases Nat.lt_or_ge k ps.length with l | l
      · exact l
      · rw [List.getElem?_eq_none l] at hkq; cases hkq
    obtain ⟨oc2, hc1, hc2⟩ := hic
    have hl' : g.IsList a its.toArray ∨ IsTup g a its.toArray := by
      rcases hl with ⟨ol, hl1, hl2⟩ | ⟨ol, hl1, hl2⟩
      · exact .inl ⟨ol, kp _ _ hl1, hl2⟩
      · exact .inr ⟨ol, kp _ _ hl1, hl2⟩
    exact order_turn (A := X.A.in1.in1) (s := { s4 with heap := g, toks := tk }) (c := cc) (c' := c') (a := a) (its := its.toArray) (u := uv) hdep (kp _ _ hf) ⟨c', oc, cvs, ct, rfl, kp _ _ k1, k2, k3⟩ ⟨oc2, kp _ _ hc1, hc2⟩ hl' (by simpa using hu1) (by omega) (I4.nolimit.keeps kp) (PyProof.Rows.Reads.keeps kp hu2) (reads_old hu2)
  · have nD4 : H4 Da = none := I4.hok.gone nD
    have hsz : (sortB ((List.range ps.length).map fun (i : Nat) => V.int (i : Int)) ps).length ≤ sizeLine := by
      rw [sortB_length (by simp), sizeLine_eq]; simp; omega
    refine ⟨.ref Da, upd H4 Da (.lst (sortB ((List.range ps.length).map fun (i : Nat) => V.int (i : Int)) ps)), I4.laidN (t' := tk) kp nD nD4 ⟨hsz, out, n', hv, gD⟩, rfl, ?_⟩
    have ri : RpL X.K X.mg w1 H4 ((List.range ps.length).map fun (i : Nat) => Kw.D.int (i : Int)) ((List.range ps.length).map fun (i : Nat) => V.int (i : Int)) := by
      have := RpL.ints (K := X.K) (mg := X.mg) (w := w1) (H := H4) ((List.range ps.length).map fun (i : Nat) => (i : Int))
      rw [List.map_map, List.map_map] at this
      exact this
    exact newLst s4' (ri.sort (by simp)) nD4 (End.on (x3.trans x4) h2)
/-! ### defs that make lambdas; a def by another name -/
section
variable {P : Program} {w : World} {K : PySem.W.Frag} {mg : Str → Option Value} {base : Heap}
/-- what the top knows of the def x's table -/
def TbK (K : PySem.W.Frag) (mg : Str → Option Value) (base : Heap) (x : Str) : Prop := ∃ c P, PySem.W.tabIn K x = some (c, P) ∧ LamX.TabB base mg c P
theorem fn_okL {x : Str} {st : Stmt} {f : Addr} {fd : FuncData} {N ps : List Str} {k : Nat} {b : FS} (F : Fun K x x st f fd) (S : FnScope N ps (defScope st)) (hm : mg x = some (.ref f)) (Kb : K.In base) (Gb : base.Ns mainGlobals mg) (B : TbK K mg base x)
    (hb : ∀ (cdv : Value) (A : Around) (outer : List Env) (s : Shared) (H : Hp) (E : XK), TbF K mg base x cdv → RoomG k (A.deeper (envOfC x (defScope st) s.heap.objs.size f cdv)) →
      PSs (cxOf (L2.CX P w) P w K mg base N x (defScope st) f cdv A outer s H E) (defBody st) (tS (cxOf (L2.CX P w) P w K mg base N x (defScope st) f cdv A outer s H E) (fun c d _ H => E c d H) b)) :
    FnG P w K mg base (k + 1) f fd ps (spF K mg ps.length (fnB ps.length N.length b)) := by
  obtain ⟨oc, od, kV, doc, pm, an, cdv, ct, osl, rfl, lk, hcd⟩ := F.ex
  obtain ⟨c, Pt, ht, tb⟩ := B
  have ec : cdv = .ref c := PySem.W.law_code Kb Gb ht hm (Kb _ _ lk) rfl
  have TB : TbF K mg base x cdv := ⟨c, Pt, ht, tb, ec⟩
  refine ⟨fun vs H Q E ⟨w, st, ds, s, r, l, h⟩ => by rw [← r.length]; exact l, fun A stk s H ar us vs Q E hr e0 hbd hv hsp => ?_⟩
  obtain ⟨w1, S1, ds, s1, r1, l, hE⟩ := hsp
  have size : vs.length = ps.length := by rw [← r1.length]; exact l
  have up : ∀ b o, base.get? b = some o → s.heap.get? b = some o := fun b o z => (e0.bs b o z).1
  have KX : K.In s.heap := e0.mod.kin.keeps up
  refine codeAny_call_function hr.rm.depth (KX _ _ lk) rfl S.co S.gen rfl (PySem.W.codeRec_of KX hcd) (hbd _ _ _ _ (wpAny_newFunctionEnv_cells S.kind (fun ⟨n, v⟩ hn => ?par) fun env he s2 xc => ?run))
  case par =>
    rcases S.par n (List.of_mem_zip hn).1 with q | q
    · exact .inl q
    · exact .inr ⟨q, PySem.W.cellsFrom_some _ _ _ (.inl q)⟩
  case run =>
    subst he
    have hp := hb cdv A stk s H E TB (hr.down _)
    have I0 := inv_start (CX := L2.CX P w) (E := E) S hr.rm.hd e0 size hv xc
    have hq : tS (cxOf (L2.CX P w) P w K mg base N x (defScope st) f cdv A stk s H E) (fun c d _ H => E c d H) b { nx := fun _ H' => Q .non H', rt := Q } (L2.start N vs) H := by
      refine ⟨w1, _, S1, s1, envStart (N := N) r1, ?_⟩
      unfold fnB at hE
      rw [if_pos l] at hE
      rw [l]
      revert hE
      cases hbb : b (ds.map some ++ List.replicate (N.length - ps.length) none) S1 with
      | nx ρ S2 => exact fun h w' H' σ' e s' en => h w' H' _ e s' rp_n
      | rt d S2 => exact fun h w' H' v e s' r' => h w' H' v e s' r'
      | ex x ρ S2 => exact fun h w' H' σ' c od e s' en ex => h w' H' c od e s' ex
      | bk ρ S2 => exact fun h => h.elim
      | ct ρ S2 => exact fun h => h.elim
      | no => exact fun h => h.elim
    refine ⟨(e0.mod.nolimit.keeps up).keeps xc.toInCall.keep, codeAny_func (wpAny_mono (hp.run [] s2 (L2.start N vs) H _ I0 hq) (fun fl s' hs => ?_) fun e s' hs => hs)⟩
    match fl, hs with
    | .ret u, ⟨v, σ', H', J, rv, q⟩ => exact ⟨v, H', J.os, J.bare, J.base, J.hok, rv, q⟩
    | .next, ⟨σ', H', J, q⟩ => exact ⟨.non, H', J.os, J.bare, J.base, J.hok, rfl, q⟩
    | .brk, ⟨_, _, _, q⟩ => exact q.elim
    | .cont, ⟨_, _, _, q⟩ => exact q.elim
theorem calLB {x : Str} {st : Stmt} {N ps : List Str} {k : Nat} {b : FS} (T : TF K mg x st ps) (S : FnScope N ps (defScope st)) (Kb : K.In base) (Gb : base.Ns mainGlobals mg) (B : TbK K mg base x)
    (hb : ∀ (f : Addr) (cdv : Value) (A : Around) (outer : List Env) (s : Shared) (H : Hp) (E : XK), TbF K mg base x cdv → RoomG k (A.deeper (envOfC x (defScope st) s.heap.objs.size f cdv)) →
      PSs (cxOf (L2.CX P w) P w K mg base N x (defScope st) f cdv A outer s H E) (defBody st) (tS (cxOf (L2.CX P w) P w K mg base N x (defScope st) f cdv A outer s H E) (fun c d _ H => E c d H) b)) (hps : ps = (defArgs st).args.map (·.arg) := by rfl) :
    Cal P w K mg base (k + 1) x (fnB ps.length N.length b) := by
  obtain ⟨f, fd, F, m, bd⟩ := T
  exact ⟨f, fd, ps, fn_okL F S m Kb Gb B (hb f), m, F.kp, bd, fnB_ar, hps.trans (fun_names F).symm, fun_look F⟩
theorem calLC {x : Str} {st : Stmt} {N ps : List Str} {k : Nat} {b : FS} (T : TF K mg x st ps) (S : FnScope N ps (defScope st)) (Kb : K.In base) (Gb : base.Ns mainGlobals mg) (B : TbK K mg base x)
    (hb : ∀ (f : Addr) (cdv : Value) (A : Around) (outer : List Env) (s : Shared) (H : Hp) (E : XK), TbF K mg base x cdv → RoomG k (A.deeper (envOfC x (defScope st) s.heap.objs.size f cdv)) →
      PSs (cxOf (L2.CX P w) P w K mg base N x (defScope st) f cdv A outer s H E) (defBody st) (tS (cxOf (L2.CX P w) P w K mg base N x (defScope st) f cdv A outer s H E) (fun c d _ H => E c d H) b)) (hps : ps = (defArgs st).args.map (·.arg) := by rfl) :
    Cal P w K mg base (k + 1) x (fnC ps.length N.length b) := by
  obtain ⟨f, fd, F, m, bd⟩ := T
  exact ⟨f, fd, ps, spF_cut (fn_okL F S m Kb Gb B (hb f)), m, F.kp, bd, fnC_ar, hps.trans (fun_names F).symm, fun_look F⟩
/-- the def nm stands at the module's top by the name x -/
def TFa (K : PySem.W.Frag) (mg : Str → Option Value) (x nm : Str) (st : Stmt) (ps : List Str) : Prop := ∃ f fd, Fun K nm nm st f fd ∧ mg x = some (.ref f) ∧ Binds K fd ps []
theorem tfa_mk {h : Heap} {x nm : Str} {st : Stmt} {ps : List Str} {f : Addr} {oc : Value} {od an : Option Addr} {osl : Array (Option Value)} {kV doc pm cdv ct : Value} (X : K.In h) (G : h.Ns mainGlobals mg) (a : PySem.W.nsIn K mainGlobals x = some (some (.ref f)))
    (l : K.lookup f = some ⟨oc, od, .func (PySem.W.fnOf nm nm (defArgs st) (defBody st) (defScope st) .none kV doc pm an cdv ct), osl⟩) (c : PySem.W.codeIn K cdv nm = true) (k : PySem.W.keepIn K (.ref f) = true)
    (hb : ∀ (kV doc pm : Value) (an : Option Addr) (cdv ct : Value) (us : List Value), us.length = ps.length → bindArgs (PySem.W.fnOf nm nm (defArgs st) (defBody st) (defScope st) .none kV doc pm an cdv ct) ⟨us, []⟩ = pure (ps.zip us)) : TFa K mg x nm st ps :=
  ⟨f, _, fun_mk l c k, PySem.W.mg_of X G a, (fun_mk l c k).binds hb⟩
theorem cala_zero {x nm : Str} {st : Stmt} {ps : List Str} (T : TFa K mg x nm st ps) (hps : ps = (defArgs st).args.map (·.arg) := by rfl) : Cal P w K mg base 0 x (fun _ _ => .no) := by
  obtain ⟨f, fd, F, m, b⟩ := T
  refine ⟨f, fd, ps, ⟨fun vs H Q E ⟨w, S, ds, s, r, l, h⟩ => ?_, fun A outer s H args us vs Q E _ _ _ _ ⟨w, S, ds, st, r, l, h⟩ => h.elim⟩, m, F.kp, b, fun _ _ _ => rfl, hps.trans (fun_names F).symm, fun_look F⟩
  rw [← r.length]; exact l
theorem calaB {x nm : Str} {st : Stmt} {N ps : List Str} {k : Nat} {b : FS} (T : TFa K mg x nm st ps) (S : FnScope N ps (defScope st))
    (hb : ∀ (f : Addr) (cdv : Value) (A : Around) (outer : List Env) (s : Shared) (H : Hp) (E : XK), RoomG k (A.deeper (envOfC nm (defScope st) s.heap.objs.size f cdv)) →
      PSs (cxOf (L2.CX P w) P w K mg base N nm (defScope st) f cdv A outer s H E) (defBody st) (tS (cxOf (L2.CX P w) P w K mg base N nm (defScope st) f cdv A outer s H E) (fun c d _ H => E c d H) b)) (hps : ps = (defArgs st).args.map (·.arg) := by rfl) :
    Cal P w K mg base (k + 1) x (fnB ps.length N.length b) := by
  obtain ⟨f, fd, F, m, bd⟩ := T
  exact ⟨f, fd, ps, fn_ok F S (hb f), m, F.kp, bd, fnB_ar, hps.trans (fun_names F).symm, fun_look F⟩
theorem calaC {x nm : Str} {st : Stmt} {N ps : List Str} {k : Nat} {b : FS} (T : TFa K mg x nm st ps) (S : FnScope N ps (defScope st))
    (hb : ∀ (f : Addr) (cdv : Value) (A : Around) (outer : List Env) (s : Shared) (H : Hp) (E : XK), RoomG k (A.deeper (envOfC nm (defScope st) s.heap.objs.size f cdv)) →
      PSs (cxOf (L2.CX P w) P w K mg base N nm (defScope st) f cdv A outer s H E) (defBody st) (tS (cxOf (L2.CX P w) P w K mg base N nm (defScope st) f cdv A outer s H E) (fun c d _ H => E c d H) b)) (hps : ps = (defArgs st).args.map (·.arg) := by rfl) :
    Cal P w K mg base (k + 1) x (fnC ps.length N.length b) := by
  obtain ⟨f, fd, F, m, bd⟩ := T
  exact ⟨f, fd, ps, spF_cut (fn_ok F S (hb f)), m, F.kp, bd, fnC_ar, hps.trans (fun_names F).symm, fun_look F⟩
/-- from the top's tables -/
theorem tbK_of {cs : List Tb} {c Pt : Addr} {x : Str} (h : ∀ p ∈ cs, LamX.TabB base mg p.1 p.2.1) (ht : PySem.W.tabIn K x = some (c, Pt)) (hm : (c, Pt, x) ∈ cs) : TbK K mg base x := ⟨c, Pt, ht, h _ hm⟩
/-- the law's def, which makes lambdas, as the end wants it -/
theorem law_mkL {h : Heap} {k : Nat} {fa f : Addr} {x nm : Str} {st : Stmt} {N : List Str} {b : FS} {cs : List Tb} {oc : Value} {od an : Option Addr} {osl : Array (Option Value)} {kV doc pm cdv ct : Value} (X : K.In h) (G : h.Ns mainGlobals mg) (hfa : mg nm = some (.ref fa))
    (tk : TopOk K mg cs h) (tn : ∃ c Pt, PySem.W.tabIn K nm = some (c, Pt) ∧ (c, Pt, nm) ∈ cs) (a : PySem.W.nsIn K mainGlobals nm = some (some (.ref f))) (l : K.lookup f = some ⟨oc, od, .func (PySem.W.fnOf nm nm (defArgs st) (defBody st) (defScope st) .none kV doc pm an cdv ct), osl⟩) (c : PySem.W.codeIn K cdv nm = true) (kk : PySem.W.keepIn K (.ref f) = true)
    (hb : ∀ (kV doc pm : Value) (an : Option Addr) (cdv ct : Value) (us : List Value), us.length = 1 → bindArgs (PySem.W.fnOf nm nm (defArgs st) (defBody st) (defScope st) .none kV doc pm an cdv ct) ⟨us, []⟩ = pure ([x].zip us)) (S : FnScope N [x] (defScope st))
    (body : ∀ base : Heap, K.In base → base.Ns mainGlobals mg → (∀ p ∈ cs, LamX.TabB base mg p.1 p.2.1) → ∀ (f : Addr) (cdv : Value) (A : Around) (outer : List Env) (s : Shared) (H : Hp) (E : XK), TbF K mg base nm cdv → RoomG k (A.deeper (envOfC nm (defScope st) s.heap.objs.size f cdv)) →
      PSs (cxOf (L2.CX P w) P w K mg base N nm (defScope st) f cdv A outer s H E) (defBody st) (tS (cxOf (L2.CX P w) P w K mg base N nm (defScope st) f cdv A outer s H E) (fun c d _ H => E c d H) b))
    (hF : ∀ ns : List Int, ns.length ≤ 63 → (∀ z ∈ ns, Builtin.Int.intBits z ≤ 1048576) → ∃ S', fnB 1 N.length b [.fls (ns.map .int)] (topS0 cs) = .ok (.bl true) S') :
    ∃ (cs : List Tb) (fd : FuncData), TopOk K mg cs h ∧ (∀ (s : Shared) (u : Value), BindsTo s fd ⟨[u], []⟩ [(x, u)]) ∧ ∀ base : Heap, K.In base → base.Ns mainGlobals mg → (∀ p ∈ cs, LamX.TabB base mg p.1 p.2.1) → FnG P w K mg base (k + 1) fa fd [x] (spTop K cs) := by
  have e := hfa.symm.trans (PySem.W.mg_of X G a)
  cases e
  have F := fun_mk (st := st) l c kk
  refine ⟨cs, _, tk, fun s u => .of_eq (hb kV doc pm an cdv ct [u] rfl), fun base Kb Gb Tb => ?_⟩
  obtain ⟨c1, P1, t1, t2⟩ := tn
  exact (fn_okL F S hfa Kb Gb (tbK_of Tb t1 t2) (body base Kb Gb Tb fa)).weak (top_imp hF)
end
/-- the def x makes lambdas, and its table is not written in the program's heap -/
def tabOk (K : PySem.W.Frag) (x : Str) : Bool := match PySem.W.tabIn K x with
  | some (_, P) => (match K.lookup P with
    | none => true
    | some _ => false)
  | none => false
theorem tabOk_at {K : PySem.W.Frag} {x : Str} (h : tabOk K x = true) : ∃ c P, PySem.W.tabIn K x = some (c, P) ∧ K.lookup P = none := by
  unfold tabOk at h
  split at h
  · rename_i c P e
    refine ⟨c, P, e, ?_⟩
    split at h
    · assumption
    · cases h
  · cases h
def tabsDis (K : PySem.W.Frag) (xs : List Str) : Bool := decide ((xs.filterMap fun x => (PySem.W.tabIn K x).map fun p => p.2).Nodup)
theorem tabsDis_at {K : PySem.W.Frag} {xs : List Str} {ps : List Addr} (h : tabsDis K xs = true) (e : (xs.filterMap fun x => (PySem.W.tabIn K x).map fun p => p.2) = ps) : ps.Nodup := by
  subst e
  unfold tabsDis at h
  simpa using h
end Kw

/-! Kw24: targets over a list; less and greater of data. -/
namespace Kw
open PySem PySem.Spec PySem.Calls PyProof.Rows L2
/-- a, b = a list -/
def gUl (n : Nat) (gs : FGs) : FG := fun d ρ S => match d with
  | .lst ds => if ds.length = n then gs ds ρ S else none
  | _ => none
section
variable {X : Cx} {es : List Expr} {pos : Pos}
theorem q_gul {k n : Nat} {gs : FGs} {sl : List Nat} (hc : X.calm = true) (h : PGs X es (tGs X sl gs)) (hn : (assignEach es X.env).length = n := by rfl) (hst : (assignEach es X.env).findIdx? (·.1) = none := by rfl) : PG X (.Tuple es k pos) (tG X sl (gUl n gs)) :=
  PG.wk (pg_unl hc h hn hst) fun v σ H Q ⟨w, ρ, S, d, s, en, r, h⟩ => by
    unfold gUl at h
    split at h
    · rename_i ds
      split at h
      · rename_i hl
        obtain ⟨a, xs, e1, t1, q1⟩ := seqL_at (S := S) (d := .lst ds) s r rfl
        exact ⟨a, xs, e1, t1, by rw [← q1.length]; exact hl, w, ρ, S, ds, s, en, q1, h⟩
      · exact h.elim
    · exact h.elim
end
@[simp] theorem gUl_ap {n : Nat} {gs : FGs} {ds : List D} {ρ : FEnv} {S : Store} : gUl n gs (.lst ds) ρ S = if ds.length = n then gs ds ρ S else none := rfl
/-! ### less and greater of data that are alike -/
def rLtD (K : PySem.W.Frag) (gt : Bool) : R2 := fun x y H Q => ∃ d e, Dp K H x d ∧ Dp K H y e ∧ PySem.W.alike d e = true ∧ d ≠ .none ∧ min d.depth e.depth ≤ 190 ∧ Q (.bl (if gt then PySem.W.dataLt e d else PySem.W.dataLt d e)) H
open Classical in
noncomputable def gLtD (gt : Bool) (x y : D) (S : Store) : RE D := match pyS S x, pyS S y with
  | some d, some e => if PySem.W.alike d e = true ∧ d ≠ .none ∧ min d.depth e.depth ≤ 190 then .ok (.bl (if gt then PySem.W.dataLt e d else PySem.W.dataLt d e)) S else .no
  | _, _ => .no
section
variable {X : Cx}
theorem op_ltD (hu : X.A.units + 200 < cLine) : OpR X (compareOp .Lt) (rLtD X.K false) := by
  intro pins s σ H x y v u Q I rx ry h
  obtain ⟨d, e, hd, he, hk, hn, hp, q⟩ := h
  obtain ⟨as, r1⟩ := Dp.reads I d x v hd rx
  obtain ⟨bs, r2⟩ := Dp.reads I e y u he ry
  exact PySem.W.lt_data r1 r2 hk hn (by omega) ⟨.bl _, H, I, rfl, q⟩
theorem op_gtD (hu : X.A.units + 200 < cLine) : OpR X (compareOp .Gt) (rLtD X.K true) := by
  intro pins s σ H x y v u Q I rx ry h
  obtain ⟨d, e, hd, he, hk, hn, hp, q⟩ := h
  obtain ⟨as, r1⟩ := Dp.reads I d x v hd rx
  obtain ⟨bs, r2⟩ := Dp.reads I e y u he ry
  exact PySem.W.gt_data r1 r2 hk hn (by omega) ⟨.bl _, H, I, rfl, q⟩
theorem ltD_v {K : PySem.W.Frag} {mg : Str → Option Value} {gt : Bool} : OpV K mg (rLtD K gt) (gLtD gt) := by
  intro w S H x y d e Q E s r1 r2 h
  unfold gLtD at h
  split at h
  · rename_i p q h1 h2
    split at h
    · rename_i hk
      exact ⟨p, q, pyS_at s d x p r1 h1, pyS_at s e y q r2 h2, hk.1, hk.2.1, hk.2.2, h.ret s rp_b⟩
    · exact h.elim
  · exact h.elim
end
/-- a constant of the module: a tuple of whole numbers -/
theorem gt_mk {K : PySem.W.Frag} {h : Heap} {mg : Str → Option Value} {x : Str} {ns : List Int} {a : Addr} {its : Array Value} {n : Nat} (X : K.In h) (G : h.Ns mainGlobals mg) (z : PySem.W.nsIn K mainGlobals x = some (some (.ref a))) (l : K.lookup a = some ⟨.type "tuple", none, .seq its n, #[]⟩) (s : its.size ≤ sizeLine) (e : Vals (ns.map V.int) its.toList) : GT K mg x ns :=
  ⟨a, _, its, n, PySem.W.mg_of X G z, l, rfl, rfl, s, e⟩
end Kw

/-! Kw25: x(lambda: body): a def that calls what it was handed. -/
namespace Kw
open PySem PySem.Spec PySem.Calls PyProof.Rows L2
theorem among_left {pos : Pos} {cv : Value} (r : List Value) (l : List Value) (h : TriplesOk l) (hc : codeAmong pos l = some cv) : codeAmong pos (l ++ r) = some cv := by
  fun_induction TriplesOk l with
  | case1 => simp [codeAmong] at hc
  | case2 a t b u x rest ih =>
    simp only [List.cons_append, codeAmong] at hc ⊢
    split at hc
    · rename_i q
      rw [if_pos q]; exact hc
    · rename_i q
      rw [if_neg q]; exact ih h hc
  | case3 l h1 h2 => exact h.elim
open Classical in
/-- asks what was handed: f, made in the environment σ, whose tree is the cell n -/
noncomputable def fAct (j : Nat) (x : Str) (n : Nat) (f : Addr) (σ : L2.St) (tb : FE) : FE := fun ρ S => match ρ[0]? with
  | some (some (Kw.D.exn f')) => if f' = f ∧ S[j]? = some (.tab x) then (match S[n]? with
    | some (.gst ρc σc) => if σc = σ then tb ρc S else .no
    | _ => .no) else .no
  | _ => .no
section
variable {X : Cx} {pins : List (Addr × Obj)} {σ : L2.St} {H : Hp} {s : Shared}
/-- the lambda is called -/
theorem act_pe {CXg : CXT} {Eg : XK} {Ng : List Str} {qg : Str} {sg : Scope} {g f c c' P : Addr} {cdg pm ctv : Value} {params : Arguments} {body : Expr} {scope : Scope} {k : Nat} {j n : Nat} {a x : Str} {pn : List (Addr × Obj)} {xe : Value → Shared → Prop} {W : WX} {tb : FE} {p1 p2 lpos : Pos} {ps0 : Array Value}
    (I : Inv X pins σ H s) (L : LamX.LamS X.env.scope scope) (hf : s.heap.get? f = some (PySem.W.kla_obj "<lambda>" (tabQ x) params body scope (cloFrom X.env.cells scope.names []) pm c' ctv)) (hq : X.env.qual ++ "<lambda>" = tabQ x) (hfn : H f = none) (hfr : f ∉ frs X.stack)
    (hbind : bindArgs (PySem.W.kla_fn "<lambda>" (tabQ x) params body scope (cloFrom X.env.cells scope.names []) pm (.ref c') ctv) ⟨[], []⟩ = pure [])
    (hti : PySem.W.tabIn X.K x = some (c, P)) (hP : H P = some (.tbl ps0)) (tri : TriplesOk ps0.toList) (ham : codeAmong lpos ps0.toList = some (.ref c'))
    (tk : Takes ((cxOf CXg X.prog X.w X.K X.mg X.base Ng qg sg g cdg X.A X.stack s H Eg).tr pn xe) W) (hr : RoomG (k + 1) (X.A.deeper (envOfC qg sg s.heap.objs.size g cdg)))
    (hbody : ∀ (A : Around) (outer : List Env) (s : Shared) (H : Hp) (E : XK), RoomG k (A.deeper (LamX.lamEnv X scope s.heap.objs.size f c')) → PE (LamX.lamCx X A outer s H E scope f c') body (tF (LamX.lamCx X A outer s H E scope f c') (fun c d _ H => E c d H) tb))
    (hN : Ng[0]? = some a) (hv : Vis sg a) (hd : (a == ("__debug__" : Str)) = false := by decide) (hcd : (a == ("__classdict__" : Str)) = false := by decide) :
    PE ((cxOf CXg X.prog X.w X.K X.mg X.base Ng qg sg g cdg X.A X.stack s H Eg).tr pn xe) (.Call (.Name a p1) [] [] p2)
      (tF ((cxOf CXg X.prog X.w X.K X.mg X.base Ng qg sg g cdg X.A X.stack s H Eg).tr pn xe) W (fAct j x n f σ tb)) := by
  refine ⟨fun pinsZ sZ σZ HZ Q IZ h => ?_⟩
  obtain ⟨w, ρ, S, s0, en, hE⟩ := h
  unfold fAct at hE
  split at hE
  case h_2 => exact hE.elim
  rename_i f' hρ
  split at hE
  case isFalse => exact hE.elim
  rename_i hk
  obtain ⟨ef, hj⟩ := hk
  subst ef
  split at hE
  case h_2 => exact hE.elim
  rename_i ρc σc hn
  split at hE
  case isFalse => exact hE.elim
  rename_i es
  subst es
  obtain ⟨v0, hs, hv0⟩ := en.at_ 0 _ hρ
  unfold Rp at hv0
  subst hv0
  have enc := (s0.cell n _ hn).2
  refine wpAny_Call_Name_kw (thn ((pe_var (pos := p1) (i := 0) hN hv hd hcd).run pinsZ sZ σZ HZ (fun v H1 => v = .ref f' ∧ H1 = HZ) IZ ⟨.ref f', hs, rfl, rfl⟩) fun u s1 ⟨v, H1, I1, r1, q1⟩ => ?_)
  obtain ⟨ev, eH⟩ := q1
  subst ev
  rw [eH] at I1
  obtain rfl : u = Value.ref f' := r1
  have of1 := I1.base.keep f' _ hf hfn hfr (fun z => nomatch (show f' ∈ ([] : List Addr) from z))
  refine PySem.W.callWith_F0 ⟨_, _, _, _, of1⟩ ?_
  have un : Un (frs X.stack) [] H HZ s.heap s1.heap := I1.base
  have hco : HZ c' = some (LamX.CodeO c' (tabQ x)) := by
    obtain ⟨more, hm⟩ := un.tbls P ps0 hP
    obtain ⟨c0, P0, t0, t1, ps', e1, e2, e3⟩ := s0.cell j _ hj
    have t0' : PySem.W.tabIn X.K x = some (c0, P0) := t0
    rw [hti] at t0'; cases t0'
    rw [hm] at e1; cases e1
    obtain ⟨d, d1, d2, _⟩ := e3 lpos (.ref c') (by
      rw [Array.toList_append]; exact among_left _ _ tri ham)
    cases d1
    exact d2
  obtain ⟨⟨oc, vs, t, hoc, hdc, hvc⟩, _, _⟩ := I1.hok c' _ hco
  have rc : codeAny (model X.prog X.w) (X.A.deeper (envOfC qg sg s.heap.objs.size g cdg)) (.call (.ref f') ⟨[], []⟩) (CR (L2.CX X.prog X.w) (envOfC qg sg s.heap.objs.size g cdg :: X.stack) X.prog X.w HZ s1 Q (WE W σZ)) s1 := by
    refine PySem.W.kla_callFunE hr.rm.depth of1 rfl L.co L.gen rfl ⟨c', oc, vs, t, rfl, hoc, hdc, hvc⟩ ?_
    rw [hbind]
    refine wpAny_pure (wpAny_newFunctionEnv (fun y hy => (L.own y hy).2) (fun y hy => absurd hy (by simp)) (fun h₁ hns hsb => ⟨I1.nolimit.fresh _ hsb, ?_⟩) L.kind)
    rw [← hq]
    show codeAny _ _ (.expr body (LamX.lamEnv X scope s1.heap.objs.size f' c')) _ _
    have kp : ∀ b o, s1.heap.get? b = some o → h₁.get? b = some o := fun b o e => hsb.extBut b o (Nat.ne_of_lt (Heap.lt_size e)) (Heap.get?_push_of_some _ e)
    have J : Inv (LamX.lamCx X (X.A.deeper (envOfC qg sg s.heap.objs.size g cdg)) (envOfC qg sg s.heap.objs.size g cdg :: X.stack) s1 HZ (WE W σZ) scope f' c') [] σc HZ { s1 with heap := h₁, toks := s1.toks + ([] : List (Str × Value)).length } :=
      LamX.lam_start2 I L I1.env0 hr.rm.hd un hns kp
    refine PySem.W.kla_codeExpr (wpAny_mono ((hbody _ _ s1 HZ _ (hr.down _)).run [] _ _ HZ Q J ⟨w, ρc, S, s0, enc, hE⟩) (fun v s' hq => ?_) fun e s' hq => hq)
    obtain ⟨w', H', J', rv, q⟩ := hq
    exact ⟨w', H', J'.os, J'.bare, J'.base, J'.hok, rv, q⟩
  refine wpAny_call (codeAny_mono rc fun r s' hq => ?_)
  cases r with
  | error e => exact passAt tk σZ pinsZ HZ s1 e s' I1 hq
  | ok fl =>
    cases fl with
    | ret u => exact I1.after hq
    | next => exact False.elim hq
    | brk => exact False.elim hq
    | cont => exact False.elim hq
end
open Classical in
/-- a result that neither the address nor the slots matter to -/
noncomputable def aInd2 (R : Addr → L2.St → RE D) : RE D := if ∀ f σ, R f σ = R 0 [] then R 0 [] else .no
theorem aInd2_eq {R : Addr → L2.St → RE D} {r : RE D} (h : ∀ f σ, R f σ = r) : aInd2 R = r := by
  unfold aInd2
  rw [if_pos (fun f σ => by rw [h f σ, h 0 []]), h 0 []]
open Classical in
/-- x(lambda: body): bg is x's body, nG its names -/
noncomputable def fThunk (j : Nat) (xq : Str) (nG : Nat) (bg : FE → FS) (tb : FE) : FE := fun ρ S => if S[j]? = some (.tab xq) then
  aInd2 fun f σ => cutR S ((bg (fAct j xq S.length f σ tb) ([Kw.D.exn f].map some ++ List.replicate (nG - 1) none) (S ++ [.gst ρ σ])).fin) else .no
section
variable {K : PySem.W.Frag} {mg : Str → Option Value} {w : Wd} {S : Store} {H : Hp}
theorem ghost_ext : Ext w H ⟨w.φ ++ [none], w.hd⟩ H where
  fr := fun _ _ h _ => h
  ln := by show _ ≤ (w.φ ++ [none]).length; simp
  ph := fun n a h l => by
    have h' : (w.φ ++ [none])[n]? = some (some a) := h
    rw [List.getElem?_append_left l] at h'
    exact h'
  nw := fun a h => by
    rcases List.mem_append.mp (show some a ∈ w.φ ++ [none] from h) with z | z
    · exact .inl z
    · simp at z
  hd := rfl
theorem ghost_sto {ρ : FEnv} {σ : L2.St} (s : Sto K mg w S H) (en : EnvR K mg w H ρ σ) : Sto K mg ⟨w.φ ++ [none], w.hd⟩ (S ++ [.gst ρ σ]) H := by
  have at_ : ∀ (n : Nat) a, (w.φ ++ [none])[n]? = some (some a) → w.φ[n]? = some (some a) := fun n a h => by
    rcases Nat.lt_or_ge n w.φ.length with l | l
    · rwa [List.getElem?_append_left l] at h
    · rw [List.getElem?_append_right l] at h
      cases e : n - w.φ.length with
      | zero => rw [e] at h; simp at h
      | succ m => rw [e] at h; simp at h
  refine ⟨by show (w.φ ++ [none]).length = _; simp [s.len], fun m n a h1 h2 => s.nd m n a (at_ m a h1) (at_ n a h2), fun a ha => ⟨(s.ap a ha).1, fun z => ?_⟩, fun n c hc => ?_⟩
  · rcases List.mem_append.mp (show some a ∈ w.φ ++ [none] from z) with z | z
    · exact (s.ap a ha).2 z
    · simp at z
  · rcases Nat.lt_or_ge n S.length with l | l
    · rw [List.getElem?_append_left l] at hc
      have l' : n < w.φ.length := by rw [s.len]; exact l
      exact CellR.ext ghost_ext (fun a ha => ⟨by show (w.φ ++ [none])[n]? = _; rw [List.getElem?_append_left l']; exact ha, rfl⟩) (fun h => by show (w.φ ++ [none])[n]? = _; rw [List.getElem?_append_left l']; exact h) (s.cell n c hc)
    · rw [List.getElem?_append_right l] at hc
      cases e : n - S.length with
      | zero =>
        rw [e] at hc
        have hc' : Cell.gst ρ σ = c := by simpa using hc
        subst hc'
        have en' : n = w.φ.length := by rw [s.len]; omega
        refine ⟨?_, EnvR.ext ghost_ext en⟩
        show (w.φ ++ [none])[n]? = some none
        rw [List.getElem?_append_right (by omega), en', Nat.sub_self]; rfl
      | succ m => rw [e] at hc; simp at hc
end
section
variable {P : Program} {w : World} {K : PySem.W.Frag} {mg : Str → Option Value} {base : Heap}
/-- a def run from one state -/
theorem run_def {x : Str} {st : Stmt} {g : Addr} {fd : FuncData} {N ps : List Str} {k : Nat} {b : FS} (F : Fun K x x st g fd) (S : FnScope N ps (defScope st)) {A : Around} {stk : List Env} {s : Shared} {H : Hp} {ar : Args} {us : List Value} {vs : List V} {Q : VK} {E : XK} (hr : RoomG (k + 1) A) (e0 : Env0 P w K mg base A stk s H) (hbd : BindsTo s fd ar (ps.zip us)) (hv : Vals vs us)
    (hb : ∀ cdv : Value, RoomG k (A.deeper (envOfC x (defScope st) s.heap.objs.size g cdv)) → PSs (cxOf (L2.CX P w) P w K mg base N x (defScope st) g cdv A stk s H E) (defBody st) (tS (cxOf (L2.CX P w) P w K mg base N x (defScope st) g cdv A stk s H E) (fun c d _ H => E c d H) b))
    (hsp : spF K mg ps.length (fnB ps.length N.length b) vs H Q E) : codeAny (model P w) A (.call (.ref g) ar) (CR (L2.CX P w) stk P w H s Q E) s := by
  obtain ⟨oc, od, kV, doc, pm, an, cdv, ct, osl, rfl, lk, hcd⟩ := F.ex
  obtain ⟨w1, S1, ds, s1, r1, l, hE⟩ := hsp
  have size : vs.length = ps.length := by rw [← r1.length]; exact l
  have up : ∀ b o, base.get? b = some o → s.heap.get? b = some o := fun b o z => (e0.bs b o z).1
  have KX : K.In s.heap := e0.mod.kin.keeps up
  refine codeAny_call_function hr.rm.depth (KX _ _ lk) rfl S.co S.gen rfl (PySem.W.codeRec_of KX hcd) (hbd _ _ _ _ (wpAny_newFunctionEnv_cells S.kind (fun ⟨n, v⟩ hn => ?par) fun env he s2 xc => ?run))
  case par =>
    rcases S.par n (List.of_mem_zip hn).1 with q | q
    · exact .inl q
    · exact .inr ⟨q, PySem.W.cellsFrom_some _ _ _ (.inl q)⟩
  case run =>
    subst he
    have hp := hb cdv (hr.down _)
    have I0 := inv_start (CX := L2.CX P w) (E := E) S hr.rm.hd e0 size hv xc
    have hq : tS (cxOf (L2.CX P w) P w K mg base N x (defScope st) g cdv A stk s H E) (fun c d _ H => E c d H) b { nx := fun _ H' => Q .non H', rt := Q } (L2.start N vs) H := by
      refine ⟨w1, _, S1, s1, envStart (N := N) r1, ?_⟩
      unfold fnB at hE
      rw [if_pos l] at hE
      rw [l]
      revert hE
      cases hbb : b (ds.map some ++ List.replicate (N.length - ps.length) none) S1 with
      | nx ρ S2 => exact fun h w' H' σ' e s' en => h w' H' _ e s' rp_n
      | rt d S2 => exact fun h w' H' v e s' r' => h w' H' v e s' r'
      | ex x ρ S2 => exact fun h w' H' σ' c od e s' en ex => h w' H' c od e s' ex
      | bk ρ S2 => exact fun h => h.elim
      | ct ρ S2 => exact fun h => h.elim
      | no => exact fun h => h.elim
    refine ⟨(e0.mod.nolimit.keeps up).keeps xc.toInCall.keep, codeAny_func (wpAny_mono (hp.run [] s2 (L2.start N vs) H _ I0 hq) (fun fl s' hs => ?_) fun e s' hs => hs)⟩
    match fl, hs with
    | .ret u, ⟨v, σ', H', J, rv, q⟩ => exact ⟨v, H', J.os, J.bare, J.base, J.hok, rv, q⟩
    | .next, ⟨σ', H', J, q⟩ => exact ⟨.non, H', J.os, J.bare, J.base, J.hok, rfl, q⟩
    | .brk, ⟨_, _, _, q⟩ => exact q.elim
    | .cont, ⟨_, _, _, q⟩ => exact q.elim
end
section
variable {X : Cx} {W : WX}
theorem q_thunk {x a xq : Str} {st : Stmt} {Ng : List Str} {k j : Nat} {bg : FE → FS} {tb : FE} {params : Arguments} {body : Expr} {scope : Scope} {p lpos pos : Pos} (T : TF X.K X.mg x st [a]) (S : FnScope Ng [a] (defScope st)) (hN : Ng[0]? = some a) (hva : Vis (defScope st) a)
    (hG : ∀ (act : FE) (g : Addr) (cdv : Value) (A : Around) (outer : List Env) (s : Shared) (H : Hp) (E : XK), RoomG (k + 1) (A.deeper (envOfC x (defScope st) s.heap.objs.size g cdv)) →
      (∀ (pn : List (Addr × Obj)) (xe : Value → Shared → Prop) (W : WX) (p1 p2 : Pos), Takes ((cxOf (L2.CX X.prog X.w) X.prog X.w X.K X.mg X.base Ng x (defScope st) g cdv A outer s H E).tr pn xe) W →
        PE ((cxOf (L2.CX X.prog X.w) X.prog X.w X.K X.mg X.base Ng x (defScope st) g cdv A outer s H E).tr pn xe) (.Call (.Name a p1) [] [] p2) (tF ((cxOf (L2.CX X.prog X.w) X.prog X.w X.K X.mg X.base Ng x (defScope st) g cdv A outer s H E).tr pn xe) W act)) →
      PSs (cxOf (L2.CX X.prog X.w) X.prog X.w X.K X.mg X.base Ng x (defScope st) g cdv A outer s H E) (defBody st) (tS (cxOf (L2.CX X.prog X.w) X.prog X.w X.K X.mg X.base Ng x (defScope st) g cdv A outer s H E) (fun c d _ H => E c d H) (bg act)))
    (hr : RoomG (k + 2) X.A) (tk : Takes X W) (hg : Gl X x) (hT : TbF X.K X.mg X.base xq X.env.code) (hq : X.env.qual ++ "<lambda>" = tabQ xq) (L : LamX.LamS X.env.scope scope) (hdef : defaultsOf params X.env = ([], []))
    (hbind : ∀ (cl : List (Str × Addr)) (pm cv ctv : Value), bindArgs (PySem.W.kla_fn "<lambda>" (tabQ xq) params body scope cl pm cv ctv) ⟨[], []⟩ = pure [])
    (hbody : ∀ (A : Around) (outer : List Env) (s : Shared) (H : Hp) (E : XK) (f c' : Addr), RoomG k (LamX.lamCx X A outer s H E scope f c').A → Takes (LamX.lamCx X A outer s H E scope f c') (fun c d _ H => E c d H) → PE (LamX.lamCx X A outer s H E scope f c') body (tF (LamX.lamCx X A outer s H E scope f c') (fun c d _ H => E c d H) tb))
    (hdb : (x == ("__debug__" : Str)) = false := by decide) (hd : (a == ("__debug__" : Str)) = false := by decide) (hcd : (a == ("__classdict__" : Str)) = false := by decide) :
    PE X (.Call (.Name x p) [.Lambda params body scope lpos] [] pos) (tF X W (fThunk j xq Ng.length bg tb)) := by
  refine ⟨fun pins s σ H Q I h => ?_⟩
  obtain ⟨w, ρ, S0, s0, en, h⟩ := h
  obtain ⟨g, fd, F, hm, hb⟩ := T
  obtain ⟨c, P, hti, TB, hcode⟩ := hT
  unfold fThunk at h
  split at h
  case isFalse => exact h.elim
  rename_i hj
  unfold aInd2 at h
  split at h
  case isFalse => exact h.elim
  rename_i hind
  obtain ⟨c0, P0, t0, hφ, tw⟩ := s0.cell j _ hj
  rw [hti] at t0; cases t0
  obtain ⟨tps, tp1, tp2, tp3⟩ := tw
  refine wpAny_Call_Name_kw (ld_glob I hg hm ?_ hdb)
  refine PySem.W.callWith_K (h₀ := X.base) I.ok.mod.kin F.kp ?_ (by rfl) (by rfl)
  show wpAny _ _ (spliced ((false, eval (.Lambda params body scope lpos) X.env) :: backTo pos (starEach [] X.env))) _ _ s
  refine Calls.spliced_cons (lam_mk (c := c) (P := P) I TB hcode hq tp1 tp2 (fun pos cv z => by
    obtain ⟨c1, z1, z2, _⟩ := tp3 pos cv z
    exact ⟨c1, z1, z2⟩) hdef (L.has I.ok) fun f c' pm ctv H1 s' I1 lm hfn hfr hf ht => ?_)
  obtain ⟨x1, s1⟩ := lam_sto s0 hj hφ tp1 lm
  obtain ⟨ps1, hP1, tri1, ham⟩ := ht
  refine Calls.spliced_nil ⟨I1.kIn, ?_⟩
  have en1 : EnvR X.K X.mg w H1 ρ σ := EnvR.ext x1 en
  have hl : ([V.ref f] : List V).length = [a].length := rfl
  have rc : codeAny (model X.prog X.w) X.A (.call (.ref g) ⟨[.ref f], []⟩) (CR (L2.CX X.prog X.w) X.stack X.prog X.w H1 s' Q (WE W σ)) s' := by
    refine run_def (N := Ng) (ps := [a]) (us := [.ref f]) (vs := [.ref f]) (b := bg (fAct j xq S0.length f σ tb)) F S hr I1.env0 (binds0 (us := [.ref f]) hb I1.kIn rfl) (.cons rfl .nil) (fun cdv hr' => ?_) ?_
    · refine hG _ g cdv X.A X.stack s' H1 _ hr' fun pn xe W' p1 p2 tk' => ?_
      exact act_pe I1 L hf hq hfn hfr (hbind _ _ _ _) hti hP1 tri1 ham tk' hr' (fun A outer s H E hr2 => hbody A outer s H E f c' hr2 (takes_of rfl rfl rfl rfl)) hN hva hd hcd
    · refine ⟨⟨w.φ ++ [none], w.hd⟩, S0 ++ [.gst ρ σ], [.exn f], ghost_sto s1 en1, RpL.one (by unfold Rp; rfl), rfl, ?_⟩
      rw [← hind f σ] at h
      have h2 := End.cutE s1 (End.on x1 h)
      refine End.on ghost_ext ?_
      unfold fnB
      rw [if_pos (show ([Kw.D.exn f] : List Kw.D).length = [a].length from rfl)]
      exact h2
  refine wpAny_call (codeAny_mono rc fun r s2 hq => ?_)
  cases r with
  | error e => exact passAt tk σ pins H1 s' e s2 I1 hq
  | ok fl =>
    cases fl with
    | ret u => exact I1.after hq
    | next => exact False.elim hq
    | brk => exact False.elim hq
    | cont => exact False.elim hq
end
section
variable {P : Program} {w : World} {K : PySem.W.Frag} {mg : Str → Option Value} {base : Heap}
theorem cal_no {x : Str} {st : Stmt} {ps : List Str} {k : Nat} (T : TF K mg x st ps) (hps : ps = (defArgs st).args.map (·.arg) := by rfl) : Cal P w K mg base k x (fun _ _ => .no) := by
  obtain ⟨f, fd, F, m, b⟩ := T
  exact ⟨f, fd, ps, ⟨fun vs H Q E ⟨w, S, ds, s, r, l, h⟩ => by rw [← r.length]; exact l, fun A outer s H args us vs Q E _ _ _ _ ⟨w, S, ds, st, r, l, h⟩ => h.elim⟩, m, F.kp, b, fun _ _ _ => rfl, hps.trans (fun_names F).symm, fun_look F⟩
end
/-! ### without parameters -/
abbrev noPar : Arguments := { posonlyargs := [], args := [], vararg := none, kwonlyargs := [], kw_defaults := [], kwarg := none, defaults := [] }
theorem lam_bind0 {q : Str} {body : Expr} {scope : Scope} {cl : List (Str × Addr)} {pm cv ctv : Value} : bindArgs (PySem.W.kla_fn "<lambda>" q noPar body scope cl pm cv ctv) ⟨[], []⟩ = pure [] := rfl
theorem lam_def0 {env : Env} : defaultsOf noPar env = ([], []) := rfl
end Kw

/-! Kw26: own classes: C(..), e.f, self.f = e, o.m(..). -/
namespace Kw
open PySem PySem.Spec PySem.Calls PyProof.Rows L2
/-- the fields of an object of the class c may be read and stored -/
def FldC (K : PySem.W.Frag) (mg : Str → Option Value) (c f : Str) : Prop := ∃ C, mg c = some (.ref C) ∧ Cls K C ∧ NoAttr K C f
def obOf (S : Store) : D → Option (Str × List Str × List D)
  | .ins c fs ds => some (c, fs, ds)
  | .loc n => (match S[n]? with
    | some (.ob c fs ds) => some (c, fs, ds)
    | _ => none)
  | _ => none
def lookF (f : Str) : List Str → List D → Option D
  | g :: fs, d :: ds => if f = g then some d else lookF f fs ds
  | _, _ => none
def gFld (cs : List Str) (f : Str) (x : D) (S : Store) : RE D := match obOf S x with
  | some (c, fs, ds) => if c ∈ cs then (match lookF f fs ds with
    | some d => .ok d S
    | none => .no) else .no
  | none => .no
section
variable {K : PySem.W.Frag} {mg : Str → Option Value} {w : Wd} {H : Hp} {S : Store}
theorem obOf_at (s : Sto K mg w S H) {d : D} {v : V} {c : Str} {fs : List Str} {ds : List D} (r : Rp K mg w H d v) (h : obOf S d = some (c, fs, ds)) : ∃ a C dx vs, v = .ref a ∧ mg c = some (.ref C) ∧ H a = some (.ins C dx (fs.zip vs)) ∧ fs.length = vs.length ∧ RpL K mg w H ds vs := by
  cases d <;> simp only [obOf] at h <;> try (cases h; done)
  · cases h
    unfold Rp at r
    obtain ⟨a, C, dx, vs, e, m, t, _, l, q⟩ := r
    exact ⟨a, C, dx, vs, e, m, t, l, q⟩
  · rename_i n
    split at h
    · rename_i c' fs' ds' hz
      cases h
      obtain ⟨a, C, dx, vs, h1, h2, h3, h4, h5⟩ := s.cell n _ hz
      unfold Rp at r
      exact ⟨a, C, dx, vs, r.2 a h1, h2, h3, h4, h5⟩
    · cases h
theorem lookF_at {f : Str} : ∀ {fs : List Str} {ds : List D} {vs : List V} {d : D}, fs.length = vs.length → RpL K mg w H ds vs → lookF f fs ds = some d → ∃ v, (fs.zip vs).lookup f = some v ∧ Rp K mg w H d v
  | [], _, _, _, _, _, h => by simp [lookF] at h
  | g :: fs, [], _, _, _, _, h => by simp [lookF] at h
  | g :: fs, d :: ds, vs, e, l, r, h => by
    unfold RpL at r
    obtain ⟨v, us, e1, r1, r2⟩ := r
    subst e1
    simp only [lookF] at h
    rw [List.zip_cons_cons]
    by_cases hf : f = g
    · rw [if_pos hf] at h
      cases h
      have hb : (f == g) = true := beq_iff_eq.mpr hf
      exact ⟨v, by simp only [List.lookup, hb], r1⟩
    · rw [if_neg hf] at h
      have hb : (f == g) = false := beq_eq_false_iff_ne.mpr hf
      obtain ⟨u, h1, h2⟩ := lookF_at (by simpa using l) r2 h
      exact ⟨u, by simp only [List.lookup, hb]; exact h1, h2⟩
theorem lookup_none {f : Str} : ∀ {fs : List Str} {vs : List V}, f ∉ fs → (fs.zip vs).lookup f = none
  | [], _, _ => rfl
  | g :: fs, [], _ => rfl
  | g :: fs, v :: vs, h => by
    rw [List.zip_cons_cons]
    have hf : f ≠ g := fun z => h (by rw [z]; exact List.mem_cons_self)
    have hb : (f == g) = false := beq_eq_false_iff_ne.mpr hf
    simp only [List.lookup, hb]
    exact lookup_none fun z => h (List.mem_cons_of_mem _ z)
theorem putF_new {f : Str} {y : V} : ∀ {fs : List Str} {vs : List V}, fs.length = vs.length → f ∉ fs → putF f y (fs.zip vs) = (fs ++ [f]).zip (vs ++ [y])
  | [], [], _, _ => rfl
  | g :: fs, v :: vs, l, h => by
    have hf : ¬ g = f := fun z => h (by rw [z]; exact List.mem_cons_self)
    rw [List.zip_cons_cons, List.cons_append, List.cons_append, List.zip_cons_cons, putF, if_neg hf, putF_new (by simpa using l) fun z => h (List.mem_cons_of_mem _ z)]
/-- an object under way is written -/
theorem Sto.obSet {n : Nat} {l C dx : Addr} {c : Str} {fs : List Str} {ds : List D} {vs : List V} {o : HO} (s : Sto K mg w S H) (hw : w.φ[n]? = some (some l)) (hn : n < S.length) (hm : mg c = some (.ref C)) (ho : o = .ins C dx (fs.zip vs)) (hl : fs.length = vs.length) (r : RpL K mg w H ds vs) : Sto K mg w (S.set n (.ob c fs ds)) (upd H l o) := by
  have ex : Ext w H w (upd H l o) := Ext.write hw
  refine ⟨by rw [List.length_set]; exact s.len, s.nd, fun a ha => ⟨upd_some (s.ap a ha).1, (s.ap a ha).2⟩, fun m c' hc => ?_⟩
  by_cases e : m = n
  · subst e
    rw [List.getElem?_set_self hn] at hc
    cases hc
    exact ⟨l, C, dx, vs, hw, hm, by rw [upd_same, ho], hl, RpL.ext ex _ _ r⟩
  · rw [List.getElem?_set_ne (Ne.symm e)] at hc
    refine CellR.ext ex (fun a ha => ⟨ha, ?_⟩) id (s.cell m c' hc)
    exact upd_ne fun z => e (s.nd m n a ha (z ▸ hw))
/-- a new object -/
theorem Sto.obNew {p C dx : Addr} {c : Str} (s : Sto K mg w S H) (np : H p = none) (hm : mg c = some (.ref C)) : Sto K mg ⟨w.φ ++ [some p], w.hd⟩ (S ++ [.ob c [] []]) (upd H p (.ins C dx [])) := by
  have ex : Ext w H ⟨w.φ ++ [some p], w.hd⟩ (upd H p (.ins C dx [])) := Ext.cell np
  refine ⟨by show (w.φ ++ [some p]).length = _; rw [List.length_append, List.length_append, s.len]; rfl, fun m n a h1 h2 => ?_, fun a ha => ⟨upd_some (s.ap a ha).1, fun z => ?_⟩, fun n c hc => ?_⟩
  · have key : ∀ k, (w.φ ++ [some p])[k]? = some (some a) → (w.φ[k]? = some (some a) ∧ k < w.φ.length) ∨ (k = w.φ.length ∧ a = p) := fun k hk => by
      by_cases hl : k < w.φ.length
      · rw [List.getElem?_append_left hl] at hk; exact .inl ⟨hk, hl⟩
      · have hl' : w.φ.length ≤ k := Nat.le_of_not_lt hl
        rw [List.getElem?_append_right hl'] at hk
        have : k - w.φ.length = 0 := by
          cases e : k - w.φ.length with
          | zero => rfl
          | succ j => rw [e] at hk; simp at hk
        rw [this] at hk; simp at hk
        exact .inr ⟨by omega, hk.symm⟩
    rcases key m h1 with ⟨a1, b1⟩ | ⟨a1, b1⟩ <;> rcases key n h2 with ⟨a2, b2⟩ | ⟨a2, b2⟩
    · exact s.nd m n a a1 a2
    · subst b2; exact absurd (List.mem_of_getElem? a1) (s.new np).1
    · subst b1; exact absurd (List.mem_of_getElem? a2) (s.new np).1
    · omega
  · rcases List.mem_append.mp (show some a ∈ w.φ ++ [some p] from z) with h | h
    · exact (s.ap a ha).2 h
    · simp at h; subst h; exact (s.ap a ha).1 np
  · by_cases hl : n < S.length
    · rw [List.getElem?_append_left hl] at hc
      refine CellR.ext ex (fun a ha => ⟨by show (w.φ ++ [some p])[n]? = _; rw [List.getElem?_append_left (s.len ▸ hl)]; exact ha, ?_⟩) (fun hd => by show (w.φ ++ [some p])[n]? = _; rw [List.getElem?_append_left (s.len ▸ hl)]; exact hd) (s.cell n c hc)
      have : a ≠ p := fun z => by subst z; exact (s.new np).1 (List.mem_of_getElem? ha)
      rw [upd_ne this]
    · have hl' : S.length ≤ n := Nat.le_of_not_lt hl
      rw [List.getElem?_append_right hl'] at hc
      have e0 : n - S.length = 0 := by
        cases e : n - S.length with
        | zero => rfl
        | succ j => rw [e] at hc; simp at hc
      rw [e0] at hc; simp at hc; subst hc
      have en : n = w.φ.length := by rw [s.len]; omega
      subst en
      exact ⟨p, C, dx, [], by show (w.φ ++ [some p])[w.φ.length]? = _; rw [List.getElem?_append_right (Nat.le_refl _), Nat.sub_self]; rfl, hm, upd_same, rfl, RpL.nil⟩
/-- an object that is done is a value -/
theorem oz_at {n : Nat} {a : Addr} {c : Str} {fs : List Str} {ds : List D} {Q : VK} {E : Value → Option Addr → Hp → Prop} (s : Sto K mg w S H) (hz : S[n]? = some (.ob c fs ds)) (ha : w.φ[n]? = some (some a)) (h : End K mg (fun w H => Rp K mg w H) w H (.ok (.ins c fs ds) (S.set n .dead)) Q E) : Q (.ref a) H := by
  obtain ⟨a', C, dx, vs, h1, hm, h2, hl, h3⟩ := s.cell n _ hz
  rw [ha] at h1; cases h1
  have hn : n < w.φ.length := by
    rcases Nat.lt_or_ge n w.φ.length with z | z
    · exact z
    · rw [List.getElem?_eq_none z] at ha; cases ha
  have gs : (w.φ.set n none)[n]? = some none := by rw [List.getElem?_set_self hn]
  have gn : ∀ m : Nat, m ≠ n → (w.φ.set n none)[m]? = w.φ[m]? := fun m hm => List.getElem?_set_ne (Ne.symm hm)
  have sub : ∀ (m : Nat) b, (w.φ.set n none)[m]? = some (some b) → w.φ[m]? = some (some b) ∧ m ≠ n := fun m b q => by
    by_cases e : m = n
    · subst e; rw [gs] at q; cases q
    · rw [gn m e] at q; exact ⟨q, e⟩
  have mem : ∀ b, some b ∈ w.φ.set n none → some b ∈ w.φ := fun b q => by
    obtain ⟨m, hm⟩ := List.mem_iff_getElem?.mp q
    exact List.mem_of_getElem? (sub m b hm).1
  have out : some a ∉ w.φ.set n none := fun q => by
    obtain ⟨m, hm⟩ := List.mem_iff_getElem?.mp q
    obtain ⟨q1, q2⟩ := sub m a hm
    exact q2 (s.nd m n a q1 ha)
  have ex : Ext w H ⟨w.φ.set n none, w.hd⟩ H := ⟨fun _ _ h _ => h, by show _ ≤ (w.φ.set n none).length; rw [List.length_set]; exact Nat.le_refl _, fun m b q _ => (sub m b q).1, fun b q => .inl (mem b q), rfl⟩
  have s' : Sto K mg ⟨w.φ.set n none, w.hd⟩ (S.set n .dead) H := by
    refine ⟨by show (w.φ.set n none).length = _; rw [List.length_set, List.length_set]; exact s.len, fun m k b q1 q2 => s.nd m k b (sub m b q1).1 (sub k b q2).1, fun b hb => ⟨(s.ap b hb).1, fun z => (s.ap b hb).2 (mem b z)⟩, fun m c hc => ?_⟩
    by_cases e : m = n
    · subst e
      rw [List.getElem?_set_self (s.len ▸ hn)] at hc
      cases hc
      exact gs
    · rw [List.getElem?_set_ne (Ne.symm e)] at hc
      exact CellR.ext ex (fun b hb => ⟨by show (w.φ.set n none)[m]? = _; rw [gn m e]; exact hb, rfl⟩) (fun hb => by show (w.φ.set n none)[m]? = _; rw [gn m e]; exact hb) (s.cell m c hc)
  refine h ⟨w.φ.set n none, w.hd⟩ H (.ref a) ex s' ?_
  show Rp _ _ _ _ _ _
  unfold Rp
  exact ⟨a, C, dx, vs, rfl, hm, h2, ⟨out, fun z => (s.ap a z).2 (List.mem_of_getElem? ha)⟩, hl, RpL.ext ex _ _ h3⟩
end
/-- self.f = e -/
def sFl (cs : List Str) (f : Str) (fo fv : FE) : FS := fun ρ S => (fv ρ S).toS ρ fun y S1 => (fo ρ S1).toS ρ fun x S2 => match x with
  | .loc n => (match S2[n]? with
    | some (.ob c fs ds) => if c ∈ cs ∧ f ∉ fs ∧ fs.length < 999 then .nx ρ (S2.set n (.ob c (fs ++ [f]) (ds ++ [y]))) else .no
    | _ => .no)
  | _ => .no
/-- the class c's method m computes f -/
def CalM (P : Program) (w : World) (K : PySem.W.Frag) (mg : Str → Option Value) (base : Heap) (k : Nat) (c m : Str) (f : FF) : Prop :=
  ∃ C a fd ps, mg c = some (.ref C) ∧ Cls K C ∧ Meth K C m a ∧ FnG P w K mg base k a fd ps (spF K mg ps.length f) ∧ Binds K fd ps [] ∧ ∀ ds S, ds.length ≠ ps.length → f ds S = .no
/-- the class c can be made -/
def MkC (K : PySem.W.Frag) (mg : Str → Option Value) (c : Str) : Prop := ∃ C a, mg c = some (.ref C) ∧ Mk K C a
def DispOk (P : Program) (w : World) (K : PySem.W.Frag) (mg : Str → Option Value) (base : Heap) (k : Nat) (m : Str) (L : List (Str × FF)) : Prop := ∀ c F, L.lookup c = some F → CalM P w K mg base k c m F
theorem dm_nil {P : Program} {w : World} {K : PySem.W.Frag} {mg : Str → Option Value} {base : Heap} {k : Nat} {m : Str} : DispOk P w K mg base k m [] := fun c F h => by simp at h
theorem dm_cons {P : Program} {w : World} {K : PySem.W.Frag} {mg : Str → Option Value} {base : Heap} {k : Nat} {c m : Str} {F : FF} {L : List (Str × FF)} (h : CalM P w K mg base k c m F) (t : DispOk P w K mg base k m L) : DispOk P w K mg base k m ((c, F) :: L) := fun c' F' e => by
  rw [List.lookup_cons] at e
  by_cases q : c' = c
  · subst q
    simp at e
    subst e; exact h
  · have hb : (c' == c) = false := beq_eq_false_iff_ne.mpr q
    rw [hb] at e
    exact t c' F' e
/-- o.m(..) -/
def disR (L : List (Str × FF)) (m : Str) (x : D) : Option FF := match x with
  | .ins c fs _ => if m ∈ fs then none else L.lookup c
  | _ => none
def fMe (L : List (Str × FF)) (m : Str) (fo : FE) (fa : FA) : FE := fun ρ S => (fo ρ S).bnd fun x S1 => match disR L m x with
  | some F => (fa ρ S1).bnd fun as S2 => F (x :: as) S2
  | none => .no
/-- C(..) -/
noncomputable def mkR (c : Str) (F : FF) (ds : List D) (S1 : Store) : RE D := cutR S1 ((F (.loc S1.length :: ds) (S1 ++ [.ob c [] []])).bnd fun r S2 => match r with
  | .non => (match S2[S1.length]? with
    | some (.ob c' fs' ds') => .ok (.ins c' fs' ds') (S2.set S1.length .dead)
    | _ => .no)
  | _ => .no)
noncomputable def fMk (c : Str) (F : FF) (fs : FA) : FE := fun ρ S => (fs ρ S).bnd (mkR c F)
section
variable {X : Cx} {W : WX} {e o value : Expr} {es : List Expr} {f m x : Str} {fe fo fv : FE} {fs : FA} {cs : List Str} {pos pos' p apos : Pos} {k : Nat}
theorem q_fld (he : PE X e (tF X W fe)) (hc : ∀ c ∈ cs, FldC X.K X.mg c f) (hb : attributeBase e f X.env (eval e X.env) = eval e X.env := by rfl) : PE X (.Attribute e f pos) (tF X W (f1 (gFld cs f) fe)) :=
  PE.wk (pe_fld he hb) fun σ H Q ⟨w, ρ, S, s, en, h⟩ => by
    refine ⟨w, ρ, S, s, en, (End.bind (R := fun w H => Rp X.K X.mg w H) h).imp ?_ (fun _ _ _ z => z)⟩
    rintro v H1 ⟨w1, S1, d, e1, s1, r1, h1⟩
    unfold gFld at h1
    split at h1
    case h_2 => exact h1.elim
    rename_i c fs' ds' ho
    split at h1
    case isFalse => exact h1.elim
    rename_i hcc
    split at h1
    case h_2 => exact h1.elim
    rename_i d' hl
    obtain ⟨a, C, dx, vs, ev, hm, ha, l, q⟩ := obOf_at s1 r1 ho
    obtain ⟨C', hm', cl, na⟩ := hc c hcc
    rw [hm] at hm'; cases hm'
    obtain ⟨u, hu, ru⟩ := lookF_at l q hl
    exact ⟨a, C, dx, _, u, ev, ha, cl, na, hu, h1.ret s1 ru⟩
theorem q_sfl (ho : PE X o (tF X W fo)) (hv : PE X value (tF X W fv)) (hc : ∀ c ∈ cs, FldC X.K X.mg c f) (hs : swapsWith value (some (.Attribute o f pos')) pos.line X.env = pure false := by rfl) : PS X (.Assign [.Attribute o f pos'] value pos) (tS X W (sFl cs f fo fv)) :=
  PS.wk (ps_fld ho hv hs) fun D σ H ⟨w, ρ, S, s, en, h⟩ => by
    refine ⟨w, ρ, S, s, en, (h.of (R := fun w H => Rp X.K X.mg w H) en).imp ?_ (fun _ _ _ z => z)⟩
    rintro y H1 ⟨w1, S1, d1, e1, s1, r1, h1⟩
    refine ⟨w1, ρ, S1, s1, en.ext e1, (h1.of (R := fun w H => Rp X.K X.mg w H) (en.ext e1)).imp ?_ (fun _ _ _ z => z)⟩
    rintro v H2 ⟨w2, S2, d2, e2, s2, r2, h2⟩
    cases d2 <;> try exact h2.elim
    rename_i n
    simp only at h2
    split at h2
    case h_2 => exact h2.elim
    rename_i c fs' ds' hz
    split at h2
    case isFalse => exact h2.elim
    rename_i hk
    obtain ⟨a, C, dx, vs, w1', hm, ha, l, q⟩ := s2.cell n _ hz
    unfold Rp at r2
    have ev := r2.2 a w1'
    obtain ⟨C', hm', cl, na⟩ := hc c hk.1
    rw [hm] at hm'; cases hm'
    have hn : n < S2.length := by
      rcases Nat.lt_or_ge n S2.length with z | z
      · exact z
      · rw [List.getElem?_eq_none z] at hz; cases hz
    have rl : RpL X.K X.mg w2 H2 (ds' ++ [d1]) (vs ++ [y]) := RpL.append q (RpL.one (Rp.ext e2 _ _ r1))
    have st := Sto.obSet (n := n) (l := a) (C := C) (dx := dx) (c := c) (fs := fs' ++ [f]) (ds := ds' ++ [d1]) (vs := vs ++ [y]) (o := .ins C dx (putF f y (fs'.zip vs))) s2 w1' hn hm (by rw [putF_new l hk.2.1]) (by simp [l]) rl
    have lz : (fs'.zip vs).length < 1000 := by rw [List.length_zip]; have := hk.2.2; omega
    exact ⟨a, C, dx, fs'.zip vs, ev, ha, cl, na, lz, h2 w2 _ σ (Ext.write w1') st (((en.ext e1).ext e2).ext (Ext.write w1'))⟩
theorem q_me {L : List (Str × FF)} {pl : Sem Bool} (ho : PE X o (tF X W fo)) (hM : DispOk X.prog X.w X.K X.mg X.base k m L) (hr : RoomG k X.A) (tk : Takes X W) (ha : PA X (e :: es) (tA X W fs))
    (hst : starEach (e :: es) X.env = (false, eval e X.env) :: starEach es X.env := by rfl) (hpl : (backTo pos (starEach es X.env)).any (·.1) = false := by rfl)
    (ht : eval (.Call (.Attribute o m apos) (e :: es) [] pos) X.env = (do
      let ov ← eval o X.env
      standAt apos.atName
      let (f, first) ← holding [ov] (getMethod ov m pl)
      callWith pos f first (backTo pos (starEach (e :: es) X.env)) (backToKw pos (keywordEach [] X.env))) := by rfl) :
    PE X (.Call (.Attribute o m apos) (e :: es) [] pos) (tF X W (fMe L m fo fs)) := by
  refine ⟨fun pins s σ H Q I ⟨w, ρ, S, s0, en, h⟩ => ?_⟩
  refine PySem.W.methodCall_KW (pl := pl) (thn (ho.run pins s σ H _ I ⟨w, ρ, S, s0, en, (End.bind (R := fun w H => Rp X.K X.mg w H) h).imp (fun _ _ z => z) (fun _ _ _ z => z)⟩) fun u s1 ⟨v, H1, I1, rv, w1, S1, d, e1, s1', r1, h1⟩ => ?_) ht
  split at h1
  case h_2 => exact h1.elim
  rename_i F hF
  cases d <;> simp only [disR] at hF <;> try (cases hF; done)
  rename_i c fs' ds'
  split at hF
  · cases hF
  rename_i hmf
  obtain ⟨C, a, fd, ps, hm, cl, me, Fn, bd, ar⟩ := hM c F hF
  have r1c := r1
  unfold Rp at r1
  obtain ⟨b, C', dx, vs, ev, hm', hb, off, l, q⟩ := r1
  rw [hm] at hm'; cases hm'
  subst ev
  obtain rfl : u = Value.ref b := rv
  refine getmeth_ok I1 hb cl me (lookup_none hmf) ?_
  refine PySem.W.callWith_K (first := [.ref b]) (h₀ := X.base) I.ok.mod.kin me.kp (thn (ha.run pos pins s1 σ H1 (fun vs H2 => spF X.K X.mg ps.length F (.ref b :: vs) H2 Q (WE W σ)) I1
    ⟨w1, ρ, S1, s1', en.ext e1, (End.bind (R := fun w H => RpL X.K X.mg w H) h1).imp ?_ (fun _ _ _ z => z)⟩) fun us s2 ⟨vs2, H2, I2, r, q2⟩ => ⟨I2.kIn, run_g (us := .ref b :: us) (vs := .ref b :: vs2) Fn hr tk I2 (.cons rfl r) (binds0 (us := .ref b :: us) bd I2.kIn ?_) q2⟩) hst hpl
  · rintro vs2 H2 ⟨w2, S2, ds2, e2, s2, r2, h2⟩
    refine ⟨w2, S2, .ins c fs' ds' :: ds2, s2, RpL.cons (Rp.ext e2 _ _ r1c) r2, ?_, h2⟩
    apply Classical.byContradiction
    intro hn
    rw [ar _ S2 hn] at h2
    exact h2
  · have z : (V.ref b :: vs2).length = (Value.ref b :: us).length := by simp [r.length]
    rw [← z]; exact Fn.size _ _ _ _ q2
theorem q_make {c : Str} {F : FF} (C : CalM X.prog X.w X.K X.mg X.base k c "__init__" F) (M : MkC X.K X.mg c) (hr : RoomG (k + 1) X.A) (tk : Takes X W) (hg : Gl X c) (ha : PA X (e :: es) (tA X W fs)) (hdb : (c == ("__debug__" : Str)) = false := by decide)
    (he : starEach (e :: es) X.env = (false, eval e X.env) :: starEach es X.env := by rfl) (hpl : (backTo pos (starEach es X.env)).any (·.1) = false := by rfl) : PE X (.Call (.Name c p) (e :: es) [] pos) (tF X W (fMk c F fs)) := by
  obtain ⟨A1, a, fd, ps, hm, cl, me, Fn, bd, ar⟩ := C
  obtain ⟨A2, a2, hm2, mk⟩ := M
  rw [hm] at hm2; cases hm2
  have ea : a2 = a := by
    have z := mk.init.symm.trans me.at_
    simpa using z
  subst ea
  refine ⟨fun pins s σ H Q I ⟨w, ρ, S, s0, en, h⟩ => ?_⟩
  refine wpAny_Call_Name_kw (ld_glob I hg hm ?_ hdb)
  refine PySem.W.callWith_K (h₀ := X.base) I.ok.mod.kin mk.kp (thn (ha.run pos pins s σ H (fun vs H1 => ∃ w1 S1 ds, Sto X.K X.mg w1 S1 H1 ∧ RpL X.K X.mg w1 H1 ds vs ∧ End X.K X.mg (fun w H => Rp X.K X.mg w H) w1 H1 (mkR c F ds S1) Q (WE W σ)) I
    ⟨w, ρ, S, s0, en, (End.bind (R := fun w H => RpL X.K X.mg w H) h).imp (fun vs H1 ⟨w1, S1, ds, e1, s1, r1, h1⟩ => ⟨w1, S1, ds, s1, r1, h1⟩) (fun _ _ _ z => z)⟩) fun us s1 ⟨vs, H1, I1, r, w1, S1, ds, st1, r1, h1⟩ => ⟨I1.kIn, ?_⟩) he hpl
  -- the object
  have nx : H1 (s1.heap.objs.size + 1) = none := I1.hok.fresh (Nat.le_succ _)
  have nd : H1 s1.heap.objs.size = none := I1.hok.fresh (Nat.le_refl _)
  have I2 := Inv.made (C := A1) I1
  have stB := st1.beside (o := .own (s1.heap.objs.size + 1)) nd
  have nx2 : upd H1 s1.heap.objs.size (.own (s1.heap.objs.size + 1)) (s1.heap.objs.size + 1) = none := by
    rw [upd_ne (Nat.succ_ne_self _)]; exact nx
  have st2 := stB.obNew (C := A1) (dx := s1.heap.objs.size) (c := c) nx2 hm
  have ex1 : Ext w1 H1 w1 (upd H1 s1.heap.objs.size (.own (s1.heap.objs.size + 1))) := Ext.new nd
  have ex2 : Ext w1 (upd H1 s1.heap.objs.size (.own (s1.heap.objs.size + 1))) ⟨w1.φ ++ [some (s1.heap.objs.size + 1)], w1.hd⟩ (upd (upd H1 s1.heap.objs.size (.own (s1.heap.objs.size + 1))) (s1.heap.objs.size + 1) (.ins A1 s1.heap.objs.size [])) := Ext.cell nx2
  have h2 := End.on (ex1.trans ex2) (End.cutE st1 h1)
  have hsp : spF X.K X.mg ps.length F (.ref (s1.heap.objs.size + 1) :: vs) (upd (upd H1 s1.heap.objs.size (.own (s1.heap.objs.size + 1))) (s1.heap.objs.size + 1) (.ins A1 s1.heap.objs.size [])) (fun v H' => v = .non ∧ Q (.ref (s1.heap.objs.size + 1)) H') (WE W σ) := by
    refine ⟨_, _, .loc S1.length :: ds, st2, RpL.cons ?_ (RpL.ext (ex1.trans ex2) _ _ r1), ?_, ?_⟩
    · unfold Rp
      refine ⟨by show S1.length < (w1.φ ++ [some (s1.heap.objs.size + 1)]).length; rw [List.length_append, st1.len]; exact Nat.lt_succ_self _, fun a ha => ?_⟩
      have ha' : (w1.φ ++ [some (s1.heap.objs.size + 1)])[S1.length]? = some (some a) := ha
      rw [← st1.len, List.getElem?_append_right (Nat.le_refl _), Nat.sub_self] at ha'
      simp at ha'; rw [ha']
    · apply Classical.byContradiction
      intro hn
      have : mkR c F ds S1 = .no := by
        unfold mkR
        rw [ar _ _ hn]; rfl
      rw [this] at h1
      exact h1
    · refine (End.bind (R := fun w H => Rp X.K X.mg w H) h2).imp ?_ (fun _ _ _ z => z)
      rintro v H' ⟨w3, S3, d3, e3, s3, r3, h3⟩
      cases d3 <;> try exact h3.elim
      unfold Rp at r3
      refine ⟨r3, ?_⟩
      simp only at h3
      split at h3
      case h_2 => exact h3.elim
      rename_i c' fs' ds' hz
      obtain ⟨b, C', dx, vs', hb1, hb2, hb3, hb4, hb5⟩ := s3.cell _ _ hz
      have hlt : S1.length < (w1.φ ++ [some (s1.heap.objs.size + 1)]).length := by rw [List.length_append, st1.len]; exact Nat.lt_succ_self _
      have hb6 := e3.ph _ _ hb1 hlt
      have hb7 : (w1.φ ++ [some (s1.heap.objs.size + 1)])[S1.length]? = some (some b) := hb6
      rw [← st1.len, List.getElem?_append_right (Nat.le_refl _), Nat.sub_self] at hb7
      simp at hb7
      rw [hb7]
      exact oz_at s3 hz hb1 h3
  have r2 : Vals (V.ref (s1.heap.objs.size + 1) :: vs) (Value.ref (s1.heap.objs.size + 1) :: us) := .cons rfl r
  have hl : (Value.ref (s1.heap.objs.size + 1) :: us).length = ps.length := by
    rw [← r2.length]; exact Fn.size _ _ _ _ hsp
  have hrm : RoomG k (X.A.under (.builtin "type.__call__" ⟨.ref A1 :: us, []⟩)) := ⟨hr.rm.make A1 us [], hr.gd⟩
  refine wpAny_call (make_map (f := a2) I1.kIn mk.makes mk.init (beq_iff_eq.mp mk.fn) (codeAny_mono (Fn.runs _ X.stack _ _ ⟨Value.ref (s1.heap.objs.size + 1) :: us, []⟩ (Value.ref (s1.heap.objs.size + 1) :: us) _ _ (WE W σ) hrm
    (I2.env0.make A1 us []) (binds0 (us := Value.ref (s1.heap.objs.size + 1) :: us) bd I2.kIn hl) r2 hsp) fun r s' hq' => ?_))
  cases r with
  | error e => exact passAt tk σ pins _ _ e s' I2 hq'
  | ok fl =>
    cases fl with
    | ret u =>
      obtain ⟨v, H', I3, rv, ev, q3⟩ := I2.after hq'
      subst ev
      exact ⟨rv, ⟨V.ref (s1.heap.objs.size + 1), H', I3, rfl, q3⟩⟩
    | next => exact False.elim hq'
    | brk => exact False.elim hq'
    | cont => exact False.elim hq'
end
end Kw

/-! Kw27: d.get(k) of a dict of the module; what is not read; classes at the module's top. -/
namespace Kw
open PySem PySem.Spec PySem.Calls PyProof.Rows L2
def getGR (kvs : List (Str × D)) (y : D) (S : Store) : RE D := match y with
  | .str z => (match kvs.lookup z with
    | some d => .ok d S
    | none => .ok .non S)
  | _ => .no
def fGetG (n : Str) (kvs : List (Str × D)) (fa fb : FE) : FE := fun ρ S => (fa ρ S).bnd fun x S1 => match x with
  | .glo m => if m = n then (fb ρ S1).bnd (getGR kvs) else .no
  | _ => .no
def getO (o : Option D) (S : Store) : RE D := match o with
  | some d => .ok d S
  | none => .ok .non S
@[simp] theorem getO_some {d : D} {S : Store} : getO (some d) S = .ok d S := rfl
@[simp] theorem getO_none {S : Store} : getO none S = .ok .non S := rfl
@[simp] theorem getGR_str {z : Str} {kvs : List (Str × D)} {S : Store} : getGR kvs (.str z) S = getO (kvs.lookup z) S := rfl
theorem fGetG_ap {n : Str} {kvs : List (Str × D)} {fb : FE} {ρ : FEnv} {S : Store} : fGetG n kvs (fC (.glo n)) fb ρ S = (fb ρ S).bnd (getGR kvs) := by
  show (if n = n then (fb ρ S).bnd (getGR kvs) else .no) = _
  rw [if_pos rfl]
section
variable {X : Cx} {W : WX} {a b : Expr} {fa fb : FE} {apos cpos : Pos} {x : Str} {kvs : List (Str × D)}
theorem q_getG (h : GD X.K X.w.params X.mg x kvs) (ha : PE X a (tF X W fa)) (hb : PE X b (tF X W fb)) (m : M1 X a "get" apos b cpos := by exact ⟨rfl, rfl, rfl, rfl⟩) : PE X (.Call (.Attribute a "get" apos) [b] [] cpos) (tF X W (fGetG x kvs fa fb)) := by
  obtain ⟨p, es, n, mm, l, k, hs, f⟩ := h
  refine ⟨fun pins s σ H Q I ⟨w, ρ, S, s0, en, h⟩ => ?_⟩
  refine wpAny_Call_method m.base m.few m.line PySem.F.plainAttrs_dict PySem.F.slot_dict_get PySem.F.type_dict_get (thn (ha.run pins s σ H (fun v H1 => v = .ref p ∧ ∃ w1 S1, Sto X.K X.mg w1 S1 H1 ∧ EnvR X.K X.mg w1 H1 ρ σ ∧ End X.K X.mg (fun w H => Rp X.K X.mg w H) w1 H1 ((fb ρ S1).bnd (getGR kvs)) Q (fun c od H' => W c od σ H')) I
    ⟨w, ρ, S, s0, en, (End.bind (R := fun w H => Rp X.K X.mg w H) h).imp ?_ (fun _ _ _ z => z)⟩) fun u s1 ⟨v, H1, I1, rv, ev, w1, S1, st1, en1, h1⟩ => ?_)
  · rintro v H1 ⟨w1, S1, d, e1, s1, r1, h1⟩
    cases d <;> try exact h1.elim
    simp only at h1
    split at h1
    · rename_i em
      subst em
      unfold Rp at r1
      obtain ⟨q, e2, e3⟩ := r1
      rw [mm] at e3; cases e3
      exact ⟨e2, w1, S1, s1, en.ext e1, h1⟩
    · exact h1.elim
  · subst ev
    obtain rfl : u = Value.ref p := rv
    have hm := PySem.W.mapOf_K (prog := X.prog) (w := X.w) I1.kIn l k
    refine ⟨hm.typeIs, fun b q => ?_, ?_⟩
    · cases q
      exact ⟨_, I1.kIn _ _ l, rfl⟩
    · rw [m.trees]
      refine Calls.callWith_builtin rfl (Calls.evalArgs_plain (Calls.spliced_cons (thn (hb.run pins s1 σ H1 (fun y H2 => ∃ z d, y = .str z ∧ (∃ v0, (match kvs.lookup z with | some d => CV d v0 | none => v0 = .non) ∧ Q v0 H2) ∧ d = kvs.lookup z) I1
        ⟨w1, ρ, S1, st1, en1, (End.bind (R := fun w H => Rp X.K X.mg w H) h1).imp ?_ (fun _ _ _ z => z)⟩) fun iv s2 ⟨y, H2, I2, ry, z, d, ey, ⟨v0, hv0, q2⟩, ed⟩ => Calls.spliced_nil ?_)))
      · rintro y H2 ⟨w2, S2, d2, e2, s2, r2, h2⟩
        cases d2 <;> try exact h2.elim
        rename_i z
        refine ⟨z, _, rp_str r2, ?_, rfl⟩
        simp only [getGR] at h2
        have fz := f z
        split at h2
        · rename_i d hd
          rw [hd] at fz
          obtain ⟨u, v, f1, f2, f3⟩ := fz
          exact ⟨v, f3, h2.ret s2 f3.rp⟩
        · rename_i hd
          exact ⟨.non, rfl, h2.ret s2 rp_n⟩
      · subst ey
        obtain ⟨t, rfl⟩ := ry
        have hm2 := PySem.W.mapOf_K (prog := X.prog) (w := X.w) I2.kIn l k
        refine call_meetsIn PySem.F.slot_dict_get hm2.typeIs PySem.F.entry_dict_get (PySem.F.args_dict_get_2 _ _) (meets_dict_get (strKind X.prog X.w) p (strKind_is X.prog X.w z t) hs) ⟨_, hm2, ?_⟩
        have fz := f z
        cases hd : kvs.lookup z with
        | some d =>
          rw [hd] at fz hv0
          obtain ⟨u, v, f1, f2, f3⟩ := fz
          have hv1 : CV d v0 := hv0
          have e : v0 = v := by
            cases d <;> simp only [CV] at hv1 f3 <;> first | exact hv1.trans f3.symm | exact hv1.elim
          subst e
          refine ⟨v0, H2, I2.tok _, ?_, q2⟩
          rw [PySem.W.find_K l f1]
          exact f2
        | none =>
          rw [hd] at fz hv0
          have hv1 : v0 = .non := hv0
          subst hv1
          refine ⟨.non, H2, I2.tok _, ?_, q2⟩
          rw [PySem.W.find_K l fz]
          rfl
end
/-- what is not read -/
def sNo : FS := fun _ _ => .no
def fNo : FE := fun _ _ => .no
theorem q_sno {X : Cx} {W : WX} {st : Stmt} : PS X st (tS X W sNo) := ⟨fun pins s σ H D I ⟨w, ρ, S, s0, en, h⟩ => h.elim⟩
theorem q_no {X : Cx} {W : WX} {e : Expr} : PE X e (tF X W fNo) := ⟨fun pins s σ H Q I ⟨w, ρ, S, s0, en, h⟩ => h.elim⟩
/-! ### classes -/
/-- the class's method stands in the class's body -/
def TM (K : PySem.W.Frag) (mg : Str → Option Value) (c m qual : Str) (st : Stmt) (ps : List Str) : Prop := ∃ C f fd, mg c = some (.ref C) ∧ Cls K C ∧ Meth K C m f ∧ Fun K m qual st f fd ∧ Binds K fd ps []
section
variable {P : Program} {w : World} {K : PySem.W.Frag} {mg : Str → Option Value} {base : Heap}
theorem calM_zero {c m qual : Str} {st : Stmt} {ps : List Str} {k : Nat} (T : TM K mg c m qual st ps) : CalM P w K mg base k c m (fun _ _ => .no) := by
  obtain ⟨C, f, fd, hm, cl, me, F, b⟩ := T
  exact ⟨C, f, fd, ps, hm, cl, me, ⟨fun vs H Q E ⟨w, S, ds, s, r, l, h⟩ => by rw [← r.length]; exact l, fun A outer s H args us vs Q E _ _ _ _ ⟨w, S, ds, st, r, l, h⟩ => h.elim⟩, b, fun _ _ _ => rfl⟩
theorem calMB {c m qual : Str} {st : Stmt} {N ps : List Str} {k : Nat} {b : FS} (T : TM K mg c m qual st ps) (S : FnScope N ps (defScope st))
    (hb : ∀ (f : Addr) (cdv : Value) (A : Around) (outer : List Env) (s : Shared) (H : Hp) (E : XK), RoomG k (A.deeper (envOfC qual (defScope st) s.heap.objs.size f cdv)) →
      PSs (cxOf (L2.CX P w) P w K mg base N qual (defScope st) f cdv A outer s H E) (defBody st) (tS (cxOf (L2.CX P w) P w K mg base N qual (defScope st) f cdv A outer s H E) (fun c d _ H => E c d H) b)) :
    CalM P w K mg base (k + 1) c m (fnB ps.length N.length b) := by
  obtain ⟨C, f, fd, hm, cl, me, F, bd⟩ := T
  exact ⟨C, f, fd, ps, hm, cl, me, fn_ok F S (hb f), bd, fnB_ar⟩
theorem calMC {c m qual : Str} {st : Stmt} {N ps : List Str} {k : Nat} {b : FS} (T : TM K mg c m qual st ps) (S : FnScope N ps (defScope st))
    (hb : ∀ (f : Addr) (cdv : Value) (A : Around) (outer : List Env) (s : Shared) (H : Hp) (E : XK), RoomG k (A.deeper (envOfC qual (defScope st) s.heap.objs.size f cdv)) →
      PSs (cxOf (L2.CX P w) P w K mg base N qual (defScope st) f cdv A outer s H E) (defBody st) (tS (cxOf (L2.CX P w) P w K mg base N qual (defScope st) f cdv A outer s H E) (fun c d _ H => E c d H) b)) :
    CalM P w K mg base (k + 1) c m (fnC ps.length N.length b) := by
  obtain ⟨C, f, fd, hm, cl, me, F, bd⟩ := T
  exact ⟨C, f, fd, ps, hm, cl, me, spF_cut (fn_ok F S (hb f)), bd, fnC_ar⟩
end
section
variable {K : PySem.W.Frag} {mg : Str → Option Value} {h : Heap}
theorem tm_mk {c m qual : Str} {st : Stmt} {ps : List Str} {C f : Addr} {oc : Value} {od an : Option Addr} {osl : Array (Option Value)} {kV doc pm cdv ct : Value} (X : K.In h) (G : h.Ns mainGlobals mg) (a : PySem.W.nsIn K mainGlobals c = some (some (.ref C)))
    (m1 : PySem.W.findIn K (.ref C) m = some (some (.ref f))) (l : K.lookup f = some ⟨oc, od, .func (PySem.W.fnOf m qual (defArgs st) (defBody st) (defScope st) .none kV doc pm an cdv ct), osl⟩) (cc : PySem.W.codeIn K cdv qual = true) (k : PySem.W.keepIn K (.ref f) = true)
    (m2 : PySem.W.isFn K (.ref f) = true) (c1 : PySem.W.plainGet K C Str.empty = true) (c2 : PySem.W.hasDictIn K C = true) (c3 : PySem.W.plainOver K C = true) (c4 : PySem.W.findIn K (.ref C) "__setattr__" = some (some (.builtin "object.__setattr__")))
    (hb : ∀ (kV doc pm : Value) (an : Option Addr) (cdv ct : Value) (us : List Value), us.length = ps.length → bindArgs (PySem.W.fnOf m qual (defArgs st) (defBody st) (defScope st) .none kV doc pm an cdv ct) ⟨us, []⟩ = pure (ps.zip us)) : TM K mg c m qual st ps :=
  ⟨C, f, _, PySem.W.mg_of X G a, ⟨c1, c2, c3, c4⟩, ⟨m1, m2, k⟩, fun_mk l cc k, (fun_mk l cc k).binds hb⟩
theorem fld_mk {c f : Str} {C : Addr} (X : K.In h) (G : h.Ns mainGlobals mg) (a : PySem.W.nsIn K mainGlobals c = some (some (.ref C))) (n : PySem.W.findIn K (.ref C) f = some none)
    (c1 : PySem.W.plainGet K C Str.empty = true) (c2 : PySem.W.hasDictIn K C = true) (c3 : PySem.W.plainOver K C = true) (c4 : PySem.W.findIn K (.ref C) "__setattr__" = some (some (.builtin "object.__setattr__"))) : FldC K mg c f :=
  ⟨C, PySem.W.mg_of X G a, ⟨c1, c2, c3, c4⟩, n⟩
theorem mkc_mk {c : Str} {C f : Addr} (X : K.In h) (G : h.Ns mainGlobals mg) (a : PySem.W.nsIn K mainGlobals c = some (some (.ref C))) (i : PySem.W.findIn K (.ref C) "__init__" = some (some (.ref f))) (mk : PySem.W.makesIn K C = true) (fn : PySem.W.isFn K (.ref f) = true) (kp : PySem.W.keepIn K (.ref C) = true) : MkC K mg c :=
  ⟨C, f, PySem.W.mg_of X G a, ⟨mk, i, fn, kp⟩⟩
end
end Kw

/-! Kw28: how many unlike texts a list has; things taken out of a list; a dict of rows. -/
namespace Kw
open PySem PySem.Spec PyProof.Rows L2
/-! ### sets of texts -/
def metS (acc : List Str) (x : Str) : List Str := if x ∈ acc then acc else acc ++ [x]
/-- the texts, each once -/
def onceS (xs : List Str) : List Str := xs.foldl metS []
theorem onceS_snoc (xs : List Str) (x : Str) : onceS (xs ++ [x]) = metS (onceS xs) x := by
  unfold onceS; rw [List.foldl_append]; rfl
theorem metS_len (acc : List Str) (x : Str) : (metS acc x).length ≤ acc.length + 1 := by
  unfold metS; split <;> simp
theorem onceS_acc : ∀ (xs acc : List Str), (xs.foldl metS acc).length ≤ acc.length + xs.length
  | [], acc => Nat.le_refl _
  | x :: xs, acc => by
    have h1 := onceS_acc xs (metS acc x)
    have h2 := metS_len acc x
    show (xs.foldl metS (metS acc x)).length ≤ acc.length + (xs.length + 1)
    omega
theorem onceS_le (xs : List Str) : (onceS xs).length ≤ xs.length := by
  have := onceS_acc xs []
  rwa [List.length_nil, Nat.zero_add] at this
abbrev memS (acc : List Str) : Str → Bool := fun k => decide (k ∈ acc)
theorem memS_met (acc : List Str) (x k : Str) : memS (metS acc x) k = (memS acc k || decide (k = x)) := by
  unfold memS metS
  by_cases h : x ∈ acc
  · rw [if_pos h]
    by_cases e : k = x
    · subst e; simp [h]
    · simp [e]
  · rw [if_neg h, Bool.eq_iff_iff]; simp
theorem lenS_met (acc : List Str) (x : Str) : (metS acc x).length = if memS acc x = true then acc.length else acc.length + 1 := by
  unfold memS metS
  by_cases h : x ∈ acc
  · rw [if_pos h, if_pos (decide_eq_true h)]
  · rw [if_neg h, if_neg (by simpa using h), List.length_append]; rfl
section
variable {P : Program} {w : World} {A : Around} {R : Result → Shared → Prop} {it : Addr} {fp wr : List Addr} {G : Array GenState → Array GenState → Prop} {n : Nat} {Pv : Nat → Value → Prop} {St : Nat → Shared → Prop}
/-- the set is filled, text by text -/
theorem fillS (W : WalksS P w A.in1 it fp wr G n Pv St) (B : Addr) (hB : B ∉ fp) (xs : List Str) (hn : xs.length = n) (hc : n + 1 < scanBound) (hv : ∀ i v, Pv i v → ∃ tk, v = Value.str (xs.getD i Str.empty) tk) :
    ∀ (m i : Nat) (s : Shared), i + m = n → St i s → s.heap.SetOf (strKind P w) B (memS (onceS (xs.take i))) (onceS (xs.take i)).length →
      (∀ t, Moved (B :: wr) G s t → t.heap.SetOf (strKind P w) B (memS (onceS xs)) (onceS xs).length → R (.ok (.ret .none)) t) → codeAny (model P w) A (.builtin "set.update.loop" ⟨[.ref B, .ref it], []⟩) R s := by
  have hBw : B ∉ wr := fun z => hB (W.sub _ z)
  have up : ∀ b ∈ wr, b ∈ B :: wr := fun b z => List.mem_cons_of_mem _ z
  have carry : ∀ {s t : Shared} {S : Str → Bool} {c : Nat}, Moved wr G s t → s.heap.SetOf (strKind P w) B S c → t.heap.SetOf (strKind P w) B S c := by
    rintro s t S c mv ⟨o, es, ep, tb, e, r⟩
    exact ⟨o, es, ep, tb, mv.heap B _ hBw e, r⟩
  intro m
  induction m with
  | zero =>
    intro i s him hst hset fin
    have hi : i = n := by omega
    refine codeAny_builtin F.entry_set_update_loop ?_
    rw [Around.under_plainId F.plain_set_update_loop _]
    show wpAny _ A.in1 (pyNext (.ref it) >>= _) _ _ s
    refine wpAny_bind (W.done s _ _ (hi ▸ hst) fun t mv => ?_)
    refine (show wpAny _ A.in1 (ret Value.none) _ _ t from wpAny_pure (fin t (mv.mono up) ?_))
    have := carry mv hset
    rw [hi, ← hn, List.take_length] at this
    exact this
  | succ m ih =>
    intro i s him hst hset fin
    have hlt : i < n := by omega
    have hx : xs[i]? = some (xs.getD i Str.empty) := by
      rw [List.getD_eq_getElem?_getD, List.getElem?_eq_getElem (by omega)]; rfl
    generalize xs.getD i Str.empty = x at hx hv
    refine codeAny_builtin F.entry_set_update_loop ?_
    rw [Around.under_plainId F.plain_set_update_loop _]
    show wpAny _ A.in1 (pyNext (.ref it) >>= _) _ _ s
    refine wpAny_bind (W.item i s _ _ hlt hst fun v t hp hst1 mv => ?_)
    obtain ⟨tk, ev⟩ := hv i v hp
    have ev : v = Value.str x tk := by
      rw [ev, List.getD_eq_getElem?_getD, hx]; rfl
    subst ev
    have key : (strKind P w).is x (Value.str x tk) = true := strKind_is _ _ _ _
    have le : (onceS (xs.take i)).length ≤ i := by
      have := onceS_le (xs.take i)
      rw [List.length_take] at this
      omega
    show wpAny _ A.in1 (holding [Value.str x tk] (setAdd B (.str x tk)) >>= _) _ _ t
    unfold setAdd
    refine wpAny_bind (wpAny_holding (wpAny_holding (wpAny_bind ((strKind P w).pyHash key ?_))))
    refine wpAny_setAddHashed_of (s := { t with toks := t.toks + 1 }) key rfl (show Heap.SetOf (strKind P w) t.heap B _ _ from carry mv hset) (by omega) fun h' same hset1 => ?_
    have hset2 : h'.SetOf (strKind P w) B (memS (onceS (xs.take (i + 1)))) (onceS (xs.take (i + 1))).length := by
      have e : xs.take (i + 1) = xs.take i ++ [x] := by rw [List.take_succ, hx]; rfl
      rw [e, onceS_snoc, lenS_met]
      have e2 : memS (metS (onceS (xs.take i)) x) = fun k => memS (onceS (xs.take i)) k || decide (k = x) := funext fun k => memS_met _ _ k
      rw [e2]; exact hset1
    refine wpAny_pure ⟨plainId_quiet F.plain_set_update_loop _, ih (i + 1) _ (by omega) (W.frame _ t _ _ hst1 (Nat.le_succ _) fun b hb o e => ?_) hset2 fun u mv1 hset3 => fin u ?_ hset3⟩
    · rw [same.2 b fun z => hB (z ▸ hb)]; exact e
    · refine Moved.trans W.gtrans ((mv.mono up).then_heap (Nat.le_succ _) fun b o hb e => ?_) mv1
      rw [same.2 b fun z => hb (z ▸ List.mem_cons_self)]; exact e
end
section
variable {P : Program} {w : World} {A : Around} {E : Value → Shared → Prop} {s : Shared}
theorem strs_nth : ∀ {us : List Value} {xs : List Str}, StrsAre us xs → ∀ (i : Nat) v, us[i]? = some v → ∃ tk, v = Value.str (xs.getD i Str.empty) tk
  | _, _, .nil, i, v, e => by simp at e
  | _, _, .cons x tk r, 0, v, e => ⟨tk, by simpa using e.symm⟩
  | _, _, .cons x tk r, i + 1, v, e => by
    obtain ⟨tk', e'⟩ := strs_nth r i v (by simpa using e)
    exact ⟨tk', by rw [e']; rfl⟩
abbrev newSet (b : Bool) : Obj := { cls := .type "set", dict := none, data := .set #[] 0 (.fresh 0 0 b) }
set_option maxHeartbeats 6400000 in
/-- set(xs) of a list of texts -/
theorem set_texts {a : Addr} {us : Array Value} {xs : List Str} {Q : Value → Shared → Prop} (calm : A.handled = none) (la : s.heap.IsList a us) (tx : StrsAre us.toList xs) (few : xs.length + 1 < scanBound)
    (k : ∀ (h' : Heap) (tk : Nat), h'.SetOf (strKind P w) s.heap.objs.size (memS (onceS xs)) (onceS xs).length → (∀ b o, b < s.heap.objs.size → s.heap.get? b = some o → h'.get? b = some o) → Q (.ref s.heap.objs.size) { s with heap := h', toks := tk }) :
    wpAny (model P w) A (call (.type "set") [.ref a]) Q E s := by
  have fm := PySem.F.called_set.made
  have fs := PySem.F.called_set.sub
  have f1 := PySem.F.called_set.notType
  have f2 := PySem.F.called_set.canCreate
  have f3 := PySem.F.typeCall_set_1 (.ref a)
  have f4 := PySem.F.called_set.init.lookup
  obtain ⟨mc, mt, fmro⟩ := PySem.F.called_set.mro
  refine wpAny_call (codeAny_of_tree ?_)
  refine (show wpAny _ _ (callAny (.type "set") _) _ _ _ from wpAny_pure ⟨Code.quiet_builtin _ (by decide +kernel), codeAny_builtin PySem.F.entry_type_call ?_⟩)
  rw [Around.under_plain (weight_type_call_type "set" [.ref a] []) rfl]
  repeat (any_goals (first | assumption | wp_step))
  refine codeAny_mono (code_set_new_1 (.ref a) (E := E) (Q₁ := fun v t => ∃ b : Bool, v = .ref s.heap.objs.size ∧ t = { s with heap := s.heap.push (newSet b) }) fun b => ⟨b, rfl, rfl⟩) fun r t hr => ?_
  match r, hr with
  | .error e, hr => exact hr
  | .ok .next, hr => exact hr.elim
  | .ok .brk, hr => exact hr.elim
  | .ok .cont, hr => exact hr.elim
  | .ok (.ret v), hr =>
    obtain ⟨b, rfl, rfl⟩ := hr
    have at0 : (s.heap.push (newSet b)).get? s.heap.objs.size = some (newSet b) := Heap.get?_push_size _ rfl
    have ty0 : Shared.TypeIs { s with heap := s.heap.push (newSet b) } (.ref s.heap.objs.size) "set" := ⟨_, at0, rfl⟩
    have f5 := PySem.F.called_set.init.bind (.ref s.heap.objs.size)
    repeat (any_goals (first | assumption | wp_step))
    refine codeAny_mono (codeAny_call_builtin (R := wants (fun v t => v = .none ∧ ∃ h' tk, t = { s with heap := h', toks := tk } ∧ h'.SetOf (strKind P w) s.heap.objs.size (memS (onceS xs)) (onceS xs).length ∧
      (∀ b o, b < s.heap.objs.size → s.heap.get? b = some o → h'.get? b = some o)) E) PySem.F.called_set.init.plain PySem.F.entry_set_init (check_set_init_1 ty0 ?_)) fun r t hr => ?_
    · obtain ⟨⟨oc, od, ox, os⟩, oat, ocl, on, oda⟩ := la
      simp only at ocl oda
      subst ocl; subst oda
      have oat1 : (s.heap.push (newSet b)).get? a = some { cls := .type "list", dict := od, data := .seq us on, slots := os } := Heap.get?_push_of_some _ oat
      have la1 : (s.heap.push (newSet b)).IsList a us := ⟨_, oat1, rfl, on, rfl⟩
      have g1 := PySem.F.sub_list_set
      have g2 := PySem.F.sub_list_frozenset
      have g3 : (Value.type "list" == Value.type "dict") = false := by decide
      unfold Builtin.«set.__init__» noKeywords Builtin.Frozenset.updateFrom
      generalize hp : pyIter = walkOf
      wp_walk
      subst hp
      refine wpAny_pyIter_list la1 ?_
      refine wpAny_bind (wpAny_runValue ?_)
      have a_lt : a < s.heap.objs.size := Heap.lt_size oat
      have sz1 : (s.heap.push (newSet b)).objs.size = s.heap.objs.size + 1 := Heap.size_push _ _
      have calm3 : A.in1.in1.in1.handled = none := by simp [calm]
      have ne1 : a ≠ (s.heap.push (newSet b)).objs.size := by rw [sz1]; exact Nat.ne_of_lt (Nat.lt_succ_of_lt a_lt)
      have off : s.heap.objs.size ∉ [(s.heap.push (newSet b)).objs.size, a] := by
        rw [sz1]; simp only [List.mem_cons, List.not_mem_nil, or_false, not_or]; exact ⟨Nat.ne_of_lt (Nat.lt_succ_self _), Nat.ne_of_gt a_lt⟩
      have nx : xs.length = us.size := by rw [← Array.length_toList]; exact (StrsAre.len_eq tx).symm
      refine fillS ((Walks.list calm3 _ a ne1 us).toS) s.heap.objs.size off xs nx (by omega) (fun i v e => strs_nth tx i v (by rw [Array.getElem?_toList]; exact e)) us.size 0 _ (by omega) ⟨⟨_, Heap.get?_push_size _ rfl, rfl, rfl⟩, la1.push _⟩ ?start ?finish
      case start =>
        have at1 : ((s.heap.push (newSet b)).push { cls := .type "list_iterator", data := .fields #[.ref a, .int 0 0] }).get? s.heap.objs.size = some (newSet b) := Heap.get?_push_of_some _ at0
        exact SetOf_congr ((setObjOf_fresh (knd := strKind P w) b).setOf at1 (by unfold scanBound; omega)) (fun _ => rfl) rfl
      case finish =>
        intro t mv hset
        obtain ⟨h', g', d', tk', os'⟩ := t
        have q1 : g' = s.gens := mv.gens
        have q2 : d' = s.drawn := mv.drawn
        have q3 : os' = s.os := mv.os
        subst q1 q2 q3
        refine (show wpAny _ _ _ _ _ _ from wpAny_pure (show wpAny _ _ (ret Value.none) _ _ _ from wpAny_pure ⟨rfl, h', tk', rfl, hset, fun c o hc e => ?_⟩))
        refine mv.heap c o ?_ (Heap.get?_push_of_some _ (Heap.get?_push_of_some _ e))
        rw [sz1]; simp only [List.mem_cons, List.not_mem_nil, or_false, not_or]; exact ⟨Nat.ne_of_lt hc, Nat.ne_of_lt (Nat.lt_succ_of_lt hc)⟩
    · match r, hr with
      | .error e, hr => exact hr
      | .ok .next, hr => exact hr.elim
      | .ok .brk, hr => exact hr.elim
      | .ok .cont, hr => exact hr.elim
      | .ok (.ret v), hr =>
        obtain ⟨rfl, h', tk, rfl, hset, keep⟩ := hr
        repeat (any_goals (first | assumption | wp_step))
        exact k h' tk hset keep
end
/-! ### len(set(xs)) -/
def textsOf : List D → Option (List Str)
  | [] => some []
  | .str x :: r => (textsOf r).map (x :: ·)
  | _ => none
def gLenSet (d : D) (S : Store) : RE D := match seqL S d with
  | some ds => (match textsOf ds with
    | some xs => if xs.length ≤ 1000 then .ok (.int ((onceS xs).length : Int)) S else .no
    | none => .no)
  | none => .no
theorem texts_at {K : PySem.W.Frag} {mg : Str → Option Value} {w : Wd} {H : Hp} : ∀ {ds : List D} {vs : List V} {xs : List Str}, RpL K mg w H ds vs → textsOf ds = some xs → vs = xs.map V.str
  | [], vs, xs, r, h => by
    unfold RpL at r
    simp only [textsOf] at h
    cases h; rw [r]; rfl
  | d :: ds, vs, xs, r, h => by
    cases d <;> simp only [textsOf] at h <;> try (cases h; done)
    obtain ⟨ys, h1, h2⟩ := Option.map_eq_some_iff.mp h
    unfold RpL at r
    obtain ⟨v, r', e, r1, r2⟩ := r
    rw [e, ← h2, rp_str r1, texts_at r2 h1]; rfl
theorem vals_texts : ∀ {xs : List Str} {us : List Value}, Vals (xs.map V.str) us → StrsAre us xs
  | [], us, r => by
    rw [List.map_nil] at r
    cases r; exact .nil
  | x :: xs, us, r => by
    rw [List.map_cons] at r
    cases r with
    | cons h t =>
      obtain ⟨tk, rfl⟩ := h
      exact .cons x tk (vals_texts t)
section
variable {X : Cx} {W : WX} {a : Expr} {fa : FE} {p p2 q pos : Pos}
theorem q_lenSet (hc : X.calm = true) (hg : Gl X "len") (hm : X.mg "len" = none) (hg2 : Gl X "set") (hm2 : X.mg "set" = none) (ha : PE X a (tF X W fa)) (na : starEach [a] X.env = (false, eval a X.env) :: starEach [] X.env := by rfl) :
    PE X (.Call (.Name "len" p) [.Call (.Name "set" p2) [a] [] q] [] pos) (tF X W (f1 gLenSet fa)) := by
  refine ⟨fun pins s σ H Q I ⟨w, ρ, S, s0, en, h⟩ => ?_⟩
  have h1 : tF X W fa σ H (fun v H1 => ∃ (l : Addr) (xs : List Str), v = V.ref l ∧ SqL X.K H1 l (xs.map V.str) ∧ xs.length ≤ 1000 ∧ Q (.int ((onceS xs).length : Int)) H1) := by
    refine ⟨w, ρ, S, s0, en, (End.bind (R := fun w H => Rp X.K X.mg w H) h).imp ?_ (fun _ _ _ z => z)⟩
    rintro v H1 ⟨w1, S1, d, e1, s1, r1, h1⟩
    unfold gLenSet at h1
    split at h1
    · rename_i ds hd
      split at h1
      · rename_i xs hx
        split at h1
        · rename_i hl
          obtain ⟨l, vs, ev, sq, rl⟩ := seqL_at s1 r1 hd
          rw [texts_at rl hx] at sq
          exact ⟨l, xs, ev, sq, hl, h1.ret s1 rp_i⟩
        · exact h1.elim
      · exact h1.elim
    · exact h1.elim
  refine Call_ (ld_blt I hg hm PySem.boot_len (callWith_builtin1 (args_cons (Call_ (ld_blt I hg2 hm2 boot_set ?_)) rfl) rfl rfl))
  refine callWith_type1 (args_cons (thn (ha.run pins s σ H _ I h1) fun v s1 ⟨x, H1, I1, r1, l, xs, ex, sq, hl, q1⟩ => args_nil ?_) na) na rfl
  subst ex
  cases r1
  obtain ⟨its, r, pl, hz⟩ := I1.list sq
  refine set_texts (I1.ok.hd hc) pl.isList (by simpa using vals_texts r) (by unfold scanBound; omega) fun h' tk hset keep => args_nil ?_
  obtain ⟨o, es, ep, t, ho, hex, hd, _, _, _, hf, hn⟩ := hset
  have I2 : Inv X pins σ H1 { s1 with heap := h', toks := tk } := I1.kept fun b o e => keep b o (Heap.lt_size e) e
  have le := onceS_le xs
  exact call_len_set ho hex hd hf (by rw [hn]; omega) ⟨.int ((onceS xs).length : Int), H1, I2.tok _, ⟨_, by rw [hn]⟩, q1⟩
end
/-! ### xs.remove(x), where it is in -/
def gRem (x : D) (ds : List D) (S : Store) : RE D := match x, ds with
  | .loc n, [y] => (match cellM S n with
    | some zs => (match pySL S zs, pyS S y with
      | some ps, some d => if PyData.canLayAll0 ps && d.canLay0 && decide (min (PyData.depthAll ps) d.depth ≤ 190) && decide (zs.length ≤ sizeLine) then (match ps.findIdx? (fun z => PyData.eqv z d) with
        | some j => .ok .non (S.set n (.lst (zs.eraseIdx j)))
        | none => .no) else .no
      | _, _ => .no)
    | none => .no)
  | _, _ => .no
def rRemD (K : PySem.W.Frag) : V → List V → Hp → VK → Prop := fun x xs H Q => ∃ (a : Addr) (y : V) (d : PyData) (vs : List V) (ps : List PyData) (j : Nat), x = .ref a ∧ xs = [y] ∧ H a = some (.lst vs) ∧ DpAll K H vs ps ∧ Dp K H y d ∧ PyData.canLayAll0 ps = true ∧ d.canLay0 = true ∧ min (PyData.depthAll ps) d.depth ≤ 190 ∧
  ps.findIdx? (fun z => PyData.eqv z d) = some j ∧ Q .non (upd H a (.lst (vs.eraseIdx j)))
section
variable {X : Cx}
theorem mt_remD (hu : X.A.units + 200 < cLine) : MtR X "list.remove" (rRemD X.K) := by
  intro pins s σ H x xs v us Q I rx rxs h
  obtain ⟨a, y, d, vs, ps, j, rfl, rfl, hH, hl, hy, c1, c2, c3, hj, q⟩ := h
  cases rx
  obtain ⟨uy, rfl, ry⟩ := rxs.one
  obtain ⟨bs, r1⟩ := Dp.reads I d y uy hy ry
  obtain ⟨z, its, n, r, hl1, e0⟩ := I.lstM hH
  obtain ⟨as, h4⟩ := Dp.readsAll I ps _ its hl r
  have hmap : its.map (SeqAt.readOf s.heap) = ps := SeqAt.readsAll_map ps its as c1 h4
  have eqs := SeqAt.items_eqAt (A := X.A) (vs := its.toArray) (show ReadsAll s.heap its.toArray.toList ps as from h4) r1 c1 c2 (by omega)
  obtain ⟨jl, jp, jn⟩ := List.findIdx?_eq_some_iff_getElem.mp hj
  have il : its.length = ps.length := by rw [← hmap, List.length_map]
  have at_ : ∀ (i : Nat) (hi : i < its.length), SeqAt.readOf s.heap its[i] = ps[i]'(by omega) := fun i hi => by
    have : (its.map (SeqAt.readOf s.heap))[i]'(by simpa using hi) = ps[i]'(by omega) := by
      have e : (its.map (SeqAt.readOf s.heap))[i]? = ps[i]? := by rw [hmap]
      rw [List.getElem?_eq_getElem (by simpa using hi), List.getElem?_eq_getElem (by omega)] at e
      exact Option.some.inj e
    rwa [List.getElem_map] at this
  have hz : its.toArray.size ≤ sizeLine := by rw [List.size_toArray, ← hl1]; exact z
  have hjl : j < its.length := by omega
  have rm := SeqAt.list_removeAt a its.toArray n none #[] uy (fun u => PyData.eqv (SeqAt.readOf s.heap u) d) j (by simpa using hjl) (by
    show PyData.eqv (SeqAt.readOf s.heap its[j]) d = true
    rw [at_ j hjl]; exact jp) (fun i hi hlt => by
    have hi' : i < its.length := by simpa using hi
    show PyData.eqv (SeqAt.readOf s.heap its[i]) d = false
    rw [at_ i hi']
    have := jn i hlt
    simpa using this) hz
  refine call_meets PySem.F.slot_list_remove ⟨_, e0, rfl⟩ PySem.F.entry_list_remove (PySem.F.args_list_remove_2 _ _) rm ⟨e0, eqs, ?_⟩
  refine ⟨.non, _, I.lset (its' := its.eraseIdx j) hH e0 (by show its.toArray.eraseIdxIfInBounds j = _; rw [List.eraseIdxIfInBounds_toArray]) (r.eraseIdx j) ?_, rfl, q⟩
  have := List.length_eraseIdx_le vs j
  omega
variable {K : PySem.W.Frag} {mg : Str → Option Value}
theorem rem_v : MtV K mg (rRemD K) gRem := by
  intro w S H x xs d ds Q E s r1 r2 h
  unfold gRem at h
  split at h
  · rename_i n y
    split at h
    · rename_i zs hz
      split at h
      · rename_i ps p h1 h2
        split at h
        · rename_i hk
          simp only [Bool.and_eq_true, decide_eq_true_eq] at hk
          split at h
          · rename_i j hj
            obtain ⟨v, rfl, r3⟩ := r2.one_inv
            obtain ⟨l, vs, e1, t1, q1⟩ := seqM_at (S := S) (d := .loc n) s r1 hz
            exact ⟨l, v, p, vs, ps, j, e1, rfl, t1, pySL_at s zs vs ps q1 h1, pyS_at s y v p r3 h2, hk.1.1.1, hk.1.1.2, hk.1.2, hj, wrote s r1 hz (q1.erase j) rp_n h l e1⟩
          · exact h.elim
        · exact h.elim
      · exact h.elim
    · exact h.elim
  · exact h.elim
end
/-! ### dict(rows), unlike names ahead -/
def rowsOf : List D → Option (List (Str × D))
  | [] => some []
  | .tup [.str x, d] :: r => (rowsOf r).map ((x, d) :: ·)
  | _ => none
def gDict : List D → Store → RE D
  | [d], S => (match seqL S d with
    | some ds => (match rowsOf ds with
      | some rs => if (rs.map Prod.fst).Nodup then .ok (.dic (rs.map fun r => Sum.inr r.1) (rs.map Prod.snd)) S else .no
      | none => .no)
    | none => .no)
  | _, _ => .no
section
variable {X : Cx} {K : PySem.W.Frag} {mg : Str → Option Value} {w : Wd} {H : Hp}
theorem merge_new : ∀ (more acc : List (Key × V)), (more.map Prod.fst).Nodup → (∀ k ∈ more.map Prod.fst, k ∉ acc.map Prod.fst) → mergeK acc more = acc ++ more
  | [], acc, _, _ => by simp [mergeK]
  | kv :: more, acc, nd, hn => by
    obtain ⟨n1, n2⟩ := List.nodup_cons.mp (show (kv.1 :: more.map Prod.fst).Nodup from nd)
    have h0 : (acc.any fun p => decide (p.1 = kv.1)) = false := by
      rw [List.any_eq_false]
      intro p hp e
      exact hn kv.1 (by simp) (List.mem_map.mpr ⟨p, hp, of_decide_eq_true e⟩)
    have h1 : putK acc kv.1 kv.2 = acc ++ [kv] := by unfold putK; rw [if_neg (by rw [h0]; exact Bool.false_ne_true)]
    show mergeK (putK acc kv.1 kv.2) more = _
    rw [h1, merge_new more (acc ++ [kv]) n2 (fun k hk => ?_)]
    · simp
    · rw [List.map_append, List.mem_append]
      rintro (h | h)
      · exact hn k (by simp only [List.map_cons, List.mem_cons]; exact .inr hk) h
      · have : k = kv.1 := by simpa using h
        exact n1 (this ▸ hk)
theorem rows_at : ∀ {ds : List D} {vs : List V} {rs : List (Str × D)}, RpL K mg w H ds vs → rowsOf ds = some rs → ∃ (ps : List Addr) (kvs : List (Key × V)), vs = ps.map V.ref ∧ Paired (fun p kv => SqT K H p [kV kv.1, kv.2]) ps kvs ∧ kvs.map Prod.fst = rs.map (fun r => Sum.inr r.1) ∧ RpL K mg w H (rs.map Prod.snd) (kvs.map Prod.snd)
  | [], vs, rs, r, h => by
    unfold RpL at r
    simp only [rowsOf] at h
    cases h
    exact ⟨[], [], r, .nil, rfl, RpL.nil⟩
  | d :: ds, vs, rs, r, h => by
    unfold rowsOf at h
    split at h
    · rename_i e; cases e
    · rename_i x d' r' e
      cases e
      obtain ⟨rs', h1, h2⟩ := Option.map_eq_some_iff.mp h
      unfold RpL at r
      obtain ⟨v, vs', e1, r1, r2⟩ := r
      obtain ⟨ps, kvs, e2, p2, e3, r3⟩ := rows_at r2 h1
      obtain ⟨a, xs, e4, t4, q4⟩ := tup_at r1
      unfold RpL at q4
      obtain ⟨v1, xs1, e5, r5, q5⟩ := q4
      obtain ⟨v2, e6, r6⟩ := q5.one_inv
      rw [e5, e6, rp_str r5] at t4
      refine ⟨a :: ps, (Sum.inr x, v2) :: kvs, by rw [e1, e4, e2]; rfl, .cons t4 p2, by rw [← h2]; simp [e3], ?_⟩
      rw [← h2]
      exact RpL.cons r6 r3
    · cases h
theorem dict_v : CallV K mg (fun xs H Q => ∃ (a : Addr) (ps : List Addr) (kvs : List (Key × V)), xs = [.ref a] ∧ SqL K H a (ps.map V.ref) ∧ Paired (fun p kv => SqT K H p [kV kv.1, kv.2]) ps kvs ∧ ∀ p, H p = none → Q (.ref p) (upd H p (.dK (mergeK [] kvs)))) gDict := by
  intro w S H xs ds Q E s r h
  unfold gDict at h
  split at h
  · rename_i d S'
    split at h
    · rename_i es he
      split at h
      · rename_i rs hr
        split at h
        · rename_i nd
          obtain ⟨v, rfl, r1⟩ := r.one_inv
          obtain ⟨a, vs, ev, sq, rl⟩ := seqL_at s r1 he
          obtain ⟨ps, kvs, e2, p2, e3, r3⟩ := rows_at rl hr
          rw [e2] at sq
          refine ⟨a, ps, kvs, by rw [ev], sq, p2, fun p np => ?_⟩
          have nd2 : (kvs.map Prod.fst).Nodup := by
            rw [e3]
            have : (rs.map fun r => (Sum.inr r.1 : Key)) = (rs.map Prod.fst).map Sum.inr := by rw [List.map_map]; rfl
            rw [this]
            exact List.Pairwise.map _ (fun a b hab => fun e => hab (Sum.inr.inj e)) nd
          rw [merge_new kvs [] nd2 (by simp), List.nil_append]
          have ez : kvs = (rs.map fun r => (Sum.inr r.1 : Key)).zip (kvs.map Prod.snd) := by
            rw [← e3]
            exact (List.zip_of_prod rfl rfl)
          have ll : (rs.map fun r => (Sum.inr r.1 : Key)).length = (kvs.map Prod.snd).length := by
            rw [← e3, List.length_map, List.length_map]
          rw [ez]
          have ez2 : ((rs.map fun r => (Sum.inr r.1 : Key)).zip (kvs.map Prod.snd)) = ((rs.map fun r => (Sum.inr r.1 : Key)).zip (kvs.map Prod.snd)) := rfl
          refine h w _ _ (Ext.new np) (s.beside np) ?_
          show Rp _ _ _ _ _ _
          unfold Rp
          exact ⟨p, kvs.map Prod.snd, rfl, upd_same, s.new np, ll, RpL.ext (Ext.new np) _ _ r3⟩
        · exact h.elim
      · exact h.elim
    · exact h.elim
  · exact h.elim
end
end Kw

/-! Kw29: xs.insert(i, y). -/
namespace Kw
open PySem PySem.Spec PyProof.Rows L2
def gIns (x : D) (ds : List D) (S : Store) : RE D := match x, ds with
  | .loc n, [.int i, y] => (match cellM S n with
    | some xs => if xs.length < sizeLine ∧ 0 ≤ i ∧ i < 2 ^ 63 then .ok .non (S.set n (.lst (xs.take i.toNat ++ [y] ++ xs.drop i.toNat))) else .no
    | none => .no)
  | _, _ => .no
theorem ins_v {K : PySem.W.Frag} {mg : Str → Option Value} : MtV K mg (fun x vs H Q => ∃ (l : Addr) (xs : List V) (i : Int) (y : V), x = .ref l ∧ vs = [.int i, y] ∧ H l = some (.lst xs) ∧ xs.length < sizeLine ∧ 0 ≤ i ∧ i < 2 ^ 63 ∧
    Q .non (upd H l (.lst (xs.take i.toNat ++ [y] ++ xs.drop i.toNat)))) gIns := by
  intro w S H x xs d ds Q E s r1 r2 h
  unfold gIns at h
  split at h
  · rename_i n i y
    split at h
    · rename_i zs hz
      split at h
      · rename_i hk
        unfold RpL at r2
        obtain ⟨v, vs, ev, rv, r3⟩ := r2
        obtain ⟨u, rfl, ru⟩ := r3.one_inv
        have e1 := rp_int rv
        obtain ⟨l, us, e2, t1, q1⟩ := seqM_at (S := S) (d := .loc n) s r1 hz
        have hl := q1.length
        refine ⟨l, us, i, u, e2, by rw [ev, e1], t1, by omega, hk.2.1, hk.2.2, ?_⟩
        exact wrote s r1 hz (((q1.take i.toNat).append (RpL.one ru)).append (q1.drop i.toNat)) rp_n h l e2
      · exact h.elim
    · exact h.elim
  · exact h.elim
section
variable {S : Store} {n : Nat} {xs : List D} {y : D}
theorem gIns_loc {i : Nat} (h : cellM S n = some xs) (hl : xs.length < sizeLine) (hi : i ≤ 1000000) : gIns (.loc n) [.int (i : Int), y] S = .ok .non (S.set n (.lst (xs.take i ++ [y] ++ xs.drop i))) := by
  have h2 : (0 : Int) ≤ (i : Int) ∧ ((i : Int) < 2 ^ 63) := ⟨by omega, by
    have : (2 : Int) ^ 63 = 9223372036854775808 := by decide
    rw [this]; omega⟩
  unfold gIns
  simp only [h]
  rw [if_pos ⟨hl, h2.1, h2.2⟩, Int.toNat_natCast]
end
end Kw

/-! Kw30: except clauses that name two classes. -/
namespace Kw
open PySem PySem.Spec PyProof.Rows L2
/-- a tuple more on the heap -/
theorem flying_push {B g : Heap} {l : List Env} {a : Addr} {Z : Obj → Prop} (o : Obj) (fl : HandSPX.FlyingZ B l a Z g) : HandSPX.FlyingZ B l a Z (g.push o) := by
  obtain ⟨f1, f2, f3, oe, vs, T, oT, ts, he, hz, hd, h1, hnT, hTe, hT, hdT, h3⟩ := fl
  exact ⟨fun b o e => Heap.get?_push_of_some _ (f1 b o e), f2, f3.of_keeps fun b o e _ => ⟨o, Heap.get?_push_of_some _ e, rfl⟩, oe, vs, T, oT, ts, Heap.get?_push_of_some _ he, hz, hd, h1, hnT, hTe, Heap.get?_push_of_some _ hT, hdT, h3⟩
abbrev Cl2 := List Value × Option Nat × (Addr → Value → Option Addr → TS)
def wCls2 (K : PySem.W.Frag) (Wout : WX) (D : Ends) : List Cl2 → WX
  | [] => Wout
  | (cs, o, ts) :: r => fun cls d σ H => ∃ b, PySem.W.exmAny K cls cs = some b ∧ (b = true → ∀ a, H a = none → hit o (ts a cls d) D a σ H) ∧ (b = false → wCls2 K Wout D r cls d σ H)
inductive ClsOk2 (X : Cx) : List ExceptHandler → List Cl2 → Prop
  | nil : ClsOk2 X [] []
  | plain {x : Str} {c : Value} {ts : Addr → Value → Option Addr → TS} {b₀ : Stmt} {su : List Stmt} {np q : Pos} {hds : List ExceptHandler} {l : List Cl2} (nm : Names X x c) (k : SuOk X (b₀ :: su) ts) (r : ClsOk2 X hds l) :
      ClsOk2 X (.ExceptHandler (some (.Name x np)) none (b₀ :: su) q :: hds) (([c], none, ts) :: l)
  | two {x y : Str} {c d : Value} {ts : Addr → Value → Option Addr → TS} {b₀ : Stmt} {su : List Stmt} {np np2 tp q : Pos} {kk : Nat} {hds : List ExceptHandler} {l : List Cl2} (nm : Names X x c) (nm2 : Names X y d) (k : SuOk X (b₀ :: su) ts) (r : ClsOk2 X hds l) :
      ClsOk2 X (.ExceptHandler (some (.Tuple [.Name x np, .Name y np2] kk tp)) none (b₀ :: su) q :: hds) (([c, d], none, ts) :: l)
section
variable {X : Cx} {body : List Stmt} {h₀ : ExceptHandler} {hds : List ExceptHandler} {l : List Cl2} {pos : Pos} {tb : WX → TS} {Wout : WX}
theorem try_cls2 (stk : X.stack = X.env :: X.outer) (frm : X.env.frame = some X.env.locals) (hN : X.N.Nodup) (tk : Takes X Wout)
    (hb : ∀ (W' : WX) (pn : List (Addr × Obj)) (xe : Value → Shared → Prop), Takes (X.tr pn xe) W' → PassesOwn (model X.prog X.w) X.A X.env xe → PSs (X.tr pn xe) body (tb W'))
    (hh : ClsOk2 X (h₀ :: hds) l) : PS X (.Try body (h₀ :: hds) [] [] pos) (fun D σ H => tb (wCls2 X.K Wout D l) D σ H) := by
  refine ⟨fun pins s σ H D I pre => ?_⟩
  have ok := I.ok
  have frs0 : X.A.frames = some (X.env :: X.outer) := ok.frames.trans (congrArg some stk)
  let XE0 : Value → Shared → Prop := fun e s₁ => wpAny (model X.prog X.w) X.A (noteFrame e X.env) (fun _ s₂ => wpAny (model X.prog X.w) X.A (setFlight e none) (fun _ s₃ => wpAny (model X.prog X.w) X.A (handleBy e X.env (h₀ :: hds)) (SP X pins D) X.xe s₃) X.xe s₂) X.xe s₁
  have caught : Takes (X.tr (X.pn ++ pins) XE0) (wCls2 X.K Wout D l) := by
    rintro u s' ⟨a, B, sI, pins', σ', H', cls, d, rfl, J', nb, up, sky, na, os, ag, w⟩
    have J : Inv X pins σ' H' sI := J'.ofTry ok
    have sky' : Sky B (X.env :: X.outer) a (Zc cls d) X.env.locals s'.heap := stk ▸ sky
    show wpAny (model X.prog X.w) X.A (noteFrame (.ref a) X.env) _ _ _
    refine Sky.land Zc.steady frs0 frm sky' fun g3 fl3 u3 => ?_
    have u3 := up.trans u3
    have away : ∀ (g : Heap) (o : Obj) (vs : Array Value), g.FunFrames B (X.env :: X.outer) → g.get? a = some o → o.data = .fields vs → a ∉ frs (X.env :: X.outer) ∧ a ≠ X.env.locals ∧ a ∉ X.fs := by
      intro g o vs ff at_ dd
      have n0 : a ∉ frs (X.env :: X.outer) := by
        intro hm
        obtain ⟨_, o', at', nd⟩ := ff.mem hm
        cases at_.symm.trans at'
        exact nd _ dd
      refine ⟨n0, ?_, ?_⟩
      · rintro rfl
        exact n0 (List.mem_filterMap.mpr ⟨X.env, List.mem_cons_self, frm⟩)
      · intro hm
        obtain ⟨e, he, q⟩ := List.mem_filterMap.mp hm
        exact n0 (List.mem_filterMap.mpr ⟨e, .tail _ he, q⟩)
    have go : ∀ {hs' : List ExceptHandler} {l' : List Cl2}, ClsOk2 X hs' l' → ∀ g3 : Heap, HandSPX.FlyingZ B (X.env :: X.outer) a (Zc cls d) g3 → sI.heap.UpToSlots g3 → wCls2 X.K Wout D l' cls d σ' H' → wpAny (model X.prog X.w) X.A (handleBy (.ref a) X.env hs') (SP X pins D) X.xe { s' with heap := g3 } := by
      intro hs' l' hk
      induction hk with
      | nil =>
        intro g3 fl3 u3 w
        have J3 : Inv X pins σ' H' { s' with heap := g3 } := J.landed nb fl3.1 u3 os ag
        refine wpAny_handleBy_nil ?_
        obtain ⟨_, _, _, oe, vs, T, oT, ts', he, hz, hd, h1, hr⟩ := id fl3
        unfold PySem.passOn
        refine wpAny_bind (wpAny_field he hd h1 ?_)
        rw [if_neg (by simp)]
        have up4 : wpAny (model X.prog X.w) X.A (setFlight (.ref a) X.env.frame) (fun _ s4 => wpAny (model X.prog X.w) X.A (throw (.ref a) : Sem Flow) (SP X pins D) X.xe s4) X.xe { s' with heap := g3 } := by
          rw [frm]
          exact HandSPX.setFlight_upZ fl3 fun g4 hg4 u4 => wpAny_throw (tk _ _ ⟨a, B, sI, pins, σ', H', cls, d, rfl, J, nb, u3.trans u4, .inr (.inr (stk.symm ▸ hg4)), na, os, ag, w⟩)
        first
          | exact wpAny_bind (wpAny_pure (wpAny_bind up4))
          | exact wpAny_bind up4
      | @plain x c ts b₀ su np q hds2 l2 nm k r ih =>
        intro g3 fl3 u3
        rintro ⟨b, hb1, yes, no⟩
        have J3 : Inv X pins σ' H' { s' with heap := g3 } := J.landed nb fl3.1 u3 os ag
        obtain ⟨o3, v3, at3, z3, d3⟩ := fl3.there
        obtain ⟨n0, n1, n2⟩ := away g3 o3 v3 fl3.2.2.1 at3 d3
        have S3 := J3.suite at3 d3 na n1 n2
        have LT : PySem.W.Looks (model X.prog X.w) g3 (typeOf (.ref a)) cls := fun A Q E s k q => wpAny_typeOf_ref (k _ _ at3) (z3.1.symm ▸ q)
        have ask : ∀ {x : Str} {c : Value} {np : Pos}, Names X x c → ∀ {Q E : Value → Shared → Prop}, Q c { s' with heap := g3 } → wpAny (model X.prog X.w) (X.A.mark (some (.ref a))) (eval (.Name x np) X.env) (fun v s => Q v s) E { s' with heap := g3 } := by
          rintro x c np ⟨hg, hdb, hm | ⟨hm, hv, hnn⟩⟩ Q E q
          · exact ld_glob (X := X.suite a ((a, o3) :: (X.pn ++ pins))) S3 hg hm q hdb
          · exact ld_blt (X := X.suite a ((a, o3) :: (X.pn ++ pins))) S3 hg hm hv q hnn hdb
        obtain ⟨b', d', hb2, hb3, hbe⟩ := PySem.W.exmAny_cons hb1
        have hb4 : some false = some d' := hb3
        cases hb4
        rw [Bool.or_false] at hbe
        subst hbe
        refine wpAny_handleBy_cons (codeAny_handlers_test ?_) (by intro z; cases z)
        refine ask nm ((PySem.W.exm_one (M := model X.prog X.w) J3.kIn LT hb2).here ?_)
        cases b with
        | false => exact ih g3 fl3 u3 (no rfl)
        | true =>
          refine codeAny_handlers_suite (HandSPX.lands_againZ fl3 fun g4 fl4 u4 => ?_)
          have J4 : Inv X pins σ' H' { s' with heap := g4 } := J.landed nb fl4.1 (u3.trans u4) os ag
          obtain ⟨o4, v4, at4, z4, d4⟩ := fl4.there
          obtain ⟨m0, m1, m2⟩ := away g4 o4 v4 fl4.2.2.1 at4 d4
          have S4 := J4.suite at4 d4 na m1 m2
          refine wpAny_mono ((k a o4 cls d (X.pn ++ pins) z4 ⟨_, d4⟩).run [] _ _ H' _ S4 (yes rfl a na)) (fun f s6 hsp => ?_) (fun _ _ z => False.elim z)
          cases f with
          | ret u => obtain ⟨v6, σ6, H6, S6, r6, q6⟩ := hsp; exact ⟨_, _, _, S6.unsuite ok, r6, q6⟩
          | _ => obtain ⟨σ6, H6, S6, q6⟩ := hsp; exact ⟨_, _, S6.unsuite ok, q6⟩
      | @two x y c d2 ts b₀ su np np2 tp q kk hds2 l2 nm nm2 k r ih =>
        intro g3 fl3 u3
        rintro ⟨b, hb1, yes, no⟩
        have J3 : Inv X pins σ' H' { s' with heap := g3 } := J.landed nb fl3.1 u3 os ag
        obtain ⟨o3, v3, at3, z3, d3⟩ := fl3.there
        obtain ⟨n0, n1, n2⟩ := away g3 o3 v3 fl3.2.2.1 at3 d3
        have S3 := J3.suite at3 d3 na n1 n2
        have LT : PySem.W.Looks (model X.prog X.w) g3 (typeOf (.ref a)) cls := fun A Q E s k q => wpAny_typeOf_ref (k _ _ at3) (z3.1.symm ▸ q)
        have ask : ∀ {x : Str} {c : Value} {np : Pos}, Names X x c → ∀ {Q E : Value → Shared → Prop}, Q c { s' with heap := g3 } → wpAny (model X.prog X.w) (X.A.mark (some (.ref a))) (eval (.Name x np) X.env) (fun v s => Q v s) E { s' with heap := g3 } := by
          rintro x c np ⟨hg, hdb, hm | ⟨hm, hv, hnn⟩⟩ Q E q
          · exact ld_glob (X := X.suite a ((a, o3) :: (X.pn ++ pins))) S3 hg hm q hdb
          · exact ld_blt (X := X.suite a ((a, o3) :: (X.pn ++ pins))) S3 hg hm hv q hnn hdb
        refine wpAny_handleBy_cons (codeAny_handlers_test ?_) (by intro z; cases z)
        refine wpAny_Tuple ?_
        refine wpAny_items_cons (ask nm ?_)
        refine wpAny_items_cons (ask nm2 ?_)
        refine wpAny_items_nil ⟨by size_fits, ?_⟩
        have kp : ∀ q o, g3.get? q = some o → (g3.push { cls := .type "tuple", data := .seq [c, d2].toArray }).get? q = some o := fun _ _ z => Heap.get?_push_of_some _ z
        have flp := flying_push { cls := .type "tuple", data := .seq [c, d2].toArray } fl3
        have u5 : sI.heap.UpToSlots (g3.push { cls := .type "tuple", data := .seq [c, d2].toArray }) := u3.trans (Heap.UpToSlots.of_keeps kp)
        have J5 : Inv X pins σ' H' { s' with heap := g3.push { cls := .type "tuple", data := .seq [c, d2].toArray } } := J.landed nb flp.1 u5 os ag
        refine (PySem.W.exm_tup2 J5.kIn (LT.keeps kp) (Heap.get?_push_size g3 rfl) hb1).here ?_
        cases b with
        | false => exact ih _ flp u5 (no rfl)
        | true =>
          refine codeAny_handlers_suite (HandSPX.lands_againZ flp fun g4 fl4 u4 => ?_)
          have J4 : Inv X pins σ' H' { s' with heap := g4 } := J.landed nb fl4.1 (u5.trans u4) os ag
          obtain ⟨o4, v4, at4, z4, d4⟩ := fl4.there
          obtain ⟨m0, m1, m2⟩ := away g4 o4 v4 fl4.2.2.1 at4 d4
          have S4 := J4.suite at4 d4 na m1 m2
          refine wpAny_mono ((k a o4 cls d (X.pn ++ pins) z4 ⟨_, d4⟩).run [] _ _ H' _ S4 (yes rfl a na)) (fun f s6 hsp => ?_) (fun _ _ z => False.elim z)
          cases f with
          | ret u => obtain ⟨v6, σ6, H6, S6, r6, q6⟩ := hsp; exact ⟨_, _, _, S6.unsuite ok, r6, q6⟩
          | _ => obtain ⟨σ6, H6, S6, q6⟩ := hsp; exact ⟨_, _, S6.unsuite ok, q6⟩
    exact go hh g3 fl3 u3 w
  refine wpAny_Try_except (wpAny_mono ((hb _ (X.pn ++ pins) XE0 caught PassesOwn.looking).run [] s σ H D (I.toTry _) pre) (fun f s1 hsp => ?_) (fun e s1 he => he))
  cases f with
  | next => obtain ⟨σ', H', J', q⟩ := hsp; exact wpAny_execs_nil ⟨σ', H', J'.ofTry ok, q⟩
  | ret u => obtain ⟨v, σ', H', J', r, q⟩ := hsp; exact ⟨v, σ', H', J'.ofTry ok, r, q⟩
  | _ => obtain ⟨σ', H', J', q⟩ := hsp; exact ⟨σ', H', J'.ofTry ok, q⟩
end
/-! ### over trees -/
inductive ClsF2 (X : Cx) (es : List Str) : List ExceptHandler → List ClF → Prop
  | nil : ClsF2 X es [] []
  | plain {x : Str} {sub : Str → Bool} {c : Str → Addr → FS} {b₀ : Stmt} {su : List Stmt} {np q : Pos} {hds : List ExceptHandler} {l : List ClF} (h : CatF X.K X.mg es x sub) (hg : Gl X x) (k : SuF X es (b₀ :: su) c) (r : ClsF2 X es hds l) (hd : (x == ("__debug__" : Str)) = false := by decide) :
      ClsF2 X es (.ExceptHandler (some (.Name x np)) none (b₀ :: su) q :: hds) ((sub, none, c) :: l)
  | two {x y : Str} {sub sub2 : Str → Bool} {c : Str → Addr → FS} {b₀ : Stmt} {su : List Stmt} {np np2 tp q : Pos} {kk : Nat} {hds : List ExceptHandler} {l : List ClF} (h : CatF X.K X.mg es x sub) (h2 : CatF X.K X.mg es y sub2) (hg : Gl X x) (hg2 : Gl X y) (k : SuF X es (b₀ :: su) c) (r : ClsF2 X es hds l) (hd : (x == ("__debug__" : Str)) = false := by decide) (hd2 : (y == ("__debug__" : Str)) = false := by decide) :
      ClsF2 X es (.ExceptHandler (some (.Tuple [.Name x np, .Name y np2] kk tp)) none (b₀ :: su) q :: hds) ((fun z => sub z || sub2 z, none, c) :: l)
section
variable {X : Cx} {W : WX} {es : List Str}
theorem exmAny_one {K : PySem.W.Frag} {cls c : Value} {b : Bool} (h : PySem.W.exmOne K cls c = some b) : PySem.W.exmAny K cls [c] = some b := by
  simp [PySem.W.exmAny, h]
theorem exmAny_two {K : PySem.W.Frag} {cls c d : Value} {b b2 : Bool} (h : PySem.W.exmOne K cls c = some b) (h2 : PySem.W.exmOne K cls d = some b2) : PySem.W.exmAny K cls [c, d] = some (b || b2) := by
  simp [PySem.W.exmAny, h, h2]
theorem ClsF2.go {hds : List ExceptHandler} {cs : List ClF} (h : ClsF2 X es hds cs) (hk : ∀ y ∈ es, ExcK X.K X.mg y) : ∃ l, ClsOk2 X hds l ∧ ∀ (D : Ends) (w : Wd) (x : Ex) (ρ : FEnv) (S : Store) (σ : L2.St) (H : Hp) (cy : Value) (od : Option Addr), x.cls ∈ es → x.ns = [] → Sto X.K X.mg w S H → EnvR X.K X.mg w H ρ σ → ExR X.K X.mg w H x cy od →
    EndS X.K X.mg w H (clsR x ρ S cs) D W → wCls2 X.K W D l cy od σ H := by
  have ex0 : ∀ {w : Wd} {H : Hp} {x : Ex} {cy : Value} {od : Option Addr}, x.cls ∈ es → x.ns = [] → ExR X.K X.mg w H x cy od → ∃ C, X.mg x.cls = some (.ref C) ∧ cy = .ref C ∧ od = none := by
    intro w H x cy od hx hn ex
    obtain ⟨gy, hr⟩ := ex
    obtain ⟨C, gC, _⟩ := hk _ hx
    cases gC.symm.trans gy
    refine ⟨C, gC, rfl, ?_⟩
    rcases hr with ⟨_, _, z⟩ | ⟨d, vs, z, _⟩
    · exact z
    · exact absurd hn z
  have yes : ∀ {sub : Str → Bool} {c : Str → Addr → FS} {l : List ClF} {D : Ends} {w : Wd} {x : Ex} {ρ : FEnv} {S : Store} {σ : L2.St} {H : Hp} {C : Addr}, x.cls ∈ es → X.mg x.cls = some (.ref C) → Sto X.K X.mg w S H → EnvR X.K X.mg w H ρ σ → EndS X.K X.mg w H (clsR x ρ S ((sub, none, c) :: l)) D W → sub x.cls = true → ∀ a, H a = none → hit none (tsOf X es c a (.ref C) none) D a σ H := by
    intro sub c l D w x ρ S σ H C hx gC s en h hs a na
    have h2 : EndS X.K X.mg w H (aInd (clRun none (c x.cls) ρ S)) D W := by
      have h' := h
      unfold clsR at h'
      rw [if_pos hs] at h'
      exact h'
    by_cases hno : aInd (clRun none (c x.cls) ρ S) = .no
    · rw [hno] at h2; exact h2.elim
    · rw [← aInd_at a rfl hno] at h2
      exact ⟨x.cls, C, hx, gC, rfl, rfl, w, ρ, S, s, en, h2.nox⟩
  have noo : ∀ {sub : Str → Bool} {c : Str → Addr → FS} {l : List ClF} {D : Ends} {w : Wd} {x : Ex} {ρ : FEnv} {S : Store} {H : Hp}, EndS X.K X.mg w H (clsR x ρ S ((sub, none, c) :: l)) D W → sub x.cls = false → EndS X.K X.mg w H (clsR x ρ S l) D W := by
    intro sub c l D w x ρ S H h hs
    have h' := h
    unfold clsR at h'
    rw [if_neg (by rw [hs]; decide)] at h'
    exact h'
  induction h with
  | nil =>
    refine ⟨[], .nil, fun D w x ρ S σ H cy od hx hn s en ex h => ?_⟩
    exact h w H σ cy od Ext.refl s en ex
  | @plain x sub c b₀ su np q hds l hc hg k r hd ih =>
    obtain ⟨cv, nm, hx1⟩ := hc.names hg hd
    obtain ⟨l', ok', go'⟩ := ih
    refine ⟨([cv], none, tsOf X es c) :: l', .plain nm k.su ok', fun D w x ρ S σ H cy od hx hn s en ex h => ?_⟩
    obtain ⟨C, gC, rfl, rfl⟩ := ex0 hx hn ex
    exact ⟨sub x.cls, exmAny_one (hx1 _ hx _ gC), fun hs a na => yes hx gC s en h hs a na, fun hs => go' D w x ρ S σ H _ _ hx hn s en ex (noo h hs)⟩
  | @two x y sub sub2 c b₀ su np np2 tp q kk hds l hc hc2 hg hg2 k r hd hd2 ih =>
    obtain ⟨cv, nm, hx1⟩ := hc.names hg hd
    obtain ⟨cv2, nm2, hx2⟩ := hc2.names hg2 hd2
    obtain ⟨l', ok', go'⟩ := ih
    refine ⟨([cv, cv2], none, tsOf X es c) :: l', .two nm nm2 k.su ok', fun D w x ρ S σ H cy od hx hn s en ex h => ?_⟩
    obtain ⟨C, gC, rfl, rfl⟩ := ex0 hx hn ex
    exact ⟨sub x.cls || sub2 x.cls, exmAny_two (hx1 _ hx _ gC) (hx2 _ hx _ gC), fun hs a na => yes hx gC s en h hs a na, fun hs => go' D w x ρ S σ H _ _ hx hn s en ex (noo h hs)⟩
theorem q_tryC2 {body : List Stmt} {h₀ : ExceptHandler} {hds : List ExceptHandler} {cs : List ClF} {pos : Pos} {fb : FS} (stk : X.stack = X.env :: X.outer) (frm : X.env.frame = some X.env.locals) (hN : X.N.Nodup) (tk : Takes X W) (hk : ∀ y ∈ es, ExcK X.K X.mg y)
    (hb : ∀ (W' : WX) (pn : List (Addr × Obj)) (xe : Value → Shared → Prop), Takes (X.tr pn xe) W' → PassesOwn (model X.prog X.w) X.A X.env xe → PSs (X.tr pn xe) body (tS (X.tr pn xe) W' fb))
    (hc : ClsF2 X es (h₀ :: hds) cs) : PS X (.Try body (h₀ :: hds) [] [] pos) (tS X W (sTryC es cs fb)) := by
  obtain ⟨l, okl, go⟩ := hc.go (W := W) hk
  refine PS.wk (try_cls2 (tb := fun W' => tS X W' fb) stk frm hN tk (fun W' pn xe t o => hb W' pn xe t o) okl) fun D σ H ⟨w, ρ, S, s, en, h⟩ => ?_
  refine ⟨w, ρ, S, s, en, ?_⟩
  unfold sTryC at h
  cases hbb : fb ρ S with
  | ex y ρ' S' =>
    rw [hbb] at h
    simp only at h
    split at h
    · rename_i hm
      intro w' H' σ' cy od e s' en' ex
      exact go D w' y ρ' S' σ' H' cy od hm.1 hm.2 s' en' ex (h.on e)
    · exact h.elim
  | _ => rw [hbb] at h; exact h
end
end Kw

/-! Kw31: an exception that is made and kept; isinstance of it. -/
namespace Kw
open PySem PySem.Spec PyProof.Rows L2
def gExo (c : Str) (x : D) (S : Store) : RE D := .ok (.exo c [] []) S
/-- the classes that may come; those that are of the one asked for -/
def gIsO (ys : List Str) (sub : Str → Bool) (x : D) (S : Store) : RE D := match x with
  | .exo c ns _ => if c ∈ ys ∧ ns = [] then .ok (.bl (sub c)) S else .no
  | _ => .no
def rIsO (K : PySem.W.Frag) : List V → Hp → VK → Prop := fun xs H Q => ∃ (a C : Addr) (c : V) (cv : Value) (b : Bool), xs = [.ref a, c] ∧ H a = some (ExOd (.ref C) none a) ∧ ExcC K C ∧ (∀ u, RelV c u → u = cv) ∧ PySem.W.kitOne K (.ref C) cv = some b ∧ Q (.bl b) H
theorem inst_exo {h : Heap} {a C : Addr} {oe : Obj} {vs : Array Value} (hg : h.get? a = some oe) (hz : Zc (.ref C) none oe) (hv : oe.data = .fields vs) : PySem.W.InstAt h a oe C none := by
  obtain ⟨oc, od, oda, osl⟩ := oe
  obtain ⟨h1, h2⟩ := hz
  dsimp only at h1 h2 hv
  subst h1 h2 hv
  exact ⟨hg, rfl, rfl, trivial⟩
theorem call_isO {X : Cx} : CallR X (.builtin "isinstance") (rIsO X.K) := by
  intro pins s σ H xs us Q I r h
  obtain ⟨a, C, c, cv, b, rfl, ha, F, hcv, e, q⟩ := h
  obtain ⟨u1, u2, rfl, r1, r2⟩ := vals2 r
  cases (show u1 = Value.ref a from r1)
  have ec := hcv _ r2
  subst ec
  obtain ⟨⟨oe, vs, hg, hz, hv, _⟩, _, _⟩ := I.hok a _ ha
  exact PySem.W.kia_one (PySem.W.handS_kitx_exc F.hg F.hk F.hs F.hd F.ha F.hn F.ht F.hm) I.kIn (inst_exo hg hz hv) e (fun z => nomatch z) fun tk => ⟨.bl b, H, I.kept (t' := tk) fun _ _ z => z, rfl, q⟩
def rIsOT (K : PySem.W.Frag) : List V → Hp → VK → Prop := fun xs H Q => ∃ (a C tp : Addr) (cs : List V) (us : List Value) (b : Bool), xs = [.ref a, .ref tp] ∧ H a = some (ExOd (.ref C) none a) ∧ ExcC K C ∧ H tp = some (.tup cs) ∧ Paired ClsV cs us ∧ PySem.W.kitAny K (.ref C) us = some b ∧ Q (.bl b) H
theorem call_isOT {X : Cx} : CallR X (.builtin "isinstance") (rIsOT X.K) := by
  intro pins s σ H xs us Q I r h
  obtain ⟨a, C, tp, cs, ws, b, rfl, ha, F, hT, k, e, q⟩ := h
  obtain ⟨u1, u2, rfl, r1, r2⟩ := vals2 r
  cases (show u2 = Value.ref tp from r2)
  cases (show u1 = Value.ref a from r1)
  obtain ⟨⟨oe, vs, hg, hz, hv, _⟩, _, _⟩ := I.hok a _ ha
  obtain ⟨_, its, rv, o, h1, h2, n, h3⟩ := (show ObjOk X.prog X.w H s.heap tp (.tup cs) from I.hok tp _ hT)
  have e3 := ClsV.all k rv
  subst e3
  obtain ⟨oc, od, dt, sl⟩ := o
  dsimp only at h2 h3
  subst h2 h3
  exact PySem.W.kia_tup (PySem.W.handS_kitx_exc F.hg F.hk F.hs F.hd F.ha F.hn F.ht F.hm) I.kIn (inst_exo hg hz hv) h1 e (fun z => nomatch z) fun tk => ⟨.bl b, H, I.kept (t' := tk) fun _ _ z => z, rfl, q⟩
/-- classes that are asked for, by their names -/
inductive IsL (X : Cx) (ys : List Str) : List Expr → (Str → Bool) → Prop
  | nil : IsL X ys [] fun _ => false
  | cons {x : Str} {p : Pos} {es : List Expr} {sub sub2 : Str → Bool} (hg : Gl X x) (h : ∀ y ∈ ys, IsxO X.K X.mg y x (sub y)) (t : IsL X ys es sub2) (hd : (x == ("__debug__" : Str)) = false := by decide)
      (hs : starEach (.Name x p :: es) X.env = (false, eval (.Name x p) X.env) :: starEach es X.env := by rfl) : IsL X ys (.Name x p :: es) fun y => sub y || sub2 y
theorem IsL.get {X : Cx} {ys : List Str} {es : List Expr} {sub : Str → Bool} (h : IsL X ys es sub) (hne : ys ≠ []) : ∃ Bs : List Addr, es.length = Bs.length ∧ PA X es (fun _ H Q => Q (Bs.map V.ref) H) ∧ Paired ClsV (Bs.map V.ref) (Bs.map Value.ref) ∧ ∀ y ∈ ys, ∀ C, X.mg y = some (.ref C) → PySem.W.kitAny X.K (.ref C) (Bs.map Value.ref) = some (sub y) := by
  induction h with
  | nil => exact ⟨[], rfl, pa_nil, .nil, fun _ _ _ _ => rfl⟩
  | @cons x p es sub sub2 hg h t hd hs ih =>
    obtain ⟨Bs, l, pa, pr, k⟩ := ih
    obtain ⟨y0, hy0⟩ := List.exists_mem_of_ne_nil ys hne
    obtain ⟨C0, B, _, mB, _⟩ := h y0 hy0
    have n1 : PE X (.Name x p) (tC (.ref B)) := pe_glob hg mB rfl hd
    refine ⟨B :: Bs, by simp [l], pa_cons n1 pa hs, .cons (.own B) pr, fun y hy C hC => ?_⟩
    obtain ⟨C1, B1, m1, m2, e⟩ := h y hy
    cases hC.symm.trans m1
    cases mB.symm.trans m2
    have := k y hy C hC
    show PySem.W.kitAny X.K (.ref C) (.ref B :: Bs.map Value.ref) = _
    unfold PySem.W.kitAny
    rw [e]
    cases hs2 : sub y with
    | true => simp [hs2]
    | false => simpa [hs2] using this
section
variable {X : Cx} {W : WX} {o e : Expr} {fe : FE} {c x : Str} {ys : List Str} {sub : Str → Bool} {p q pos tpos : Pos} {kk : Nat}
theorem q_exo (h : ExcF X.K X.mg c) (hg : Gl X c) (he : PE X e (tF X W fe)) (hs : starEach [e] X.env = (false, eval e X.env) :: starEach [] X.env := by rfl) (hdb : (c == ("__debug__" : Str)) = false := by decide) :
    PE X (.Call (.Name c p) [e] [] pos) (tF X W (f1 (gExo c) fe)) := by
  obtain ⟨C, gC, xC, kC, bC, tC⟩ := h
  refine PE.wk (pe_exc1 PySem.F.excBase_ValueError xC gC kC hg he hs hdb) fun σ H Q ⟨w, ρ, S, s, en, h⟩ => ?_
  refine ⟨w, ρ, S, s, en, (End.bind (R := fun w H => Rp X.K X.mg w H) h).imp ?_ (fun _ _ _ z => z)⟩
  rintro v H1 ⟨w1, S1, d, e1, s1, r1, h1⟩ a na
  refine h1 w1 _ _ (Ext.new na) (s1.beside na) ?_
  show Rp _ _ _ _ (.exo c [] []) _
  unfold Rp
  exact ⟨a, C, none, [], rfl, gC, upd_same, s1.new na, ⟨fun _ => rfl, fun _ => rfl⟩, (fun d hd => by cases hd), rfl, RpL.nil⟩
theorem exo_at {K : PySem.W.Frag} {mg : Str → Option Value} {w : Wd} {H : Hp} {S : Store} {Q : VK} {E : Value → Option Addr → Hp → Prop} {d : D} {v : V} (r : Rp K mg w H d v) (s : Sto K mg w S H) (h : End K mg (fun w H => Rp K mg w H) w H (gIsO ys sub d S) Q E) : ∃ a C y, v = .ref a ∧ y ∈ ys ∧ mg y = some (.ref C) ∧ H a = some (ExOd (.ref C) none a) ∧ Q (.bl (sub y)) H := by
  cases d <;> simp only [gIsO] at h <;> try exact h.elim
  rename_i c ns ds
  split at h
  · rename_i hh
    unfold Rp at r
    obtain ⟨a, C, od, vs, e1, m, t, n, z, q, l, r⟩ := r
    have := z.mpr hh.2
    subst this
    exact ⟨a, C, c, e1, hh.1, m, t, h.ret s rp_b⟩
  · exact h.elim
theorem q_isO (hk : ∀ y ∈ ys, ExcK X.K X.mg y) (hi : ∀ y ∈ ys, IsxO X.K X.mg y x (sub y)) (hne : ys ≠ []) (hg : Gl X "isinstance") (hm : X.mg "isinstance" = none) (hgx : Gl X x) (ho : PE X o (tF X W fe)) (hd : (x == ("__debug__" : Str)) = false := by decide)
    (h1 : starEach [o, .Name x q] X.env = (false, eval o X.env) :: starEach [.Name x q] X.env := by rfl) (h2 : starEach [.Name x q] X.env = (false, eval (.Name x q) X.env) :: starEach [] X.env := by rfl) (hpl : (backTo pos (starEach [.Name x q] X.env)).any (·.1) = false := by rfl) :
    PE X (.Call (.Name "isinstance" p) [o, .Name x q] [] pos) (tF X W (f1 (gIsO ys sub) fe)) := by
  obtain ⟨y0, hy0⟩ := List.exists_mem_of_ne_nil ys hne
  obtain ⟨C0, B, _, mB, _⟩ := hi y0 hy0
  have n1 : PE X (.Name x q) (tC (.ref B)) := pe_glob hgx mB rfl hd
  refine PE.wk (pe_callB call_isO hg hm (by decide +kernel) (pa_cons ho (pa_cons n1 pa_nil h2) h1) (by decide) (by decide) h1 hpl) fun σ H Q ⟨w, ρ, S, s, en, h⟩ => ?_
  refine ⟨w, ρ, S, s, en, (End.bind (R := fun w H => Rp X.K X.mg w H) h).imp ?_ (fun _ _ _ z => z)⟩
  rintro v H1 ⟨w1, S1, d, e1, s1, r1, h3⟩
  obtain ⟨a, C, y, ev, hy, m, t, qq⟩ := exo_at r1 s1 h3
  obtain ⟨C1, m1, k1⟩ := hk y hy
  obtain ⟨C2, B2, m2, m3, k2⟩ := hi y hy
  cases m.symm.trans m1
  cases m.symm.trans m2
  cases mB.symm.trans m3
  exact ⟨a, C, .ref B, .ref B, sub y, by rw [ev], t, k1, fun u r => r, k2, qq⟩
theorem q_isOT {es : List Expr} (hk : ∀ y ∈ ys, ExcK X.K X.mg y) (hi : IsL X ys es sub) (hne : ys ≠ []) (hl : es.length ≤ sizeLine) (hg : Gl X "isinstance") (hm : X.mg "isinstance" = none) (ho : PE X o (tF X W fe))
    (h1 : starEach [o, .Tuple es kk tpos] X.env = (false, eval o X.env) :: starEach [.Tuple es kk tpos] X.env := by rfl) (h2 : starEach [.Tuple es kk tpos] X.env = (false, eval (.Tuple es kk tpos) X.env) :: starEach [] X.env := by rfl) (hpl : (backTo pos (starEach [.Tuple es kk tpos] X.env)).any (·.1) = false := by rfl) :
    PE X (.Call (.Name "isinstance" p) [o, .Tuple es kk tpos] [] pos) (tF X W (f1 (gIsO ys sub) fe)) := by
  obtain ⟨Bs, lB, pa, pr, kB⟩ := hi.get hne
  have tup := pe_tup (x1 := kk) (pos := tpos) pa
  refine PE.wk (pe_callB call_isOT hg hm (by decide +kernel) (pa_cons ho (pa_cons tup pa_nil h2) h1) (by decide) (by decide) h1 hpl) fun σ H Q ⟨w, ρ, S, s, en, h⟩ => ?_
  refine ⟨w, ρ, S, s, en, (End.bind (R := fun w H => Rp X.K X.mg w H) h).imp ?_ (fun _ _ _ z => z)⟩
  rintro v H1 ⟨w1, S1, d, e1, s1, r1, h3⟩
  refine ⟨by rw [List.length_map, ← lB]; exact hl, fun tp np => ?_⟩
  have h4 := h3.on (Ext.new (o := .tup (Bs.map V.ref)) np)
  obtain ⟨a, C, y, ev, hy, m, t, qq⟩ := exo_at (Rp.ext (Ext.new (o := .tup (Bs.map V.ref)) np) _ _ r1) (s1.beside np) h4
  obtain ⟨C1, m1, k1⟩ := hk y hy
  cases m.symm.trans m1
  exact ⟨a, C, tp, Bs.map V.ref, Bs.map Value.ref, sub y, by rw [ev], t, k1, upd_same, pr, kB y hy C m, qq⟩
end
section
variable {ys : List Str} {sub : Str → Bool} {c : Str} {S : Store}
theorem gIsO_exo (h : c ∈ ys) : gIsO ys sub (.exo c [] []) S = .ok (.bl (sub c)) S := by
  simp [gIsO, h]
end
end Kw

/-! Kw32: max of one list of whole numbers. -/
namespace Kw
open PySem PySem.Spec PyProof.Rows L2
/-- the greatest -/
def mxI : Int → List Int → Int
  | i, [] => i
  | i, j :: js => mxI (if j > i then j else i) js
theorem mxI_ge : ∀ (js : List Int) (i : Int), i ≤ mxI i js
  | [], i => Int.le_refl _
  | j :: js, i => by
    have := mxI_ge js (if j > i then j else i)
    unfold mxI
    split at this <;> rename_i h <;> simp only [h, if_true, if_false] <;> omega
theorem mxI_all : ∀ (js : List Int) (i : Int), ∀ y ∈ js, y ≤ mxI i js
  | j :: js, i, y, h => by
    unfold mxI
    rcases List.mem_cons.mp h with rfl | h
    · have := mxI_ge js (if y > i then y else i)
      split at this <;> rename_i h <;> simp only [h, if_true, if_false] <;> omega
    · exact mxI_all js _ y h
theorem mxI_mem : ∀ (js : List Int) (i : Int), mxI i js = i ∨ mxI i js ∈ js
  | [], i => .inl rfl
  | j :: js, i => by
    unfold mxI
    rcases mxI_mem js (if j > i then j else i) with h | h
    · rw [h]
      split
      · exact .inr List.mem_cons_self
      · exact .inl rfl
    · exact .inr (List.mem_cons_of_mem _ h)
def gMaxL : List D → Store → RE D := fun ds S => match ds with
  | [d] => (match (seqL S d).bind intsOf with
    | some (i :: js) => .ok (.int (mxI i js)) S
    | _ => .no)
  | _ => .no
section
variable {K : PySem.W.Frag} {mg : Str → Option Value}
theorem maxL_v : CallV K mg (rMax K) gMaxL := by
  intro w S H xs ds Q E s r h
  unfold gMaxL at h
  split at h
  · split at h
    · rename_i i js h1
      obtain ⟨v, rfl, r1⟩ := r.one_inv
      simp only [Option.bind_eq_some_iff] at h1
      obtain ⟨ys, h2, h3⟩ := h1
      obtain ⟨a, vs, e1, t1, q1⟩ := seqL_at s r1 h2
      refine ⟨a, i :: js, by rw [e1], by rw [← intsOf_at q1 h3]; exact t1, by simp, fun m hm hy => ?_⟩
      have em : m = mxI i js := by
        have hin : mxI i js ∈ i :: js := by
          rcases mxI_mem js i with e | e
          · rw [e]; exact List.mem_cons_self
          · exact List.mem_cons_of_mem _ e
        have h0 := hy _ hin
        rcases List.mem_cons.mp hm with rfl | hm
        · have := mxI_ge js m; omega
        · have := mxI_all js i m hm; omega
      rw [em]
      exact h.ret s rp_i
    · exact h.elim
  · exact h.elim
end
end Kw

namespace Kz
open PySem PySem.Spec PyProof.Rows L2 Kw
def topS (i : Nat) : Stmt := PySem.Challenge.pw_kindswap_k51_kinds_of_terms.main.body.getD i (.Pass ⟨0, 0, 0, 0⟩)
inductive Fn where
  | f_is_from
  | f_inner_of
  | f_is_kind
  | f_sure_given
  | f_is_shape
  | f_kind_of_given
  | f_kind_of_two
  | f_kind_in
  | f_sure_kind_in
  | f_term_kind
  | f__law_well
  | f__law_draw
  | f__law_kind
  | f__law_ways
  | f__law_flat
  | f__law_lift
  | f__law_kind_of
  | f__law_wrapped
  | f__law_grown
  | f__law_size
  | f__law_height
  | f__law_some
  | f__law_given
  | f__law_good_kind
  | f__law_judged
  | f__law_odd
  | f__law_deep
  | f__law_long
  | f__law_told
  | f__law_due
  | f_law
abbrev s_is_from : Stmt := topS 8
theorem sc_is_from : FnScope ["thing", "low", "high"] ["thing", "low", "high"] (defScope s_is_from) := ⟨rfl, rfl, rfl, by decide +kernel, rfl, by decide +kernel, by decide +kernel⟩
abbrev s_inner_of : Stmt := topS 9
theorem sc_inner_of : FnScope ["thing"] ["thing"] (defScope s_inner_of) := ⟨rfl, rfl, rfl, by decide +kernel, rfl, by decide +kernel, by decide +kernel⟩
abbrev s_is_kind : Stmt := topS 10
theorem sc_is_kind : FnScope ["thing", "left", "inner"] ["thing"] (defScope s_is_kind) := ⟨rfl, rfl, rfl, by decide +kernel, rfl, by decide +kernel, by decide +kernel⟩
abbrev s_sure_given : Stmt := topS 13
theorem sc_sure_given : FnScope ["given", "kind"] ["given"] (defScope s_sure_given) := ⟨rfl, rfl, rfl, by decide +kernel, rfl, by decide +kernel, by decide +kernel⟩
abbrev s_is_shape : Stmt := topS 14
theorem sc_is_shape : FnScope ["thing"] ["thing"] (defScope s_is_shape) := ⟨rfl, rfl, rfl, by decide +kernel, rfl, by decide +kernel, by decide +kernel⟩
abbrev s_kind_of_given : Stmt := topS 15
theorem sc_kind_of_given : FnScope ["k", "given"] ["k", "given"] (defScope s_kind_of_given) := ⟨rfl, rfl, rfl, by decide +kernel, rfl, by decide +kernel, by decide +kernel⟩
abbrev s_kind_of_two : Stmt := topS 16
theorem sc_kind_of_two : FnScope ["word", "one", "other"] ["word", "one", "other"] (defScope s_kind_of_two) := ⟨rfl, rfl, rfl, by decide +kernel, rfl, by decide +kernel, by decide +kernel⟩
abbrev s_kind_in : Stmt := topS 17
theorem sc_kind_in : FnScope ["term", "given", "word", "one", "body"] ["term", "given"] (defScope s_kind_in) := ⟨rfl, rfl, rfl, by decide +kernel, rfl, by decide +kernel, by decide +kernel⟩
abbrev s_sure_kind_in : Stmt := topS 18
theorem sc_sure_kind_in : FnScope ["term", "given", "found"] ["term", "given"] (defScope s_sure_kind_in) := ⟨rfl, rfl, rfl, by decide +kernel, rfl, by decide +kernel, by decide +kernel⟩
abbrev s_term_kind : Stmt := topS 19
theorem sc_term_kind : FnScope ["term", "given"] ["term", "given"] (defScope s_term_kind) := ⟨rfl, rfl, rfl, by decide +kernel, rfl, by decide +kernel, by decide +kernel⟩
abbrev s__law_well : Stmt := topS 21
theorem sc__law_well : FnScope ["_law_cell"] ["_law_cell"] (defScope s__law_well) := ⟨rfl, rfl, rfl, by decide +kernel, rfl, by decide +kernel, by decide +kernel⟩
abbrev s__law_draw : Stmt := topS 22
theorem sc__law_draw : FnScope ["_law_well_here", "_law_width", "_law_low", "_law_digit_told"] ["_law_well_here", "_law_width"] (defScope s__law_draw) := ⟨rfl, rfl, rfl, by decide +kernel, rfl, by decide +kernel, by decide +kernel⟩
abbrev s__law_kind : Stmt := topS 23
theorem sc__law_kind : FnScope ["_law_well_here", "_law_deep_here", "_law_way"] ["_law_well_here", "_law_deep_here"] (defScope s__law_kind) := ⟨rfl, rfl, rfl, by decide +kernel, rfl, by decide +kernel, by decide +kernel⟩
abbrev s__law_ways : Stmt := topS 24
theorem sc__law_ways : FnScope ["_law_kind_here", "_law_n", "_law_first", "_law_way"] ["_law_kind_here", "_law_n"] (defScope s__law_ways) := ⟨rfl, rfl, rfl, by decide +kernel, rfl, by decide +kernel, by decide +kernel⟩
abbrev s__law_flat : Stmt := topS 25
theorem sc__law_flat : FnScope ["_law_well_here", "_law_kind_here", "_law_given_here", "_law_fuel", "_law_ways_here", "_law_k", "_law_way", "_law_term", "_law_step", "_law_pair"] ["_law_well_here", "_law_kind_here", "_law_given_here", "_law_fuel"] (defScope s__law_flat) := ⟨rfl, rfl, rfl, by decide +kernel, rfl, by decide +kernel, by decide +kernel⟩
abbrev s__law_lift : Stmt := topS 26
theorem sc__law_lift : FnScope ["_law_term", "_law_at", "_law_part"] ["_law_term", "_law_at"] (defScope s__law_lift) := ⟨rfl, rfl, rfl, by decide +kernel, rfl, by decide +kernel, by decide +kernel⟩
abbrev s__law_kind_of : Stmt := topS 27
theorem sc__law_kind_of : FnScope ["_law_term", "_law_given_here", "_law_one"] ["_law_term", "_law_given_here"] (defScope s__law_kind_of) := ⟨rfl, rfl, rfl, by decide +kernel, rfl, by decide +kernel, by decide +kernel⟩
abbrev s__law_wrapped : Stmt := topS 28
theorem sc__law_wrapped : FnScope ["_law_well_here", "_law_term", "_law_given_here", "_law_way", "_law_kind_here", "_law_other"] ["_law_well_here", "_law_term", "_law_given_here"] (defScope s__law_wrapped) := ⟨rfl, rfl, rfl, by decide +kernel, rfl, by decide +kernel, by decide +kernel⟩
abbrev s__law_grown : Stmt := topS 29
theorem sc__law_grown : FnScope ["_law_well_here", "_law_term", "_law_given_here", "_law_part"] ["_law_well_here", "_law_term", "_law_given_here"] (defScope s__law_grown) := ⟨rfl, rfl, rfl, by decide +kernel, rfl, by decide +kernel, by decide +kernel⟩
abbrev s__law_size : Stmt := topS 30
theorem sc__law_size : FnScope ["_law_thing", "_law_part"] ["_law_thing"] (defScope s__law_size) := ⟨rfl, rfl, rfl, by decide +kernel, rfl, by decide +kernel, by decide +kernel⟩
abbrev s__law_height : Stmt := topS 31
theorem sc__law_height : FnScope ["_law_thing", "_law_part"] ["_law_thing"] (defScope s__law_height) := ⟨rfl, rfl, rfl, by decide +kernel, rfl, by decide +kernel, by decide +kernel⟩
abbrev s__law_some : Stmt := topS 32
theorem sc__law_some : FnScope ["_law_well_here", "_law_term", "_law_given_here", "_law_most", "_law_more"] ["_law_well_here", "_law_term", "_law_given_here", "_law_most"] (defScope s__law_some) := ⟨rfl, rfl, rfl, by decide +kernel, rfl, by decide +kernel, by decide +kernel⟩
abbrev s__law_given : Stmt := topS 33
theorem sc__law_given : FnScope ["_law_well_here", "_law_more", "_law_turn", "_law_k"] ["_law_well_here"] (defScope s__law_given) := ⟨rfl, rfl, rfl, by decide +kernel, rfl, by decide +kernel, by decide +kernel⟩
abbrev s__law_good_kind : Stmt := topS 34
theorem sc__law_good_kind : FnScope ["_law_thing"] ["_law_thing"] (defScope s__law_good_kind) := ⟨rfl, rfl, rfl, by decide +kernel, rfl, by decide +kernel, by decide +kernel⟩
abbrev s__law_judged : Stmt := topS 35
theorem sc__law_judged : FnScope ["_law_term", "_law_given_here", "_law_one", "_law_other", "_law_body"] ["_law_term", "_law_given_here"] (defScope s__law_judged) := ⟨rfl, rfl, rfl, by decide +kernel, rfl, by decide +kernel, by decide +kernel⟩
abbrev s__law_odd : Stmt := topS 36
theorem sc__law_odd : FnScope ["_law_well_here", "_law_term", "_law_given_here", "_law_way", "_law_inner", "_law_odd_here", "_law_k"] ["_law_well_here", "_law_term", "_law_given_here"] (defScope s__law_odd) := ⟨rfl, rfl, rfl, by decide +kernel, rfl, by decide +kernel, by decide +kernel⟩
abbrev s__law_deep : Stmt := topS 37
theorem sc__law_deep : FnScope ["_law_well_here", "_law_term", "_law_kind_here", "_law_given_here", "_law_k", "_law_way"] ["_law_well_here", "_law_term", "_law_kind_here", "_law_given_here"] (defScope s__law_deep) := ⟨rfl, rfl, rfl, by decide +kernel, rfl, by decide +kernel, by decide +kernel⟩
abbrev s__law_long : Stmt := topS 38
theorem sc__law_long : FnScope ["_law_well_here", "_law_given_here", "_law_term", "_law_k"] ["_law_well_here", "_law_given_here"] (defScope s__law_long) := ⟨rfl, rfl, rfl, by decide +kernel, rfl, by decide +kernel, by decide +kernel⟩
abbrev s__law_told : Stmt := topS 39
theorem sc__law_told : FnScope ["_law_term", "_law_given_here", "_law_kind_here", "e", "_law_words"] ["_law_term", "_law_given_here"] (defScope s__law_told) := ⟨rfl, rfl, rfl, by decide +kernel, rfl, by decide +kernel, by decide +kernel⟩
abbrev s__law_due : Stmt := topS 40
theorem sc__law_due : FnScope ["_law_term", "_law_given_here", "_law_kind_here"] ["_law_term", "_law_given_here"] (defScope s__law_due) := ⟨rfl, rfl, rfl, by decide +kernel, rfl, by decide +kernel, by decide +kernel⟩
abbrev s_law : Stmt := topS 41
theorem sc_law : FnScope ["_law_script", "_law_cell", "_law_well_here", "_law_given_here", "_law_kind_here", "_law_term", "_law_k", "_law_small", "_law_deep_here", "_law_long_so", "_law_strange", "_law_odd_here", "_law_handed", "_law_last"] ["_law_script"] (defScope s_law) := ⟨rfl, rfl, rfl, by decide +kernel, rfl, by decide +kernel, by decide +kernel⟩
def kv_MARKS : List (Str × D) := [("both", D.str "*"), ("from", D.str ">")]
def kv_PARTS : List (Str × D) := [("given", D.int 2), ("make", D.int 3), ("do", D.int 3), ("both", D.int 3), ("first", D.int 2), ("second", D.int 2), ("unit", D.int 1)]
def excs : List Str := ["NoKind", "NoTerm"]
def isxT : List (Str × Str) := [("NoKind", "NoKind"), ("NoKind", "SwapError"), ("NoTerm", "NoTerm"), ("NoTerm", "SwapError")]
def isx (y x : Str) : Bool := isxT.any fun p => p.1 == y && p.2 == x
noncomputable def b_is_from (cl : Fn → FF) : FS :=
  (sRet (fAndV (fIsi "int" (fVar 0)) (fAndV (fNotV (fIsi "bool" (fVar 0))) (fChain (gCmp fun i j => decide (i ≤ j)) (gCmp fun i j => decide (i ≤ j)) (fVar 1) (fVar 0) (fVar 2)))))
noncomputable def b_inner_of (cl : Fn → FF) : FS :=
  (sSeq (sIf (fOr (fNot (fTru (fIsi "tuple" (fVar 0)))) (fOr (fB (f2 gEq (fArg gLen (fCons (fVar 0) fNil)) (fC (.int 0)))) (fNot (fTru (fIsi "str" (f2 gIx (fVar 0) (fC (.int 0)))))))) (sRet (fC .non)) sNil)
  (sSeq (sIf (fB (f2 gEq (f2 gIx (fVar 0) (fC (.int 0))) (fC (.str "base")))) (sRet (fIf (fAnd (fB (f2 gEq (fArg gLen (fCons (fVar 0) fNil)) (fC (.int 2)))) (fTru (fArg (cl .f_is_from) (fCons (f2 gIx (fVar 0) (fC (.int 1))) (fCons (fC (.int 0)) (fCons (f2 gSub (fArg gLen (fCons (fC (.str "abcdefgh")) fNil)) (fC (.int 1))) fNil)))))) (fArg mkLst fNil) (fC .non))) sNil)
  (sSeq (sIf (fB (f2 gEq (f2 gIx (fVar 0) (fC (.int 0))) (fC (.str "unit")))) (sRet (fIf (fB (f2 gEq (fArg gLen (fCons (fVar 0) fNil)) (fC (.int 1)))) (fArg mkLst fNil) (fC .non))) sNil)
  (sRet (fIf (fAnd (fB (f2 (gInG false "MARKS" kv_MARKS) (f2 gIx (fVar 0) (fC (.int 0))) (fC (.glo "MARKS")))) (fB (f2 gEq (fArg gLen (fCons (fVar 0) fNil)) (fC (.int 3))))) (fArg (gList false) (fCons (fSl (gSl false) (fVar 0) (fSome (fC (.int 1))) fNone) fNil)) (fC .non))))))
noncomputable def l_is_kind_0 (cl : Fn → FF) : FS :=
  (sSeq (sSet 2 (fArg (cl .f_inner_of) (fCons (fMth gPop0 (fVar 1) fNil) fNil)))
  (sSeq (sIf (fB (f2 (gIs false) (fVar 2) (fC .non))) (sRet (fC (.bl false))) sNil)
  (sExp (fMth gExtend (fVar 1) (fCons (fVar 2) fNil)))))
noncomputable def b_is_kind (cl : Fn → FF) : FS :=
  (sSeq (sSet 1 (fArg mkCel (fCons (fVar 0) fNil)))
  (sSeq (sWhile (fB (f2 gNe (fVar 1) (fArg mkLst fNil))) (l_is_kind_0 cl))
  (sRet (fC (.bl true)))))
noncomputable def b_sure_given (cl : Fn → FF) : FS :=
  (sIf (fOr (fNot (fTru (fIsi "list" (fVar 0)))) (fNot (fTru (fArg gAll (fCons (fLc false (fiL (fVar 0)) (gN 1) fYes (fArg (cl .f_is_kind) (fCons (fVar 1) fNil)) [1]) fNil))))) (sRaise "NoKind") sNil)
noncomputable def b_is_shape (cl : Fn → FF) : FS :=
  (sSeq (sIf (fOr (fNot (fTru (fIsi "tuple" (fVar 0)))) (fOr (fB (f2 gEq (fArg gLen (fCons (fVar 0) fNil)) (fC (.int 0)))) (fNot (fTru (fIsi "str" (f2 gIx (fVar 0) (fC (.int 0)))))))) (sRet (fC (.bl false))) sNil)
  (sRet (f2 gEq (fGetG "PARTS" kv_PARTS (fC (.glo "PARTS")) (f2 gIx (fVar 0) (fC (.int 0)))) (fArg gLen (fCons (fVar 0) fNil)))))
noncomputable def b_kind_of_given (cl : Fn → FF) : FS :=
  (sSeq (sIf (fOr (fNot (fTru (fIsi "int" (fVar 0)))) (fOr (fTru (fIsi "bool" (fVar 0))) (fNot (fB (fChain (gCmp fun i j => decide (i ≤ j)) (gCmp fun i j => decide (i < j)) (fC (.int 0)) (fVar 0) (fArg gLen (fCons (fVar 1) fNil))))))) (sRet (fC .non)) sNil)
  (sRet (f2 gIx (fVar 1) (fVar 0))))
noncomputable def b_kind_of_two (cl : Fn → FF) : FS :=
  (sSeq (sIf (fOr (fB (f2 (gIs false) (fVar 1) (fC .non))) (fB (f2 (gIs false) (fVar 2) (fC .non)))) (sRet (fC .non)) sNil)
  (sSeq (sIf (fB (f2 gEq (fVar 0) (fC (.str "both")))) (sRet (fArg mkTup (fCons (fC (.str "both")) (fCons (fVar 1) (fCons (fVar 2) fNil))))) sNil)
  (sRet (fIf (fAnd (fB (f2 gEq (f2 gIx (fVar 1) (fC (.int 0))) (fC (.str "from")))) (fB (f2 gEq (f2 gIx (fVar 1) (fC (.int 1))) (fVar 2)))) (f2 gIx (fVar 1) (fC (.int 2))) (fC .non)))))
noncomputable def b_kind_in (cl : Fn → FF) : FS :=
  (sSeq (sIf (fNot (fTru (fArg (cl .f_is_shape) (fCons (fVar 0) fNil)))) (sRet (fC .non)) sNil)
  (sSeq (sSet 2 (f2 gIx (fVar 0) (fC (.int 0))))
  (sSeq (sIf (fB (f2 gEq (fVar 2) (fC (.str "unit")))) (sRet (fArg mkTup (fCons (fC (.str "unit")) fNil))) sNil)
  (sSeq (sIf (fB (f2 gEq (fVar 2) (fC (.str "given")))) (sRet (fArg (cl .f_kind_of_given) (fCons (f2 gIx (fVar 0) (fC (.int 1))) (fCons (fVar 1) fNil)))) sNil)
  (sSeq (sIf (fB (f2 gEq (fVar 2) (fC (.str "make")))) (sSeq (sSet 4 (fIf (fTru (fArg (cl .f_is_kind) (fCons (f2 gIx (fVar 0) (fC (.int 1))) fNil))) (fArg (cl .f_kind_in) (fCons (f2 gIx (fVar 0) (fC (.int 2))) (fCons (f2 (gAdd false) (fVar 1) (fArg mkLst (fCons (f2 gIx (fVar 0) (fC (.int 1))) fNil))) fNil))) (fC .non)))
  (sRet (fIf (fB (f2 (gIs false) (fVar 4) (fC .non))) (fC .non) (fArg mkTup (fCons (fC (.str "from")) (fCons (f2 gIx (fVar 0) (fC (.int 1))) (fCons (fVar 4) fNil))))))) sNil)
  (sSeq (sSet 3 (fArg (cl .f_kind_in) (fCons (f2 gIx (fVar 0) (fC (.int 1))) (fCons (fVar 1) fNil))))
  (sSeq (sIf (fB (f2 (gIn false) (fVar 2) (fArg mkTup (fCons (fC (.str "do")) (fCons (fC (.str "both")) fNil))))) (sRet (fArg (cl .f_kind_of_two) (fCons (fVar 2) (fCons (fVar 3) (fCons (fArg (cl .f_kind_in) (fCons (f2 gIx (fVar 0) (fC (.int 2))) (fCons (fVar 1) fNil))) fNil))))) sNil)
  (sSeq (sIf (fOr (fB (f2 (gIs false) (fVar 3) (fC .non))) (fB (f2 gNe (f2 gIx (fVar 3) (fC (.int 0))) (fC (.str "both"))))) (sRet (fC .non)) sNil)
  (sRet (fIf (fB (f2 gEq (fVar 2) (fC (.str "first")))) (f2 gIx (fVar 3) (fC (.int 1))) (f2 gIx (fVar 3) (fC (.int 2)))))))))))))
noncomputable def b_sure_kind_in (cl : Fn → FF) : FS :=
  (sSeq (sSet 2 (fArg (cl .f_kind_in) (fCons (fVar 0) (fCons (fVar 1) fNil))))
  (sSeq (sIf (fB (f2 (gIs false) (fVar 2) (fC .non))) (sRaise "NoTerm") sNil)
  (sRet (fVar 2))))
noncomputable def b_term_kind (cl : Fn → FF) : FS :=
  (sSeq (sExp (fArg (cl .f_sure_given) (fCons (fVar 1) fNil)))
  (sRet (fArg (cl .f_sure_kind_in) (fCons (fVar 0) (fCons (fVar 1) fNil)))))
noncomputable def b__law_well (cl : Fn → FF) : FS :=
  (sRet (fArg mkCel (fCons (f2 (gMul false) (fVar 0) (fArg gInt (fCons (f2 (gCmp fun i j => decide (j ≤ i)) (fVar 0) (f2 gPow (fC (.int 10)) (fC (.int 18)))) fNil))) (fCons (fVar 0) (fCons (fC (.int 0)) fNil)))))
noncomputable def b__law_draw (cl : Fn → FF) : FS :=
  (sSeq (sIf (fB (f2 (gCmp fun i j => decide (j < i)) (f2 gIx (fVar 0) (fC (.int 0))) (fC (.int 0)))) (sSeq (sSet 3 (f2 gMod (f2 gIx (fVar 0) (fC (.int 0))) (fVar 1)))
  (sSeq (sAsg (f2 gDiv (f2 gIx (fVar 0) (fC (.int 0))) (fVar 1)) (gSb (fVar 0) (fC (.int 0))))
  (sRet (fVar 3)))) sNil)
  (sSeq (sAsg (f2 (gAdd false) (f2 gIx (fVar 0) (fC (.int 2))) (fC (.int 1))) (gSb (fVar 0) (fC (.int 2))))
  (sSeq (sSet 2 (f2 (gAdd false) (f2 gMod (f2 gIx (fVar 0) (fC (.int 1))) (fC (.int 2147483629))) (f2 (gMul false) (f2 gDiv (f2 gIx (fVar 0) (fC (.int 1))) (fC (.int 2147483629))) (fC (.int 30013)))))
  (sSeq (sSet 2 (f2 gMod (f2 (gMul false) (f2 (gAdd false) (f2 (gAdd false) (fVar 2) (f2 (gMul false) (fC (.int 69623)) (f2 gIx (fVar 0) (fC (.int 2))))) (fC (.int 1))) (fC (.int 48271))) (fC (.int 2147483647))))
  (sSeq (sSet 2 (f2 gMod (f2 (gMul false) (fVar 2) (f2 (gAdd false) (f2 (gAdd false) (f2 gDiv (fVar 2) (fC (.int 1013))) (fC (.int 69621))) (f2 gIx (fVar 0) (fC (.int 2))))) (fC (.int 2147483629))))
  (sRet (f2 gMod (f2 gMod (f2 (gMul false) (fVar 2) (f2 (gAdd false) (f2 gDiv (fVar 2) (fC (.int 2011))) (fC (.int 40692)))) (fC (.int 2147483399))) (fVar 1))))))))
noncomputable def b__law_kind (cl : Fn → FF) : FS :=
  (sSeq (sSet 2 (fArg (cl .f__law_draw) (fCons (fVar 0) (fCons (fC (.int 7)) fNil))))
  (sSeq (sIf (fOr (fB (f2 gEq (fVar 1) (fC (.int 0)))) (fB (f2 (gCmp fun i j => decide (i < j)) (fVar 2) (fC (.int 2))))) (sRet (fArg mkTup (fCons (fC (.str "base")) (fCons (fArg (cl .f__law_draw) (fCons (fVar 0) (fCons (f2 gIx (fArg mkLst (fCons (fC (.int 3)) (fCons (fC (.int 3)) (fCons (fC (.int 8)) fNil)))) (fArg (cl .f__law_draw) (fCons (fVar 0) (fCons (fC (.int 3)) fNil)))) fNil))) fNil)))) sNil)
  (sSeq (sIf (fB (f2 gEq (fVar 2) (fC (.int 2)))) (sRet (fArg mkTup (fCons (fC (.str "unit")) fNil))) sNil)
  (sSeq (sIf (fB (f2 (gCmp fun i j => decide (i < j)) (fVar 2) (fC (.int 5)))) (sRet (fArg mkTup (fCons (fC (.str "both")) (fCons (fArg (cl .f__law_kind) (fCons (fVar 0) (fCons (f2 gSub (fVar 1) (fC (.int 1))) fNil))) (fCons (fArg (cl .f__law_kind) (fCons (fVar 0) (fCons (f2 gSub (fVar 1) (fC (.int 1))) fNil))) fNil))))) sNil)
  (sRet (fArg mkTup (fCons (fC (.str "from")) (fCons (fArg (cl .f__law_kind) (fCons (fVar 0) (fCons (f2 gSub (fVar 1) (fC (.int 1))) fNil))) (fCons (fArg (cl .f__law_kind) (fCons (fVar 0) (fCons (f2 gSub (fVar 1) (fC (.int 1))) fNil))) fNil)))))))))
noncomputable def b__law_ways (cl : Fn → FF) : FS :=
  (sSeq (sIf (fB (f2 gEq (f2 gIx (fVar 0) (fC (.int 0))) (fC (.str "base")))) (sRet (f2 (gMul false) (fArg mkLst (fCons (fArg mkLst fNil) fNil)) (fArg gInt (fCons (f2 gEq (f2 gIx (fVar 0) (fC (.int 1))) (fVar 1)) fNil)))) sNil)
  (sSeq (sIf (fB (f2 gEq (f2 gIx (fVar 0) (fC (.int 0))) (fC (.str "unit")))) (sRet (fArg mkLst fNil)) sNil)
  (sSeq (sIf (fB (f2 gEq (f2 gIx (fVar 0) (fC (.int 0))) (fC (.str "from")))) (sRet (fLc false (fiL (fArg (cl .f__law_ways) (fCons (f2 gIx (fVar 0) (fC (.int 2))) (fCons (fVar 1) fNil)))) (gN 3) fYes (f2 (gAdd false) (fArg mkLst (fCons (f2 gIx (fVar 0) (fC (.int 1))) fNil)) (fVar 3)) [3])) sNil)
  (sSeq (sSet 2 (fLc false (fiL (fArg (cl .f__law_ways) (fCons (f2 gIx (fVar 0) (fC (.int 1))) (fCons (fVar 1) fNil)))) (gN 3) fYes (f2 (gAdd false) (fArg mkLst (fCons (fC (.str "first")) fNil)) (fVar 3)) [3]))
  (sRet (f2 (gAdd false) (fVar 2) (fLc false (fiL (fArg (cl .f__law_ways) (fCons (f2 gIx (fVar 0) (fC (.int 2))) (fCons (fVar 1) fNil)))) (gN 3) fYes (f2 (gAdd false) (fArg mkLst (fCons (fC (.str "second")) fNil)) (fVar 3)) [3])))))))
noncomputable def l__law_flat_0 (cl : Fn → FF) : FS :=
  (sSet 4 (f2 (gAdd false) (fVar 4) (fLc false (fiL (fArg (cl .f__law_ways) (fCons (f2 gIx (fVar 2) (fVar 5)) (fCons (f2 gIx (fVar 1) (fC (.int 1))) fNil)))) (gN 6) fYes (fArg mkTup (fCons (fVar 5) (fCons (fVar 6) fNil))) [6])))
noncomputable def l__law_flat_1 (cl : Fn → FF) : FS :=
  (sIf (fTru (fIsi "str" (fVar 8))) (sSet 7 (fArg mkTup (fCons (fVar 8) (fCons (fVar 7) fNil)))) (sSet 7 (fArg mkTup (fCons (fC (.str "do")) (fCons (fVar 7) (fCons (fArg (cl .f__law_flat) (fCons (fVar 0) (fCons (fVar 8) (fCons (fVar 2) (fCons (f2 gSub (fVar 3) (fC (.int 1))) fNil))))) fNil))))))
noncomputable def b__law_flat (cl : Fn → FF) : FS :=
  (sSeq (sIf (fB (f2 gEq (f2 gIx (fVar 1) (fC (.int 0))) (fC (.str "unit")))) (sRet (fArg mkTup (fCons (fC (.str "unit")) fNil))) sNil)
  (sSeq (sIf (fB (f2 gEq (f2 gIx (fVar 1) (fC (.int 0))) (fC (.str "both")))) (sRet (fArg mkTup (fCons (fC (.str "both")) (fCons (fArg (cl .f__law_flat) (fCons (fVar 0) (fCons (f2 gIx (fVar 1) (fC (.int 1))) (fCons (fVar 2) (fCons (fVar 3) fNil))))) (fCons (fArg (cl .f__law_flat) (fCons (fVar 0) (fCons (f2 gIx (fVar 1) (fC (.int 2))) (fCons (fVar 2) (fCons (fVar 3) fNil))))) fNil))))) sNil)
  (sSeq (sIf (fB (f2 gEq (f2 gIx (fVar 1) (fC (.int 0))) (fC (.str "from")))) (sRet (fArg mkTup (fCons (fC (.str "make")) (fCons (f2 gIx (fVar 1) (fC (.int 1))) (fCons (fArg (cl .f__law_flat) (fCons (fVar 0) (fCons (f2 gIx (fVar 1) (fC (.int 2))) (fCons (f2 (gAdd false) (fVar 2) (fArg mkLst (fCons (f2 gIx (fVar 1) (fC (.int 1))) fNil))) (fCons (fVar 3) fNil))))) fNil))))) sNil)
  (sSeq (sSet 4 (fArg mkLst fNil))
  (sSeq (sFor (fiR1 (fCons (fArg gLen (fCons (fVar 2) fNil)) fNil)) (gN 5) (l__law_flat_0 cl))
  (sSeq (sIf (fB (f2 (gCmp fun i j => decide (i ≤ j)) (fVar 3) (fC (.int 0)))) (sSet 4 (fLc false (fiL (fVar 4)) (gN 9) (fB (f2 gEq (f2 gIx (fVar 9) (fC (.int 1))) (fArg mkLst fNil))) (fVar 9) [9])) sNil)
  (sSeq (sAsg (f2 gIx (fVar 4) (fArg (cl .f__law_draw) (fCons (fVar 0) (fCons (fArg gLen (fCons (fVar 4) fNil)) fNil)))) (gTu 2 (gsCons (gN 5) (gsCons (gN 6) gsNil))))
  (sSeq (sSet 7 (fArg mkTup (fCons (fC (.str "given")) (fCons (fVar 5) fNil))))
  (sSeq (sFor (fiL (fVar 6)) (gN 8) (l__law_flat_1 cl))
  (sRet (fVar 7)))))))))))
noncomputable def b__law_lift (cl : Fn → FF) : FS :=
  (sSeq (sIf (fB (f2 gEq (f2 gIx (fVar 0) (fC (.int 0))) (fC (.str "given")))) (sRet (fArg mkTup (fCons (fC (.str "given")) (fCons (f2 (gAdd false) (f2 gIx (fVar 0) (fC (.int 1))) (fArg gInt (fCons (f2 (gCmp fun i j => decide (j ≤ i)) (f2 gIx (fVar 0) (fC (.int 1))) (fVar 1)) fNil))) fNil)))) sNil)
  (sSeq (sIf (fB (f2 gEq (f2 gIx (fVar 0) (fC (.int 0))) (fC (.str "make")))) (sRet (fArg mkTup (fCons (fC (.str "make")) (fCons (f2 gIx (fVar 0) (fC (.int 1))) (fCons (fArg (cl .f__law_lift) (fCons (f2 gIx (fVar 0) (fC (.int 2))) (fCons (fVar 1) fNil))) fNil))))) sNil)
  (sRet (fArg gTuple (fCons (f2 (gAdd false) (fArg mkLst (fCons (f2 gIx (fVar 0) (fC (.int 0))) fNil)) (fLc false (fiT (fSl (gSl false) (fVar 0) (fSome (fC (.int 1))) fNone)) (gN 2) fYes (fArg (cl .f__law_lift) (fCons (fVar 2) (fCons (fVar 1) fNil))) [2])) fNil)))))
noncomputable def b__law_kind_of (cl : Fn → FF) : FS :=
  (sSeq (sIf (fB (f2 gEq (f2 gIx (fVar 0) (fC (.int 0))) (fC (.str "unit")))) (sRet (fArg mkTup (fCons (fC (.str "unit")) fNil))) sNil)
  (sSeq (sIf (fB (f2 gEq (f2 gIx (fVar 0) (fC (.int 0))) (fC (.str "given")))) (sRet (f2 gIx (fVar 1) (f2 gIx (fVar 0) (fC (.int 1))))) sNil)
  (sSeq (sIf (fB (f2 gEq (f2 gIx (fVar 0) (fC (.int 0))) (fC (.str "make")))) (sRet (fArg mkTup (fCons (fC (.str "from")) (fCons (f2 gIx (fVar 0) (fC (.int 1))) (fCons (fArg (cl .f__law_kind_of) (fCons (f2 gIx (fVar 0) (fC (.int 2))) (fCons (f2 (gAdd false) (fVar 1) (fArg mkLst (fCons (f2 gIx (fVar 0) (fC (.int 1))) fNil))) fNil))) fNil))))) sNil)
  (sSeq (sSet 2 (fArg (cl .f__law_kind_of) (fCons (f2 gIx (fVar 0) (fC (.int 1))) (fCons (fVar 1) fNil))))
  (sSeq (sIf (fB (f2 gEq (f2 gIx (fVar 0) (fC (.int 0))) (fC (.str "both")))) (sRet (fArg mkTup (fCons (fC (.str "both")) (fCons (fVar 2) (fCons (fArg (cl .f__law_kind_of) (fCons (f2 gIx (fVar 0) (fC (.int 2))) (fCons (fVar 1) fNil))) fNil))))) sNil)
  (sRet (f2 gIx (fVar 2) (f2 gIx (fArg mkLst (fCons (fC (.int 2)) (fCons (fC (.int 1)) fNil))) (fArg gInt (fCons (f2 gEq (f2 gIx (fVar 0) (fC (.int 0))) (fC (.str "first"))) fNil))))))))))
noncomputable def b__law_wrapped (cl : Fn → FF) : FS :=
  (sSeq (sSet 3 (fArg (cl .f__law_draw) (fCons (fVar 0) (fCons (fC (.int 12)) fNil))))
  (sSeq (sSet 4 (fArg (cl .f__law_kind_of) (fCons (fVar 1) (fCons (fVar 2) fNil))))
  (sSeq (sSet 5 (fArg (cl .f__law_kind) (fCons (fVar 0) (fCons (fC (.int 1)) fNil))))
  (sSeq (sIf (fB (f2 gEq (fVar 3) (fC (.int 0)))) (sRet (fArg mkTup (fCons (fC (.str "first")) (fCons (fArg mkTup (fCons (fC (.str "both")) (fCons (fVar 1) (fCons (fArg (cl .f__law_flat) (fCons (fVar 0) (fCons (fVar 5) (fCons (fVar 2) (fCons (fC (.int 1)) fNil))))) fNil)))) fNil)))) sNil)
  (sSeq (sIf (fB (f2 gEq (fVar 3) (fC (.int 1)))) (sRet (fArg mkTup (fCons (fC (.str "second")) (fCons (fArg mkTup (fCons (fC (.str "both")) (fCons (fArg (cl .f__law_flat) (fCons (fVar 0) (fCons (fVar 5) (fCons (fVar 2) (fCons (fC (.int 1)) fNil))))) (fCons (fVar 1) fNil)))) fNil)))) sNil)
  (sSeq (sIf (fB (f2 gEq (fVar 3) (fC (.int 2)))) (sRet (fArg mkTup (fCons (fC (.str "do")) (fCons (fArg mkTup (fCons (fC (.str "make")) (fCons (fVar 5) (fCons (fArg (cl .f__law_lift) (fCons (fVar 1) (fCons (fArg gLen (fCons (fVar 2) fNil)) fNil))) fNil)))) (fCons (fArg (cl .f__law_flat) (fCons (fVar 0) (fCons (fVar 5) (fCons (fVar 2) (fCons (fC (.int 1)) fNil))))) fNil))))) sNil)
  (sSeq (sIf (fB (f2 gEq (fVar 3) (fC (.int 3)))) (sRet (fArg mkTup (fCons (fC (.str "do")) (fCons (fArg mkTup (fCons (fC (.str "make")) (fCons (fVar 4) (fCons (fArg mkTup (fCons (fC (.str "given")) (fCons (fArg gLen (fCons (fVar 2) fNil)) fNil))) fNil)))) (fCons (fVar 1) fNil))))) sNil)
  (sRet (fVar 1)))))))))
noncomputable def b__law_grown (cl : Fn → FF) : FS :=
  (sSeq (sIf (fB (f2 gEq (f2 gIx (fVar 1) (fC (.int 0))) (fC (.str "make")))) (sSet 1 (fArg mkTup (fCons (fC (.str "make")) (fCons (f2 gIx (fVar 1) (fC (.int 1))) (fCons (fArg (cl .f__law_grown) (fCons (fVar 0) (fCons (f2 gIx (fVar 1) (fC (.int 2))) (fCons (f2 (gAdd false) (fVar 2) (fArg mkLst (fCons (f2 gIx (fVar 1) (fC (.int 1))) fNil))) fNil)))) fNil))))) (sIf (fB (f2 (gIn true) (f2 gIx (fVar 1) (fC (.int 0))) (fArg mkLst (fCons (fC (.str "given")) (fCons (fC (.str "unit")) fNil))))) (sSet 1 (fArg gTuple (fCons (f2 (gAdd false) (fArg mkLst (fCons (f2 gIx (fVar 1) (fC (.int 0))) fNil)) (fLc false (fiT (fSl (gSl false) (fVar 1) (fSome (fC (.int 1))) fNone)) (gN 3) fYes (fArg (cl .f__law_grown) (fCons (fVar 0) (fCons (fVar 3) (fCons (fVar 2) fNil)))) [3])) fNil))) sNil))
  (sRet (fArg (cl .f__law_wrapped) (fCons (fVar 0) (fCons (fVar 1) (fCons (fVar 2) fNil))))))
noncomputable def b__law_size (cl : Fn → FF) : FS :=
  (sRet (f2 (gAdd false) (fC (.int 1)) (fArg gSum (fCons (fLc false (fiT (fVar 0)) (gN 1) (fTru (fIsi "tuple" (fVar 1))) (fArg (cl .f__law_size) (fCons (fVar 1) fNil)) [1]) fNil))))
noncomputable def b__law_height (cl : Fn → FF) : FS :=
  (sRet (f2 (gAdd false) (fC (.int 1)) (fArg gMaxL (fCons (f2 (gAdd false) (fArg mkLst (fCons (fC (.int 0)) fNil)) (fLc false (fiT (fVar 0)) (gN 1) (fTru (fIsi "tuple" (fVar 1))) (fArg (cl .f__law_height) (fCons (fVar 1) fNil)) [1])) fNil))))
noncomputable def b__law_some (cl : Fn → FF) : FS :=
  (sSeq (sSet 4 (fArg (cl .f__law_grown) (fCons (fVar 0) (fCons (fVar 1) (fCons (fVar 2) fNil)))))
  (sRet (f2 gIx (fArg mkLst (fCons (fVar 4) (fCons (fVar 1) fNil))) (fArg gInt (fCons (fOrV (f2 (gCmp fun i j => decide (j < i)) (fArg (cl .f__law_size) (fCons (fVar 4) fNil)) (fVar 3)) (f2 (gCmp fun i j => decide (j < i)) (fArg (cl .f__law_height) (fCons (fVar 4) fNil)) (fC (.int 90)))) fNil)))))
noncomputable def b__law_given (cl : Fn → FF) : FS :=
  (sSeq (sSet 1 (fLc false (fiR1 (fCons (fArg (cl .f__law_draw) (fCons (fVar 0) (fCons (fC (.int 3)) fNil))) fNil)) (gN 3) fYes (fArg (cl .f__law_kind) (fCons (fVar 0) (fCons (fC (.int 2)) fNil))) [3]))
  (sSeq (sSet 2 (fArg (cl .f__law_draw) (fCons (fVar 0) (fCons (fC (.int 8)) fNil))))
  (sRet (f2 (gAdd false) (fLc false (fiR1 (fCons (fC (.int 8)) fNil)) (gN 3) fYes (fArg mkTup (fCons (fC (.str "base")) (fCons (f2 gMod (f2 (gAdd false) (fVar 3) (fVar 2)) (fC (.int 8))) fNil))) [3]) (fVar 1)))))
noncomputable def b__law_good_kind (cl : Fn → FF) : FS :=
  (sSeq (sIf (fOr (fNot (fTru (fIsi "tuple" (fVar 0)))) (fOr (fB (f2 gEq (fVar 0) (fArg mkTup fNil))) (fNot (fTru (fIsi "str" (f2 gIx (fVar 0) (fC (.int 0)))))))) (sRet (fC (.bl false))) sNil)
  (sSeq (sIf (fB (f2 gEq (f2 gIx (fVar 0) (fC (.int 0))) (fC (.str "base")))) (sRet (fAndV (f2 gEq (fArg gLen (fCons (fVar 0) fNil)) (fC (.int 2))) (fAndV (fIsi "int" (f2 gIx (fVar 0) (fC (.int 1)))) (fAndV (fNotV (fIsi "bool" (f2 gIx (fVar 0) (fC (.int 1))))) (fChain (gCmp fun i j => decide (i ≤ j)) (gCmp fun i j => decide (i < j)) (fC (.int 0)) (f2 gIx (fVar 0) (fC (.int 1))) (fC (.int 8))))))) sNil)
  (sSeq (sIf (fB (f2 gEq (f2 gIx (fVar 0) (fC (.int 0))) (fC (.str "unit")))) (sRet (f2 gEq (fArg gLen (fCons (fVar 0) fNil)) (fC (.int 1)))) sNil)
  (sSeq (sIf (fOr (fB (f2 (gIn true) (f2 gIx (fVar 0) (fC (.int 0))) (fArg mkLst (fCons (fC (.str "both")) (fCons (fC (.str "from")) fNil))))) (fB (f2 gNe (fArg gLen (fCons (fVar 0) fNil)) (fC (.int 3))))) (sRet (fC (.bl false))) sNil)
  (sRet (fAndV (fArg (cl .f__law_good_kind) (fCons (f2 gIx (fVar 0) (fC (.int 1))) fNil)) (fArg (cl .f__law_good_kind) (fCons (f2 gIx (fVar 0) (fC (.int 2))) fNil))))))))
noncomputable def b__law_judged (cl : Fn → FF) : FS :=
  (sSeq (sIf (fOr (fNot (fTru (fIsi "tuple" (fVar 0)))) (fOr (fB (f2 gEq (fVar 0) (fArg mkTup fNil))) (fNot (fTru (fIsi "str" (f2 gIx (fVar 0) (fC (.int 0)))))))) (sRet (fC .non)) sNil)
  (sSeq (sIf (fB (f2 gEq (f2 gIx (fVar 0) (fC (.int 0))) (fC (.str "unit")))) (sRet (f2 gIx (fArg mkLst (fCons (fC .non) (fCons (fArg mkTup (fCons (fC (.str "unit")) fNil)) fNil))) (fArg gInt (fCons (f2 gEq (fArg gLen (fCons (fVar 0) fNil)) (fC (.int 1))) fNil)))) sNil)
  (sSeq (sIf (fAnd (fB (f2 gEq (f2 gIx (fVar 0) (fC (.int 0))) (fC (.str "given")))) (fB (f2 gEq (fArg gLen (fCons (fVar 0) fNil)) (fC (.int 2))))) (sSeq (sIf (fAnd (fTru (fIsi "int" (f2 gIx (fVar 0) (fC (.int 1))))) (fAnd (fNot (fTru (fIsi "bool" (f2 gIx (fVar 0) (fC (.int 1)))))) (fB (fChain (gCmp fun i j => decide (i ≤ j)) (gCmp fun i j => decide (i < j)) (fC (.int 0)) (f2 gIx (fVar 0) (fC (.int 1))) (fArg gLen (fCons (fVar 1) fNil)))))) (sRet (f2 gIx (fVar 1) (f2 gIx (fVar 0) (fC (.int 1))))) sNil)
  (sRet (fC .non))) sNil)
  (sSeq (sIf (fAnd (fB (f2 (gIn false) (f2 gIx (fVar 0) (fC (.int 0))) (fArg mkLst (fCons (fC (.str "first")) (fCons (fC (.str "second")) fNil))))) (fB (f2 gEq (fArg gLen (fCons (fVar 0) fNil)) (fC (.int 2))))) (sSeq (sSet 2 (fArg (cl .f__law_judged) (fCons (f2 gIx (fVar 0) (fC (.int 1))) (fCons (fVar 1) fNil))))
  (sSeq (sIf (fOr (fB (f2 (gIs false) (fVar 2) (fC .non))) (fB (f2 gNe (f2 gIx (fVar 2) (fC (.int 0))) (fC (.str "both"))))) (sRet (fC .non)) sNil)
  (sRet (f2 gIx (fVar 2) (f2 (gAdd false) (fC (.int 1)) (fArg gInt (fCons (f2 gEq (f2 gIx (fVar 0) (fC (.int 0))) (fC (.str "second"))) fNil))))))) sNil)
  (sSeq (sIf (fOr (fB (f2 gNe (fArg gLen (fCons (fVar 0) fNil)) (fC (.int 3)))) (fB (f2 (gIn true) (f2 gIx (fVar 0) (fC (.int 0))) (fArg mkLst (fCons (fC (.str "make")) (fCons (fC (.str "do")) (fCons (fC (.str "both")) fNil))))))) (sRet (fC .non)) sNil)
  (sSeq (sIf (fB (f2 gEq (f2 gIx (fVar 0) (fC (.int 0))) (fC (.str "make")))) (sSeq (sIf (fNot (fTru (fArg (cl .f__law_good_kind) (fCons (f2 gIx (fVar 0) (fC (.int 1))) fNil)))) (sRet (fC .non)) sNil)
  (sSeq (sSet 4 (fArg (cl .f__law_judged) (fCons (f2 gIx (fVar 0) (fC (.int 2))) (fCons (f2 (gAdd false) (fVar 1) (fArg mkLst (fCons (f2 gIx (fVar 0) (fC (.int 1))) fNil))) fNil))))
  (sRet (f2 gIx (fArg mkLst (fCons (fC .non) (fCons (fArg mkTup (fCons (fC (.str "from")) (fCons (f2 gIx (fVar 0) (fC (.int 1))) (fCons (fVar 4) fNil)))) fNil))) (fArg gInt (fCons (f2 (gIs true) (fVar 4) (fC .non)) fNil)))))) sNil)
  (sSeq (sSet 2 (fArg (cl .f__law_judged) (fCons (f2 gIx (fVar 0) (fC (.int 1))) (fCons (fVar 1) fNil))))
  (sSeq (sSet 3 (fArg (cl .f__law_judged) (fCons (f2 gIx (fVar 0) (fC (.int 2))) (fCons (fVar 1) fNil))))
  (sSeq (sIf (fOr (fB (f2 (gIs false) (fVar 2) (fC .non))) (fB (f2 (gIs false) (fVar 3) (fC .non)))) (sRet (fC .non)) sNil)
  (sSeq (sIf (fB (f2 gEq (f2 gIx (fVar 0) (fC (.int 0))) (fC (.str "both")))) (sRet (fArg mkTup (fCons (fC (.str "both")) (fCons (fVar 2) (fCons (fVar 3) fNil))))) sNil)
  (sRet (f2 gIx (fArg mkLst (fCons (fC .non) (fCons (f2 gIx (fVar 2) (f1 gNeg (fC (.int 1)))) fNil))) (fArg gInt (fCons (fAndV (f2 gEq (f2 gIx (fVar 2) (fC (.int 0))) (fC (.str "from"))) (f2 gEq (f2 gIx (fVar 2) (fC (.int 1))) (fVar 3))) fNil))))))))))))))
noncomputable def b__law_odd (cl : Fn → FF) : FS :=
  (sSeq (sSet 3 (fArg (cl .f__law_draw) (fCons (fVar 0) (fCons (fC (.int 10)) fNil))))
  (sSeq (sSet 4 (fLc false (fiR2 (fCons (fC (.int 1)) (fCons (fArg gLen (fCons (fVar 1) fNil)) fNil))) (gN 6) (fTru (fIsi "tuple" (f2 gIx (fVar 1) (fVar 6)))) (fVar 6) [6]))
  (sSeq (sIf (fAnd (fB (f2 (gCmp fun i j => decide (i < j)) (fVar 3) (fC (.int 6)))) (fB (f2 gNe (fVar 4) (fArg mkLst fNil)))) (sSeq (sSet 6 (f2 gIx (fVar 4) (fArg (cl .f__law_draw) (fCons (fVar 0) (fCons (fArg gLen (fCons (fVar 4) fNil)) fNil)))))
  (sRet (f2 (gAdd false) (f2 (gAdd false) (fSl (gSl false) (fVar 1) fNone (fSome (fVar 6))) (fArg mkTup (fCons (fArg (cl .f__law_odd) (fCons (fVar 0) (fCons (f2 gIx (fVar 1) (fVar 6)) (fCons (fVar 2) fNil)))) fNil))) (fSl (gSl false) (fVar 1) (fSome (f2 (gAdd false) (fVar 6) (fC (.int 1)))) fNone)))) sNil)
  (sSeq (sSet 5 (fArg mkLst (fCons (fArg mkTup (fCons (fC (.str "given")) (fCons (f2 (gAdd false) (fArg gLen (fCons (fVar 2) fNil)) (fC (.int 3))) fNil))) (fCons (fArg mkTup (fCons (fC (.str "given")) (fCons (fC (.bl true)) fNil))) (fCons (fArg mkTup (fCons (fC (.str "given")) (fCons (f1 gNeg (fC (.int 1))) fNil))) (fCons (fArg mkTup (fCons (fC (.str "given")) (fCons (fArg (cl .f__law_draw) (fCons (fVar 0) (fCons (fC (.int 5)) fNil))) fNil))) (fCons (fArg mkTup (fCons (fC (.str "given")) fNil)) (fCons (fArg mkTup fNil) fNil))))))))
  (sSeq (sSet 5 (f2 (gAdd false) (fVar 5) (fArg mkLst (fCons (fC .non) (fCons (fArg (gList false) (fCons (fVar 1) fNil)) (fCons (f2 (gAdd false) (fVar 1) (fArg mkTup (fCons (fC (.int 0)) fNil))) (fCons (fSl (gSl false) (fVar 1) fNone (fSome (f1 gNeg (fC (.int 1))))) (fCons (fArg mkTup (fCons (fC (.str "first")) (fCons (fVar 1) fNil))) (fCons (fArg mkTup (fCons (fC (.str "second")) (fCons (fVar 1) fNil))) (fCons (fArg mkTup (fCons (fC (.str "do")) (fCons (fVar 1) (fCons (fVar 1) fNil)))) fNil))))))))))
  (sSeq (sSet 5 (f2 (gAdd false) (fVar 5) (fArg mkLst (fCons (fArg mkTup (fCons (fC (.str "do")) (fCons (fVar 1) (fCons (fArg mkTup (fCons (fC (.str "unit")) fNil)) fNil)))) (fCons (fArg mkTup (fCons (fC (.str "make")) (fCons (fArg mkTup (fCons (fC (.str "base")) (fCons (fC (.int 8)) fNil))) (fCons (fVar 1) fNil)))) (fCons (fArg mkTup (fCons (fC (.str "make")) (fCons (fC .non) (fCons (fVar 1) fNil)))) (fCons (fArg mkTup (fCons (fC (.str "unit")) (fCons (fC (.int 0)) fNil))) (fCons (fC (.str "given")) (fCons (fC (.int 0)) fNil)))))))))
  (sSeq (sSet 5 (f2 (gAdd false) (fVar 5) (fArg mkLst (fCons (fArg mkTup (fCons (fC (.str "make")) (fCons (fArg mkTup (fCons (fC (.str "unit")) fNil)) (fCons (fVar 1) fNil)))) (fCons (fArg mkTup (fCons (fC (.str "both")) (fCons (fVar 1) (fCons (fVar 1) fNil)))) (fCons (fArg mkTup (fCons (fC (.str "base")) (fCons (fC (.int 0)) fNil))) (fCons (fArg mkTup (fCons (fVar 1) fNil)) (fCons (fArg mkTup (fCons (fC (.str "given")) (fCons (fC (.str "0")) fNil))) fNil))))))))
  (sRet (f2 gIx (fVar 5) (fArg (cl .f__law_draw) (fCons (fVar 0) (fCons (fArg gLen (fCons (fVar 5) fNil)) fNil))))))))))))
noncomputable def l__law_deep_0 (cl : Fn → FF) : FS :=
  (sSeq (sSet 5 (fArg (cl .f__law_draw) (fCons (fVar 0) (fCons (fC (.int 4)) fNil))))
  (sIf (fB (f2 gEq (fVar 5) (fC (.int 0)))) (sSet 1 (fArg mkTup (fCons (fC (.str "first")) (fCons (fArg mkTup (fCons (fC (.str "both")) (fCons (fVar 1) (fCons (fArg mkTup (fCons (fC (.str "unit")) fNil)) fNil)))) fNil)))) (sIf (fB (f2 gEq (fVar 5) (fC (.int 1)))) (sSet 1 (fArg mkTup (fCons (fC (.str "second")) (fCons (fArg mkTup (fCons (fC (.str "both")) (fCons (fArg mkTup (fCons (fC (.str "unit")) fNil)) (fCons (fVar 1) fNil)))) fNil)))) (sIf (fB (f2 gEq (fVar 5) (fC (.int 2)))) (sSet 1 (fArg mkTup (fCons (fC (.str "do")) (fCons (fArg mkTup (fCons (fC (.str "make")) (fCons (fArg mkTup (fCons (fC (.str "unit")) fNil)) (fCons (fArg (cl .f__law_lift) (fCons (fVar 1) (fCons (fArg gLen (fCons (fVar 3) fNil)) fNil))) fNil)))) (fCons (fArg mkTup (fCons (fC (.str "unit")) fNil)) fNil))))) (sSet 1 (fArg mkTup (fCons (fC (.str "do")) (fCons (fArg mkTup (fCons (fC (.str "make")) (fCons (fVar 2) (fCons (fArg mkTup (fCons (fC (.str "given")) (fCons (fArg gLen (fCons (fVar 3) fNil)) fNil))) fNil)))) (fCons (fVar 1) fNil)))))))))
noncomputable def b__law_deep (cl : Fn → FF) : FS :=
  (sSeq (sFor (fiR1 (fCons (fC (.int 38)) fNil)) (gN 4) (l__law_deep_0 cl))
  (sRet (fVar 1)))
noncomputable def l__law_long_0 (cl : Fn → FF) : FS :=
  (sSet 2 (fArg mkTup (fCons (fC (.str "make")) (fCons (fArg mkTup (fCons (fC (.str "unit")) fNil)) (fCons (fVar 2) fNil)))))
noncomputable def b__law_long (cl : Fn → FF) : FS :=
  (sSeq (sSet 2 (fArg mkTup (fCons (fC (.str "both")) (fCons (fArg mkTup (fCons (fC (.str "unit")) fNil)) (fCons (fArg mkTup (fCons (fC (.str "given")) (fCons (fArg (cl .f__law_draw) (fCons (fVar 0) (fCons (fC (.int 8)) fNil))) fNil))) fNil)))))
  (sSeq (sFor (fiR1 (fCons (fC (.int 80)) fNil)) (gN 3) (l__law_long_0 cl))
  (sRet (fVar 2))))
noncomputable def b__law_told (cl : Fn → FF) : FS :=
  (sSeq (sTryAs excs (fun y => isx y "SwapError") 3 (sSet 2 (fArg (cl .f_term_kind) (fCons (fVar 0) (fCons (fVar 1) fNil)))) (fun y a => (sSeq (sSet 4 (fArg mkLst (fCons (fIsE a (isx y "NoTerm") (fVar 3)) (fCons (fIsE a (isx y "NoKind") (fVar 3)) (fCons (fIsE a (isx y "NoWorth") (fVar 3)) fNil)))))
  (sSeq (sIf (fB (f2 gNe (fMth gCnt (fVar 4) (fCons (fC (.bl true)) fNil)) (fC (.int 1)))) (sRet (fC (.str "other"))) sNil)
  (sRet (f2 gIx (fArg mkLst (fCons (fC (.str "term")) (fCons (fC (.str "kind")) (fCons (fC (.str "other")) fNil)))) (fMth gIdx (fVar 4) (fCons (fC (.bl true)) fNil))))))))
  (sRet (fVar 2)))
noncomputable def b__law_due (cl : Fn → FF) : FS :=
  (sSeq (sSet 2 (fArg (cl .f__law_judged) (fCons (fVar 0) (fCons (fVar 1) fNil))))
  (sRet (f2 gIx (fArg mkLst (fCons (fC (.str "term")) (fCons (fVar 2) fNil))) (fArg gInt (fCons (f2 (gIs true) (fVar 2) (fC .non)) fNil)))))
noncomputable def l_law_0 (cl : Fn → FF) : FS :=
  (sSeq (sSet 11 (fArg (cl .f__law_odd) (fCons (fVar 2) (fCons (fVar 5) (fCons (fVar 3) fNil)))))
  (sSeq (sSet 12 (fArg (gList true) (fCons (fVar 3) fNil)))
  (sSeq (sIf (fOr (fB (f2 gNe (fArg (cl .f__law_told) (fCons (fVar 11) (fCons (fVar 12) fNil))) (fArg (cl .f__law_due) (fCons (fVar 11) (fCons (fVar 3) fNil))))) (fB (f2 gNe (fVar 12) (fVar 3)))) (sRet (fC (.bl false))) sNil)
  (sSeq (sSet 13 (fMth gPop0 (fVar 12) fNil))
  (sSeq (sIf (fB (f2 gNe (fArg (cl .f__law_told) (fCons (fVar 11) (fCons (fVar 12) fNil))) (fArg (cl .f__law_due) (fCons (fVar 11) (fCons (fVar 12) fNil))))) (sRet (fC (.bl false))) sNil)
  (sSeq (sExp (fMth gIns (fVar 12) (fCons (fC (.int 0)) (fCons (fVar 13) fNil))))
  (sIf (fB (f2 gNe (fArg (cl .f__law_told) (fCons (fVar 11) (fCons (fVar 12) fNil))) (fArg (cl .f__law_due) (fCons (fVar 11) (fCons (fVar 12) fNil))))) (sRet (fC (.bl false))) sNil)))))))
noncomputable def l_law_1 (cl : Fn → FF) : FS :=
  (sSeq (sSet 2 (fArg (cl .f__law_well) (fCons (fVar 1) fNil)))
  (sSeq (sSet 3 (fArg (cl .f__law_given) (fCons (fVar 2) fNil)))
  (sSeq (sSet 4 (fArg (cl .f__law_kind) (fCons (fVar 2) (fCons (fC (.int 2)) fNil))))
  (sSeq (sSet 5 (fArg (cl .f__law_some) (fCons (fVar 2) (fCons (fArg (cl .f__law_flat) (fCons (fVar 2) (fCons (fVar 4) (fCons (fVar 3) (fCons (fC (.int 1)) fNil))))) (fCons (fVar 3) (fCons (fC (.int 900)) fNil))))))
  (sSeq (sIf (fOr (fB (f2 gNe (fArg (cl .f__law_told) (fCons (fVar 5) (fCons (fVar 3) fNil))) (fVar 4))) (fB (f2 gNe (fArg (cl .f__law_judged) (fCons (fVar 5) (fCons (fVar 3) fNil))) (fVar 4)))) (sRet (fC (.bl false))) sNil)
  (sSeq (sFor (fiR1 (fCons (fC (.int 6)) fNil)) (gN 6) (l_law_0 cl))
  (sSeq (sSet 7 (fArg mkTup (fCons (fC (.str "base")) (fCons (fArg (cl .f__law_draw) (fCons (fVar 2) (fCons (fC (.int 8)) fNil))) fNil))))
  (sSeq (sSet 8 (fArg (cl .f__law_deep) (fCons (fVar 2) (fCons (fArg (cl .f__law_flat) (fCons (fVar 2) (fCons (fVar 7) (fCons (fVar 3) (fCons (fC (.int 1)) fNil))))) (fCons (fVar 7) (fCons (fVar 3) fNil))))))
  (sSeq (sIf (fOr (fB (f2 gNe (fArg (cl .f__law_told) (fCons (fVar 8) (fCons (fVar 3) fNil))) (fVar 7))) (fB (f2 gNe (fArg (cl .f__law_told) (fCons (fArg mkTup (fCons (fC (.str "first")) (fCons (fVar 8) fNil))) (fCons (fVar 3) fNil))) (fC (.str "term"))))) (sRet (fC (.bl false))) sNil)
  (sSeq (sSet 9 (fArg (cl .f__law_long) (fCons (fVar 2) (fCons (fVar 3) fNil))))
  (sSeq (sIf (fB (f2 gNe (fArg (cl .f__law_told) (fCons (fVar 9) (fCons (fVar 3) fNil))) (fArg (cl .f__law_judged) (fCons (fVar 9) (fCons (fVar 3) fNil))))) (sRet (fC (.bl false))) sNil)
  (sSeq (sSet 10 (fArg mkLst (fCons (fC .non) (fCons (fArg gTuple (fCons (fVar 3) fNil)) (fCons (f2 (gAdd false) (fVar 3) (fArg mkLst (fCons (fC .non) fNil))) (fCons (f2 (gAdd false) (fVar 3) (fArg mkLst (fCons (fArg mkTup (fCons (fC (.str "base")) (fCons (fC (.int 8)) fNil))) fNil))) (fCons (f2 (gAdd false) (fVar 3) (fArg mkLst (fCons (fArg mkTup (fCons (fC (.str "base")) (fCons (fC (.bl true)) fNil))) fNil))) (fCons (fC (.str "given")) (fCons (fDic [] []) (fCons (fC (.int 3)) fNil))))))))))
  (sSeq (sSet 10 (f2 gIx (fVar 10) (fArg (cl .f__law_draw) (fCons (fVar 2) (fCons (fC (.int 8)) fNil)))))
  (sIf (fOr (fB (f2 gNe (fArg (cl .f__law_told) (fCons (fVar 5) (fCons (fVar 10) fNil))) (fC (.str "kind")))) (fB (f2 gNe (fArg (cl .f__law_told) (fCons (fC .non) (fCons (fVar 10) fNil))) (fC (.str "kind"))))) (sRet (fC (.bl false))) sNil))))))))))))))
noncomputable def b_law (cl : Fn → FF) : FS :=
  (sSeq (sFor (fiL (f2 (gAdd false) (fArg mkLst (fCons (fC (.int 0)) (fCons (fC (.int 3)) fNil))) (fSl (gSl false) (fVar 0) fNone (fSome (fC (.int 8)))))) (gN 1) (l_law_1 cl))
  (sRet (fC (.bl true))))
noncomputable def ev : Nat → Fn → FF
  | 0, _ => fun _ _ => .no
  | n + 1, .f_is_from => fnB 3 3 (b_is_from (ev n))
  | n + 1, .f_inner_of => fnB 1 1 (b_inner_of (ev n))
  | n + 1, .f_is_kind => fnC 1 3 (b_is_kind (ev n))
  | n + 1, .f_sure_given => fnB 1 2 (b_sure_given (ev n))
  | n + 1, .f_is_shape => fnB 1 1 (b_is_shape (ev n))
  | n + 1, .f_kind_of_given => fnB 2 2 (b_kind_of_given (ev n))
  | n + 1, .f_kind_of_two => fnB 3 3 (b_kind_of_two (ev n))
  | n + 1, .f_kind_in => fnB 2 5 (b_kind_in (ev n))
  | n + 1, .f_sure_kind_in => fnB 2 3 (b_sure_kind_in (ev n))
  | n + 1, .f_term_kind => fnB 2 2 (b_term_kind (ev n))
  | n + 1, .f__law_well => fnB 1 1 (b__law_well (ev n))
  | n + 1, .f__law_draw => fnB 2 4 (b__law_draw (ev n))
  | n + 1, .f__law_kind => fnB 2 3 (b__law_kind (ev n))
  | n + 1, .f__law_ways => fnB 2 4 (b__law_ways (ev n))
  | n + 1, .f__law_flat => fnB 4 10 (b__law_flat (ev n))
  | n + 1, .f__law_lift => fnB 2 3 (b__law_lift (ev n))
  | n + 1, .f__law_kind_of => fnB 2 3 (b__law_kind_of (ev n))
  | n + 1, .f__law_wrapped => fnB 3 6 (b__law_wrapped (ev n))
  | n + 1, .f__law_grown => fnB 3 4 (b__law_grown (ev n))
  | n + 1, .f__law_size => fnB 1 2 (b__law_size (ev n))
  | n + 1, .f__law_height => fnB 1 2 (b__law_height (ev n))
  | n + 1, .f__law_some => fnB 4 5 (b__law_some (ev n))
  | n + 1, .f__law_given => fnB 1 4 (b__law_given (ev n))
  | n + 1, .f__law_good_kind => fnB 1 1 (b__law_good_kind (ev n))
  | n + 1, .f__law_judged => fnB 2 5 (b__law_judged (ev n))
  | n + 1, .f__law_odd => fnB 3 7 (b__law_odd (ev n))
  | n + 1, .f__law_deep => fnB 4 6 (b__law_deep (ev n))
  | n + 1, .f__law_long => fnB 2 4 (b__law_long (ev n))
  | n + 1, .f__law_told => fnB 2 5 (b__law_told (ev n))
  | n + 1, .f__law_due => fnB 2 3 (b__law_due (ev n))
  | n + 1, .f_law => fnB 1 14 (b_law (ev n))
@[reducible] def calOf (P : Program) (w : World) (K : PySem.W.Frag) (mg : Str → Option Value) (base : Heap) (k : Nat) (g : Fn) (f : FF) : Prop := match g with
  | .f_is_from => Cal P w K mg base k "is_from" f
  | .f_inner_of => Cal P w K mg base k "inner_of" f
  | .f_is_kind => Cal P w K mg base k "is_kind" f
  | .f_sure_given => Cal P w K mg base k "sure_given" f
  | .f_is_shape => Cal P w K mg base k "is_shape" f
  | .f_kind_of_given => Cal P w K mg base k "kind_of_given" f
  | .f_kind_of_two => Cal P w K mg base k "kind_of_two" f
  | .f_kind_in => Cal P w K mg base k "kind_in" f
  | .f_sure_kind_in => Cal P w K mg base k "sure_kind_in" f
  | .f_term_kind => Cal P w K mg base k "term_kind" f
  | .f__law_well => Cal P w K mg base k "_law_well" f
  | .f__law_draw => Cal P w K mg base k "_law_draw" f
  | .f__law_kind => Cal P w K mg base k "_law_kind" f
  | .f__law_ways => Cal P w K mg base k "_law_ways" f
  | .f__law_flat => Cal P w K mg base k "_law_flat" f
  | .f__law_lift => Cal P w K mg base k "_law_lift" f
  | .f__law_kind_of => Cal P w K mg base k "_law_kind_of" f
  | .f__law_wrapped => Cal P w K mg base k "_law_wrapped" f
  | .f__law_grown => Cal P w K mg base k "_law_grown" f
  | .f__law_size => Cal P w K mg base k "_law_size" f
  | .f__law_height => Cal P w K mg base k "_law_height" f
  | .f__law_some => Cal P w K mg base k "_law_some" f
  | .f__law_given => Cal P w K mg base k "_law_given" f
  | .f__law_good_kind => Cal P w K mg base k "_law_good_kind" f
  | .f__law_judged => Cal P w K mg base k "_law_judged" f
  | .f__law_odd => Cal P w K mg base k "_law_odd" f
  | .f__law_deep => Cal P w K mg base k "_law_deep" f
  | .f__law_long => Cal P w K mg base k "_law_long" f
  | .f__law_told => Cal P w K mg base k "_law_told" f
  | .f__law_due => Cal P w K mg base k "_law_due" f
  | .f_law => Cal P w K mg base k "law" f
structure Txt (K : PySem.W.Frag) (P : Params) (mg : Str → Option Value) : Prop where
  t_is_from : TF K mg "is_from" s_is_from ["thing", "low", "high"]
  t_inner_of : TF K mg "inner_of" s_inner_of ["thing"]
  t_is_kind : TF K mg "is_kind" s_is_kind ["thing"]
  t_sure_given : TF K mg "sure_given" s_sure_given ["given"]
  t_is_shape : TF K mg "is_shape" s_is_shape ["thing"]
  t_kind_of_given : TF K mg "kind_of_given" s_kind_of_given ["k", "given"]
  t_kind_of_two : TF K mg "kind_of_two" s_kind_of_two ["word", "one", "other"]
  t_kind_in : TF K mg "kind_in" s_kind_in ["term", "given"]
  t_sure_kind_in : TF K mg "sure_kind_in" s_sure_kind_in ["term", "given"]
  t_term_kind : TF K mg "term_kind" s_term_kind ["term", "given"]
  t__law_well : TF K mg "_law_well" s__law_well ["_law_cell"]
  t__law_draw : TF K mg "_law_draw" s__law_draw ["_law_well_here", "_law_width"]
  t__law_kind : TF K mg "_law_kind" s__law_kind ["_law_well_here", "_law_deep_here"]
  t__law_ways : TF K mg "_law_ways" s__law_ways ["_law_kind_here", "_law_n"]
  t__law_flat : TF K mg "_law_flat" s__law_flat ["_law_well_here", "_law_kind_here", "_law_given_here", "_law_fuel"]
  t__law_lift : TF K mg "_law_lift" s__law_lift ["_law_term", "_law_at"]
  t__law_kind_of : TF K mg "_law_kind_of" s__law_kind_of ["_law_term", "_law_given_here"]
  t__law_wrapped : TF K mg "_law_wrapped" s__law_wrapped ["_law_well_here", "_law_term", "_law_given_here"]
  t__law_grown : TF K mg "_law_grown" s__law_grown ["_law_well_here", "_law_term", "_law_given_here"]
  t__law_size : TF K mg "_law_size" s__law_size ["_law_thing"]
  t__law_height : TF K mg "_law_height" s__law_height ["_law_thing"]
  t__law_some : TF K mg "_law_some" s__law_some ["_law_well_here", "_law_term", "_law_given_here", "_law_most"]
  t__law_given : TF K mg "_law_given" s__law_given ["_law_well_here"]
  t__law_good_kind : TF K mg "_law_good_kind" s__law_good_kind ["_law_thing"]
  t__law_judged : TF K mg "_law_judged" s__law_judged ["_law_term", "_law_given_here"]
  t__law_odd : TF K mg "_law_odd" s__law_odd ["_law_well_here", "_law_term", "_law_given_here"]
  t__law_deep : TF K mg "_law_deep" s__law_deep ["_law_well_here", "_law_term", "_law_kind_here", "_law_given_here"]
  t__law_long : TF K mg "_law_long" s__law_long ["_law_well_here", "_law_given_here"]
  t__law_told : TF K mg "_law_told" s__law_told ["_law_term", "_law_given_here"]
  t__law_due : TF K mg "_law_due" s__law_due ["_law_term", "_law_given_here"]
  m_all : mg "all" = none
  m_bool : mg "bool" = none
  m_int : mg "int" = none
  m_isinstance : mg "isinstance" = none
  m_len : mg "len" = none
  m_list : mg "list" = none
  m_max : mg "max" = none
  m_range : mg "range" = none
  m_str : mg "str" = none
  m_sum : mg "sum" = none
  m_tuple : mg "tuple" = none
  c_LETTERS : GC mg "LETTERS" (.str "abcdefgh")
  c_MARKS : GD K P mg "MARKS" kv_MARKS
  c_PARTS : GD K P mg "PARTS" kv_PARTS
  x_NoKind : ExcF K mg "NoKind"
  x_NoTerm : ExcF K mg "NoTerm"
  xk : ∀ y ∈ excs, ExcK K mg y
  c_SwapError : CatF K mg excs "SwapError" (fun y => isx y "SwapError")
  i_NoKind : ∀ y ∈ excs, IsxO K mg y "NoKind" (isx y "NoKind")
  i_NoTerm : ∀ y ∈ excs, IsxO K mg y "NoTerm" (isx y "NoTerm")
  i_NoWorth : ∀ y ∈ excs, IsxO K mg y "NoWorth" (isx y "NoWorth")
section
variable {P : Program} {w : World} {K : PySem.W.Frag} {mg : Str → Option Value} {base : Heap}
theorem ok_is_from {k : Nat} {cl : Fn → FF} (T : Txt K w.params mg) (C : ∀ g : Fn, g ≠ .f_law → calOf P w K mg base k g (cl g)) (f : Addr) (cdv : Value) (A : Around) (outer : List Env) (s : Shared) (H : Hp) (E : XK) (hr : RoomG k (A.deeper (envOfC "is_from" (defScope s_is_from) s.heap.objs.size f cdv))) :
    PSs (cxOf (L2.CX P w) P w K mg base ["thing", "low", "high"] "is_from" (defScope s_is_from) f cdv A outer s H E) (defBody s_is_from) (tS (cxOf (L2.CX P w) P w K mg base ["thing", "low", "high"] "is_from" (defScope s_is_from) f cdv A outer s H E) (fun c d _ H => E c d H) (b_is_from cl)) := by
  have tk : Takes (cxOf (L2.CX P w) P w K mg base ["thing", "low", "high"] "is_from" (defScope s_is_from) f cdv A outer s H E) (fun c d _ H => E c d H) := takes_of rfl rfl rfl rfl
  have nd := sc_is_from.nd
  exact (q_last (q_ret (q_and (q_isi rfl T.m_isinstance rfl T.m_int (by decide +kernel) (by decide) (q_var 0)) (q_and (q_not (q_isi rfl T.m_isinstance rfl T.m_bool (by decide +kernel) (by decide) (q_var 0))) (q_one (q_chain op_le (cmp_v _) op_le (cmp_v _) (q_var 1) (q_var 0) (q_var 2)))))))
theorem ok_inner_of {k : Nat} {cl : Fn → FF} (T : Txt K w.params mg) (C : ∀ g : Fn, g ≠ .f_law → calOf P w K mg base k g (cl g)) (f : Addr) (cdv : Value) (A : Around) (outer : List Env) (s : Shared) (H : Hp) (E : XK) (hr : RoomG k (A.deeper (envOfC "inner_of" (defScope s_inner_of) s.heap.objs.size f cdv))) :
    PSs (cxOf (L2.CX P w) P w K mg base ["thing"] "inner_of" (defScope s_inner_of) f cdv A outer s H E) (defBody s_inner_of) (tS (cxOf (L2.CX P w) P w K mg base ["thing"] "inner_of" (defScope s_inner_of) f cdv A outer s H E) (fun c d _ H => E c d H) (b_inner_of cl)) := by
  have tk : Takes (cxOf (L2.CX P w) P w K mg base ["thing"] "inner_of" (defScope s_inner_of) f cdv A outer s H E) (fun c d _ H => E c d H) := takes_of rfl rfl rfl rfl
  have nd := sc_inner_of.nd
  exact (q_seq (q_ifS (PW.pt (qw_or (qt_not (qt_tru (q_isi rfl T.m_isinstance rfl T.m_tuple (by decide +kernel) (by decide) (q_var 0)))) (qw_or (qt_cmp (op_eqU (by have z := hu2 hr; exact z)) eqP_v (q_callB call_len len_v rfl T.m_len PySem.boot_len (q_cons (q_var 0) q_nil)) q_int (nomark _)) (qw_one (qt_not (qt_tru (q_isi rfl T.m_isinstance rfl T.m_str (by decide +kernel) (by decide) (q_ix (q_var 0) q_int)))))))) (q_last (q_ret q_non)) q_snil)
    (q_seq (q_ifS (qt_cmp (op_eqU (by have z := hu2 hr; exact z)) eqP_v (q_ix (q_var 0) q_int) q_str (nomark _)) (q_last (q_ret (q_if (PW.pt (qw_and (qt_cmp (op_eqU (by have z := hu2 hr; exact z)) eqP_v (q_callB call_len len_v rfl T.m_len PySem.boot_len (q_cons (q_var 0) q_nil)) q_int (nomark _)) (qw_one (qt_tru (q_call (C .f_is_from (fun z => nomatch z)) hr tk rfl (q_cons (q_ix (q_var 0) q_int) (q_cons q_int (q_cons (q_op op_sub sub_v (q_callB call_len len_v rfl T.m_len PySem.boot_len (q_cons (q_gc T.c_LETTERS rfl) q_nil)) q_int) q_nil)))))))) (q_lst q_nil) q_non))) q_snil)
    (q_seq (q_ifS (qt_cmp (op_eqU (by have z := hu2 hr; exact z)) eqP_v (q_ix (q_var 0) q_int) q_str (nomark _)) (q_last (q_ret (q_if (qt_cmp (op_eqU (by have z := hu2 hr; exact z)) eqP_v (q_callB call_len len_v rfl T.m_len PySem.boot_len (q_cons (q_var 0) q_nil)) q_int (nomark _)) (q_lst q_nil) q_non))) q_snil)
    (q_last (q_ret (q_if (PW.pt (qw_and (qt_inG T.c_MARKS (q_ix (q_var 0) q_int) (q_gd T.c_MARKS rfl)) (qw_one (qt_cmp (op_eqU (by have z := hu2 hr; exact z)) eqP_v (q_callB call_len len_v rfl T.m_len PySem.boot_len (q_cons (q_var 0) q_nil)) q_int (nomark _))))) (q_callTy call_list_of list_v rfl T.m_list (by decide +kernel) (q_cons (q_slice (q_var 0) (q_some q_int) q_none) q_nil)) q_non))))))
theorem ok_is_kind {k : Nat} {cl : Fn → FF} (T : Txt K w.params mg) (C : ∀ g : Fn, g ≠ .f_law → calOf P w K mg base k g (cl g)) (f : Addr) (cdv : Value) (A : Around) (outer : List Env) (s : Shared) (H : Hp) (E : XK) (hr : RoomG k (A.deeper (envOfC "is_kind" (defScope s_is_kind) s.heap.objs.size f cdv))) :
    PSs (cxOf (L2.CX P w) P w K mg base ["thing", "left", "inner"] "is_kind" (defScope s_is_kind) f cdv A outer s H E) (defBody s_is_kind) (tS (cxOf (L2.CX P w) P w K mg base ["thing", "left", "inner"] "is_kind" (defScope s_is_kind) f cdv A outer s H E) (fun c d _ H => E c d H) (b_is_kind cl)) := by
  have tk : Takes (cxOf (L2.CX P w) P w K mg base ["thing", "left", "inner"] "is_kind" (defScope s_is_kind) f cdv A outer s H E) (fun c d _ H => E c d H) := takes_of rfl rfl rfl rfl
  have nd := sc_is_kind.nd
  exact (q_seq (q_set (i := 1) nd rfl (by first | exact Or.inl rfl | exact Or.inr rfl) (q_cel (q_cons (q_var 0) q_nil)))
    (q_seq (q_while (passes_of rfl) (qt_cmp (op_neU (by have z := hu2 hr; exact z)) neP_v (q_var 1) (q_lst q_nil) (nomark _)) (q_seq (q_set (i := 2) nd rfl (by first | exact Or.inl rfl | exact Or.inr rfl) (q_call (C .f_inner_of (fun z => nomatch z)) hr tk rfl (q_cons (q_mth0 PySem.F.slot_list_pop PySem.F.type_list_pop mt_pop pop0_v (q_var 1)) q_nil)))
    (q_seq (q_ifS (qt_cmp op_isU isU_v (q_var 2) q_non (nomark _)) (q_last (q_ret q_bl)) q_snil)
    (q_last (q_expr (q_mth PySem.F.slot_list_extend PySem.F.type_list_extend mt_extend extend_v (q_var 1) (q_cons (q_var 2) q_nil)))))))
    (q_last (q_ret q_bl))))
theorem ok_sure_given {k : Nat} {cl : Fn → FF} (T : Txt K w.params mg) (C : ∀ g : Fn, g ≠ .f_law → calOf P w K mg base k g (cl g)) (f : Addr) (cdv : Value) (A : Around) (outer : List Env) (s : Shared) (H : Hp) (E : XK) (hr : RoomG k (A.deeper (envOfC "sure_given" (defScope s_sure_given) s.heap.objs.size f cdv))) :
    PSs (cxOf (L2.CX P w) P w K mg base ["given", "kind"] "sure_given" (defScope s_sure_given) f cdv A outer s H E) (defBody s_sure_given) (tS (cxOf (L2.CX P w) P w K mg base ["given", "kind"] "sure_given" (defScope s_sure_given) f cdv A outer s H E) (fun c d _ H => E c d H) (b_sure_given cl)) := by
  have tk : Takes (cxOf (L2.CX P w) P w K mg base ["given", "kind"] "sure_given" (defScope s_sure_given) f cdv A outer s H E) (fun c d _ H => E c d H) := takes_of rfl rfl rfl rfl
  have nd := sc_sure_given.nd
  exact (q_last (q_ifS (PW.pt (qw_or (qt_not (qt_tru (q_isi rfl T.m_isinstance rfl T.m_list (by decide +kernel) (by decide) (q_var 0)))) (qw_one (qt_not (qt_tru (q_callB (cr_all rfl) all_v rfl T.m_all (by decide +kernel) (q_cons (q_lc (own := [("kind", 1)]) rfl nd (qi_list (q_var 0)) (blkOk_by (own := [("kind", 1)]) (by rfl)) (by decide) (fun _ _ _ _ _ => (q_gn (i := 1) nd rfl (by first | exact Or.inl rfl | exact Or.inr rfl))) (fun _ _ _ _ _ => qts_nil) (fun _ _ _ _ _ => (q_call (C .f_is_kind (fun z => nomatch z)) hr takes0 rfl (q_cons (q_var 1) q_nil)))) q_nil))))))) (q_last (q_raise rfl tk T.x_NoKind rfl)) q_snil))
theorem ok_is_shape {k : Nat} {cl : Fn → FF} (T : Txt K w.params mg) (C : ∀ g : Fn, g ≠ .f_law → calOf P w K mg base k g (cl g)) (f : Addr) (cdv : Value) (A : Around) (outer : List Env) (s : Shared) (H : Hp) (E : XK) (hr : RoomG k (A.deeper (envOfC "is_shape" (defScope s_is_shape) s.heap.objs.size f cdv))) :
    PSs (cxOf (L2.CX P w) P w K mg base ["thing"] "is_shape" (defScope s_is_shape) f cdv A outer s H E) (defBody s_is_shape) (tS (cxOf (L2.CX P w) P w K mg base ["thing"] "is_shape" (defScope s_is_shape) f cdv A outer s H E) (fun c d _ H => E c d H) (b_is_shape cl)) := by
  have tk : Takes (cxOf (L2.CX P w) P w K mg base ["thing"] "is_shape" (defScope s_is_shape) f cdv A outer s H E) (fun c d _ H => E c d H) := takes_of rfl rfl rfl rfl
  have nd := sc_is_shape.nd
  exact (q_seq (q_ifS (PW.pt (qw_or (qt_not (qt_tru (q_isi rfl T.m_isinstance rfl T.m_tuple (by decide +kernel) (by decide) (q_var 0)))) (qw_or (qt_cmp (op_eqU (by have z := hu2 hr; exact z)) eqP_v (q_callB call_len len_v rfl T.m_len PySem.boot_len (q_cons (q_var 0) q_nil)) q_int (nomark _)) (qw_one (qt_not (qt_tru (q_isi rfl T.m_isinstance rfl T.m_str (by decide +kernel) (by decide) (q_ix (q_var 0) q_int)))))))) (q_last (q_ret q_bl)) q_snil)
    (q_last (q_ret (q_cmp (op_eqU (by have z := hu2 hr; exact z)) eqP_v (q_getG T.c_PARTS (q_gd T.c_PARTS rfl) (q_ix (q_var 0) q_int)) (q_callB call_len len_v rfl T.m_len PySem.boot_len (q_cons (q_var 0) q_nil)) (nomark _)))))
theorem ok_kind_of_given {k : Nat} {cl : Fn → FF} (T : Txt K w.params mg) (C : ∀ g : Fn, g ≠ .f_law → calOf P w K mg base k g (cl g)) (f : Addr) (cdv : Value) (A : Around) (outer : List Env) (s : Shared) (H : Hp) (E : XK) (hr : RoomG k (A.deeper (envOfC "kind_of_given" (defScope s_kind_of_given) s.heap.objs.size f cdv))) :
    PSs (cxOf (L2.CX P w) P w K mg base ["k", "given"] "kind_of_given" (defScope s_kind_of_given) f cdv A outer s H E) (defBody s_kind_of_given) (tS (cxOf (L2.CX P w) P w K mg base ["k", "given"] "kind_of_given" (defScope s_kind_of_given) f cdv A outer s H E) (fun c d _ H => E c d H) (b_kind_of_given cl)) := by
  have tk : Takes (cxOf (L2.CX P w) P w K mg base ["k", "given"] "kind_of_given" (defScope s_kind_of_given) f cdv A outer s H E) (fun c d _ H => E c d H) := takes_of rfl rfl rfl rfl
  have nd := sc_kind_of_given.nd
  exact (q_seq (q_ifS (PW.pt (qw_or (qt_not (qt_tru (q_isi rfl T.m_isinstance rfl T.m_int (by decide +kernel) (by decide) (q_var 0)))) (qw_or (qt_tru (q_isi rfl T.m_isinstance rfl T.m_bool (by decide +kernel) (by decide) (q_var 0))) (qw_one (qt_not (qt_chain op_le (cmp_v _) op_lt (cmp_v _) q_int (q_var 0) (q_callB call_len len_v rfl T.m_len PySem.boot_len (q_cons (q_var 1) q_nil)))))))) (q_last (q_ret q_non)) q_snil)
    (q_last (q_ret (q_ix (q_var 1) (q_var 0)))))
theorem ok_kind_of_two {k : Nat} {cl : Fn → FF} (T : Txt K w.params mg) (C : ∀ g : Fn, g ≠ .f_law → calOf P w K mg base k g (cl g)) (f : Addr) (cdv : Value) (A : Around) (outer : List Env) (s : Shared) (H : Hp) (E : XK) (hr : RoomG k (A.deeper (envOfC "kind_of_two" (defScope s_kind_of_two) s.heap.objs.size f cdv))) :
    PSs (cxOf (L2.CX P w) P w K mg base ["word", "one", "other"] "kind_of_two" (defScope s_kind_of_two) f cdv A outer s H E) (defBody s_kind_of_two) (tS (cxOf (L2.CX P w) P w K mg base ["word", "one", "other"] "kind_of_two" (defScope s_kind_of_two) f cdv A outer s H E) (fun c d _ H => E c d H) (b_kind_of_two cl)) := by
  have tk : Takes (cxOf (L2.CX P w) P w K mg base ["word", "one", "other"] "kind_of_two" (defScope s_kind_of_two) f cdv A outer s H E) (fun c d _ H => E c d H) := takes_of rfl rfl rfl rfl
  have nd := sc_kind_of_two.nd
  exact (q_seq (q_ifS (PW.pt (qw_or (qt_cmp op_isU isU_v (q_var 1) q_non (nomark _)) (qw_one (qt_cmp op_isU isU_v (q_var 2) q_non (nomark _))))) (q_last (q_ret q_non)) q_snil)
    (q_seq (q_ifS (qt_cmp (op_eqU (by have z := hu2 hr; exact z)) eqP_v (q_var 0) q_str (nomark _)) (q_last (q_ret (q_tup (q_cons q_str (q_cons (q_var 1) (q_cons (q_var 2) q_nil)))))) q_snil)
    (q_last (q_ret (q_if (PW.pt (qw_and (qt_cmp (op_eqU (by have z := hu2 hr; exact z)) eqP_v (q_ix (q_var 1) q_int) q_str (nomark _)) (qw_one (qt_cmp (op_eqU (by have z := hu2 hr; exact z)) eqP_v (q_ix (q_var 1) q_int) (q_var 2) (nomark _))))) (q_ix (q_var 1) q_int) q_non)))))
theorem ok_kind_in {k : Nat} {cl : Fn → FF} (T : Txt K w.params mg) (C : ∀ g : Fn, g ≠ .f_law → calOf P w K mg base k g (cl g)) (f : Addr) (cdv : Value) (A : Around) (outer : List Env) (s : Shared) (H : Hp) (E : XK) (hr : RoomG k (A.deeper (envOfC "kind_in" (defScope s_kind_in) s.heap.objs.size f cdv))) :
    PSs (cxOf (L2.CX P w) P w K mg base ["term", "given", "word", "one", "body"] "kind_in" (defScope s_kind_in) f cdv A outer s H E) (defBody s_kind_in) (tS (cxOf (L2.CX P w) P w K mg base ["term", "given", "word", "one", "body"] "kind_in" (defScope s_kind_in) f cdv A outer s H E) (fun c d _ H => E c d H) (b_kind_in cl)) := by
  have tk : Takes (cxOf (L2.CX P w) P w K mg base ["term", "given", "word", "one", "body"] "kind_in" (defScope s_kind_in) f cdv A outer s H E) (fun c d _ H => E c d H) := takes_of rfl rfl rfl rfl
  have nd := sc_kind_in.nd
  exact (q_seq (q_ifS (qt_not (qt_tru (q_call (C .f_is_shape (fun z => nomatch z)) hr tk rfl (q_cons (q_var 0) q_nil)))) (q_last (q_ret q_non)) q_snil)
    (q_seq (q_set (i := 2) nd rfl (by first | exact Or.inl rfl | exact Or.inr rfl) (q_ix (q_var 0) q_int))
    (q_seq (q_ifS (qt_cmp (op_eqU (by have z := hu2 hr; exact z)) eqP_v (q_var 2) q_str (nomark _)) (q_last (q_ret (q_tup (q_cons q_str q_nil)))) q_snil)
    (q_seq (q_ifS (qt_cmp (op_eqU (by have z := hu2 hr; exact z)) eqP_v (q_var 2) q_str (nomark _)) (q_last (q_ret (q_call (C .f_kind_of_given (fun z => nomatch z)) hr tk rfl (q_cons (q_ix (q_var 0) q_int) (q_cons (q_var 1) q_nil))))) q_snil)
    (q_seq (q_ifS (qt_cmp (op_eqU (by have z := hu2 hr; exact z)) eqP_v (q_var 2) q_str (nomark _)) (q_seq (q_set (i := 4) nd rfl (by first | exact Or.inl rfl | exact Or.inr rfl) (q_if (qt_tru (q_call (C .f_is_kind (fun z => nomatch z)) hr tk rfl (q_cons (q_ix (q_var 0) q_int) q_nil))) (q_call (C .f_kind_in (fun z => nomatch z)) hr tk rfl (q_cons (q_ix (q_var 0) q_int) (q_cons (q_op op_addU addU_v (q_var 1) (q_lst (q_cons (q_ix (q_var 0) q_int) q_nil))) q_nil))) q_non))
    (q_last (q_ret (q_if (qt_cmp op_isU isU_v (q_var 4) q_non (nomark _)) q_non (q_tup (q_cons q_str (q_cons (q_ix (q_var 0) q_int) (q_cons (q_var 4) q_nil)))))))) q_snil)
    (q_seq (q_set (i := 3) nd rfl (by first | exact Or.inl rfl | exact Or.inr rfl) (q_call (C .f_kind_in (fun z => nomatch z)) hr tk rfl (q_cons (q_ix (q_var 0) q_int) (q_cons (q_var 1) q_nil))))
    (q_seq (q_ifS (qt_cmp (op_inU (by have z := hu2 hr; exact z)) inU_v (q_var 2) (q_tup (q_cons q_str (q_cons q_str q_nil))) (by rfl)) (q_last (q_ret (q_call (C .f_kind_of_two (fun z => nomatch z)) hr tk rfl (q_cons (q_var 2) (q_cons (q_var 3) (q_cons (q_call (C .f_kind_in (fun z => nomatch z)) hr tk rfl (q_cons (q_ix (q_var 0) q_int) (q_cons (q_var 1) q_nil))) q_nil)))))) q_snil)
    (q_seq (q_ifS (PW.pt (qw_or (qt_cmp op_isU isU_v (q_var 3) q_non (nomark _)) (qw_one (qt_cmp (op_neU (by have z := hu2 hr; exact z)) neP_v (q_ix (q_var 3) q_int) q_str (nomark _))))) (q_last (q_ret q_non)) q_snil)
    (q_last (q_ret (q_if (qt_cmp (op_eqU (by have z := hu2 hr; exact z)) eqP_v (q_var 2) q_str (nomark _)) (q_ix (q_var 3) q_int) (q_ix (q_var 3) q_int))))))))))))
theorem ok_sure_kind_in {k : Nat} {cl : Fn → FF} (T : Txt K w.params mg) (C : ∀ g : Fn, g ≠ .f_law → calOf P w K mg base k g (cl g)) (f : Addr) (cdv : Value) (A : Around) (outer : List Env) (s : Shared) (H : Hp) (E : XK) (hr : RoomG k (A.deeper (envOfC "sure_kind_in" (defScope s_sure_kind_in) s.heap.objs.size f cdv))) :
    PSs (cxOf (L2.CX P w) P w K mg base ["term", "given", "found"] "sure_kind_in" (defScope s_sure_kind_in) f cdv A outer s H E) (defBody s_sure_kind_in) (tS (cxOf (L2.CX P w) P w K mg base ["term", "given", "found"] "sure_kind_in" (defScope s_sure_kind_in) f cdv A outer s H E) (fun c d _ H => E c d H) (b_sure_kind_in cl)) := by
  have tk : Takes (cxOf (L2.CX P w) P w K mg base ["term", "given", "found"] "sure_kind_in" (defScope s_sure_kind_in) f cdv A outer s H E) (fun c d _ H => E c d H) := takes_of rfl rfl rfl rfl
  have nd := sc_sure_kind_in.nd
  exact (q_seq (q_set (i := 2) nd rfl (by first | exact Or.inl rfl | exact Or.inr rfl) (q_call (C .f_kind_in (fun z => nomatch z)) hr tk rfl (q_cons (q_var 0) (q_cons (q_var 1) q_nil))))
    (q_seq (q_ifS (qt_cmp op_isU isU_v (q_var 2) q_non (nomark _)) (q_last (q_raise rfl tk T.x_NoTerm rfl)) q_snil)
    (q_last (q_ret (q_var 2)))))
theorem ok_term_kind {k : Nat} {cl : Fn → FF} (T : Txt K w.params mg) (C : ∀ g : Fn, g ≠ .f_law → calOf P w K mg base k g (cl g)) (f : Addr) (cdv : Value) (A : Around) (outer : List Env) (s : Shared) (H : Hp) (E : XK) (hr : RoomG k (A.deeper (envOfC "term_kind" (defScope s_term_kind) s.heap.objs.size f cdv))) :
    PSs (cxOf (L2.CX P w) P w K mg base ["term", "given"] "term_kind" (defScope s_term_kind) f cdv A outer s H E) (defBody s_term_kind) (tS (cxOf (L2.CX P w) P w K mg base ["term", "given"] "term_kind" (defScope s_term_kind) f cdv A outer s H E) (fun c d _ H => E c d H) (b_term_kind cl)) := by
  have tk : Takes (cxOf (L2.CX P w) P w K mg base ["term", "given"] "term_kind" (defScope s_term_kind) f cdv A outer s H E) (fun c d _ H => E c d H) := takes_of rfl rfl rfl rfl
  have nd := sc_term_kind.nd
  exact (q_seq (q_expr (q_call (C .f_sure_given (fun z => nomatch z)) hr tk rfl (q_cons (q_var 1) q_nil)))
    (q_last (q_ret (q_call (C .f_sure_kind_in (fun z => nomatch z)) hr tk rfl (q_cons (q_var 0) (q_cons (q_var 1) q_nil))))))
theorem ok__law_well {k : Nat} {cl : Fn → FF} (T : Txt K w.params mg) (C : ∀ g : Fn, g ≠ .f_law → calOf P w K mg base k g (cl g)) (f : Addr) (cdv : Value) (A : Around) (outer : List Env) (s : Shared) (H : Hp) (E : XK) (hr : RoomG k (A.deeper (envOfC "_law_well" (defScope s__law_well) s.heap.objs.size f cdv))) :
    PSs (cxOf (L2.CX P w) P w K mg base ["_law_cell"] "_law_well" (defScope s__law_well) f cdv A outer s H E) (defBody s__law_well) (tS (cxOf (L2.CX P w) P w K mg base ["_law_cell"] "_law_well" (defScope s__law_well) f cdv A outer s H E) (fun c d _ H => E c d H) (b__law_well cl)) := by
  have tk : Takes (cxOf (L2.CX P w) P w K mg base ["_law_cell"] "_law_well" (defScope s__law_well) f cdv A outer s H E) (fun c d _ H => E c d H) := takes_of rfl rfl rfl rfl
  have nd := sc__law_well.nd
  exact (q_last (q_ret (q_cel (q_cons (q_op op_mulU mulU_v (q_var 0) (q_callTy call_int1 int_v rfl T.m_int (by decide +kernel) (q_cons (q_cmp op_ge (cmp_v _) (q_var 0) (q_op op_pow pow_v q_int q_int) (nomark _)) q_nil))) (q_cons (q_var 0) (q_cons q_int q_nil))))))
theorem ok__law_draw {k : Nat} {cl : Fn → FF} (T : Txt K w.params mg) (C : ∀ g : Fn, g ≠ .f_law → calOf P w K mg base k g (cl g)) (f : Addr) (cdv : Value) (A : Around) (outer : List Env) (s : Shared) (H : Hp) (E : XK) (hr : RoomG k (A.deeper (envOfC "_law_draw" (defScope s__law_draw) s.heap.objs.size f cdv))) :
    PSs (cxOf (L2.CX P w) P w K mg base ["_law_well_here", "_law_width", "_law_low", "_law_digit_told"] "_law_draw" (defScope s__law_draw) f cdv A outer s H E) (defBody s__law_draw) (tS (cxOf (L2.CX P w) P w K mg base ["_law_well_here", "_law_width", "_law_low", "_law_digit_told"] "_law_draw" (defScope s__law_draw) f cdv A outer s H E) (fun c d _ H => E c d H) (b__law_draw cl)) := by
  have tk : Takes (cxOf (L2.CX P w) P w K mg base ["_law_well_here", "_law_width", "_law_low", "_law_digit_told"] "_law_draw" (defScope s__law_draw) f cdv A outer s H E) (fun c d _ H => E c d H) := takes_of rfl rfl rfl rfl
  have nd := sc__law_draw.nd
  exact (q_seq (q_ifS (qt_cmp op_gt (cmp_v _) (q_ix (q_var 0) q_int) q_int (nomark _)) (q_seq (q_set (i := 3) nd rfl (by first | exact Or.inl rfl | exact Or.inr rfl) (q_op op_mod mod_v (q_ix (q_var 0) q_int) (q_var 1)))
    (q_seq (q_asg (q_op op_fdivW div_v (q_ix (q_var 0) q_int) (q_var 1)) (q_gsb (W := W0) (q_var 0) q_int))
    (q_last (q_ret (q_var 3))))) q_snil)
    (q_seq (q_asg (q_op op_addU addU_v (q_ix (q_var 0) q_int) q_int) (q_gsb (W := W0) (q_var 0) q_int))
    (q_seq (q_set (i := 2) nd rfl (by first | exact Or.inl rfl | exact Or.inr rfl) (q_op op_addU addU_v (q_op op_mod mod_v (q_ix (q_var 0) q_int) q_int) (q_op op_mulU mulU_v (q_op op_fdivW div_v (q_ix (q_var 0) q_int) q_int) q_int)))
    (q_seq (q_set (i := 2) nd rfl (by first | exact Or.inl rfl | exact Or.inr rfl) (q_op op_mod mod_v (q_op op_mulU mulU_v (q_op op_addU addU_v (q_op op_addU addU_v (q_var 2) (q_op op_mulU mulU_v q_int (q_ix (q_var 0) q_int))) q_int) q_int) q_int))
    (q_seq (q_set (i := 2) nd rfl (by first | exact Or.inl rfl | exact Or.inr rfl) (q_op op_mod mod_v (q_op op_mulU mulU_v (q_var 2) (q_op op_addU addU_v (q_op op_addU addU_v (q_op op_fdivW div_v (q_var 2) q_int) q_int) (q_ix (q_var 0) q_int))) q_int))
    (q_last (q_ret (q_op op_mod mod_v (q_op op_mod mod_v (q_op op_mulU mulU_v (q_var 2) (q_op op_addU addU_v (q_op op_fdivW div_v (q_var 2) q_int) q_int)) q_int) (q_var 1)))))))))
theorem ok__law_kind {k : Nat} {cl : Fn → FF} (T : Txt K w.params mg) (C : ∀ g : Fn, g ≠ .f_law → calOf P w K mg base k g (cl g)) (f : Addr) (cdv : Value) (A : Around) (outer : List Env) (s : Shared) (H : Hp) (E : XK) (hr : RoomG k (A.deeper (envOfC "_law_kind" (defScope s__law_kind) s.heap.objs.size f cdv))) :
    PSs (cxOf (L2.CX P w) P w K mg base ["_law_well_here", "_law_deep_here", "_law_way"] "_law_kind" (defScope s__law_kind) f cdv A outer s H E) (defBody s__law_kind) (tS (cxOf (L2.CX P w) P w K mg base ["_law_well_here", "_law_deep_here", "_law_way"] "_law_kind" (defScope s__law_kind) f cdv A outer s H E) (fun c d _ H => E c d H) (b__law_kind cl)) := by
  have tk : Takes (cxOf (L2.CX P w) P w K mg base ["_law_well_here", "_law_deep_here", "_law_way"] "_law_kind" (defScope s__law_kind) f cdv A outer s H E) (fun c d _ H => E c d H) := takes_of rfl rfl rfl rfl
  have nd := sc__law_kind.nd
  exact (q_seq (q_set (i := 2) nd rfl (by first | exact Or.inl rfl | exact Or.inr rfl) (q_call (C .f__law_draw (fun z => nomatch z)) hr tk rfl (q_cons (q_var 0) (q_cons q_int q_nil))))
    (q_seq (q_ifS (PW.pt (qw_or (qt_cmp (op_eqU (by have z := hu2 hr; exact z)) eqP_v (q_var 1) q_int (nomark _)) (qw_one (qt_cmp op_lt (cmp_v _) (q_var 2) q_int (nomark _))))) (q_last (q_ret (q_tup (q_cons q_str (q_cons (q_call (C .f__law_draw (fun z => nomatch z)) hr tk rfl (q_cons (q_var 0) (q_cons (q_ix (q_lst (q_cons q_int (q_cons q_int (q_cons q_int q_nil)))) (q_call (C .f__law_draw (fun z => nomatch z)) hr tk rfl (q_cons (q_var 0) (q_cons q_int q_nil)))) q_nil))) q_nil))))) q_snil)
    (q_seq (q_ifS (qt_cmp (op_eqU (by have z := hu2 hr; exact z)) eqP_v (q_var 2) q_int (nomark _)) (q_last (q_ret (q_tup (q_cons q_str q_nil)))) q_snil)
    (q_seq (q_ifS (qt_cmp op_lt (cmp_v _) (q_var 2) q_int (nomark _)) (q_last (q_ret (q_tup (q_cons q_str (q_cons (q_call (C .f__law_kind (fun z => nomatch z)) hr tk rfl (q_cons (q_var 0) (q_cons (q_op op_sub sub_v (q_var 1) q_int) q_nil))) (q_cons (q_call (C .f__law_kind (fun z => nomatch z)) hr tk rfl (q_cons (q_var 0) (q_cons (q_op op_sub sub_v (q_var 1) q_int) q_nil))) q_nil)))))) q_snil)
    (q_last (q_ret (q_tup (q_cons q_str (q_cons (q_call (C .f__law_kind (fun z => nomatch z)) hr tk rfl (q_cons (q_var 0) (q_cons (q_op op_sub sub_v (q_var 1) q_int) q_nil))) (q_cons (q_call (C .f__law_kind (fun z => nomatch z)) hr tk rfl (q_cons (q_var 0) (q_cons (q_op op_sub sub_v (q_var 1) q_int) q_nil))) q_nil))))))))))
theorem ok__law_ways {k : Nat} {cl : Fn → FF} (T : Txt K w.params mg) (C : ∀ g : Fn, g ≠ .f_law → calOf P w K mg base k g (cl g)) (f : Addr) (cdv : Value) (A : Around) (outer : List Env) (s : Shared) (H : Hp) (E : XK) (hr : RoomG k (A.deeper (envOfC "_law_ways" (defScope s__law_ways) s.heap.objs.size f cdv))) :
    PSs (cxOf (L2.CX P w) P w K mg base ["_law_kind_here", "_law_n", "_law_first", "_law_way"] "_law_ways" (defScope s__law_ways) f cdv A outer s H E) (defBody s__law_ways) (tS (cxOf (L2.CX P w) P w K mg base ["_law_kind_here", "_law_n", "_law_first", "_law_way"] "_law_ways" (defScope s__law_ways) f cdv A outer s H E) (fun c d _ H => E c d H) (b__law_ways cl)) := by
  have tk : Takes (cxOf (L2.CX P w) P w K mg base ["_law_kind_here", "_law_n", "_law_first", "_law_way"] "_law_ways" (defScope s__law_ways) f cdv A outer s H E) (fun c d _ H => E c d H) := takes_of rfl rfl rfl rfl
  have nd := sc__law_ways.nd
  exact (q_seq (q_ifS (qt_cmp (op_eqU (by have z := hu2 hr; exact z)) eqP_v (q_ix (q_var 0) q_int) q_str (nomark _)) (q_last (q_ret (q_op op_mulU mulU_v (q_lst (q_cons (q_lst q_nil) q_nil)) (q_callTy call_int1 int_v rfl T.m_int (by decide +kernel) (q_cons (q_cmp (op_eqU (by have z := hu2 hr; exact z)) eqP_v (q_ix (q_var 0) q_int) (q_var 1) (nomark _)) q_nil))))) q_snil)
    (q_seq (q_ifS (qt_cmp (op_eqU (by have z := hu2 hr; exact z)) eqP_v (q_ix (q_var 0) q_int) q_str (nomark _)) (q_last (q_ret (q_lst q_nil))) q_snil)
    (q_seq (q_ifS (qt_cmp (op_eqU (by have z := hu2 hr; exact z)) eqP_v (q_ix (q_var 0) q_int) q_str (nomark _)) (q_last (q_ret (q_lc (own := [("_law_way", 3)]) rfl nd (qi_list (q_call (C .f__law_ways (fun z => nomatch z)) hr tk rfl (q_cons (q_ix (q_var 0) q_int) (q_cons (q_var 1) q_nil)))) (blkOk_by (own := [("_law_way", 3)]) (by rfl)) (by decide) (fun _ _ _ _ _ => (q_gn (i := 3) nd rfl (by first | exact Or.inl rfl | exact Or.inr rfl))) (fun _ _ _ _ _ => qts_nil) (fun _ _ _ _ _ => (q_op op_addU addU_v (q_lst (q_cons (q_ix (q_var 0) q_int) q_nil)) (q_var 3)))))) q_snil)
    (q_seq (by first | exact (q_setLc (i := 2) (own := [("_law_way", 3)]) rfl nd rfl rfl (sw_true rfl rfl rfl (by decide +kernel)) (qi_list (q_call (C .f__law_ways (fun z => nomatch z)) hr tk rfl (q_cons (q_ix (q_var 0) q_int) (q_cons (q_var 1) q_nil)))) (blkOk_by (own := [("_law_way", 3)]) (by rfl)) (by decide) (fun _ _ _ _ _ => (q_gn (i := 3) nd rfl (by first | exact Or.inl rfl | exact Or.inr rfl))) (fun _ _ _ _ _ => qts_nil) (fun _ _ _ _ _ => (q_op op_addU addU_v (q_lst (q_cons q_str q_nil)) (q_var 3)))) | exact (q_set (i := 2) nd rfl (by first | exact Or.inl rfl | exact Or.inr rfl) (q_lc (own := [("_law_way", 3)]) rfl nd (qi_list (q_call (C .f__law_ways (fun z => nomatch z)) hr tk rfl (q_cons (q_ix (q_var 0) q_int) (q_cons (q_var 1) q_nil)))) (blkOk_by (own := [("_law_way", 3)]) (by rfl)) (by decide) (fun _ _ _ _ _ => (q_gn (i := 3) nd rfl (by first | exact Or.inl rfl | exact Or.inr rfl))) (fun _ _ _ _ _ => qts_nil) (fun _ _ _ _ _ => (q_op op_addU addU_v (q_lst (q_cons q_str q_nil)) (q_var 3))))))
    (q_last (q_ret (q_op op_addU addU_v (q_var 2) (q_lc (own := [("_law_way", 3)]) rfl nd (qi_list (q_call (C .f__law_ways (fun z => nomatch z)) hr tk rfl (q_cons (q_ix (q_var 0) q_int) (q_cons (q_var 1) q_nil)))) (blkOk_by (own := [("_law_way", 3)]) (by rfl)) (by decide) (fun _ _ _ _ _ => (q_gn (i := 3) nd rfl (by first | exact Or.inl rfl | exact Or.inr rfl))) (fun _ _ _ _ _ => qts_nil) (fun _ _ _ _ _ => (q_op op_addU addU_v (q_lst (q_cons q_str q_nil)) (q_var 3)))))))))))
theorem ok__law_flat {k : Nat} {cl : Fn → FF} (T : Txt K w.params mg) (C : ∀ g : Fn, g ≠ .f_law → calOf P w K mg base k g (cl g)) (f : Addr) (cdv : Value) (A : Around) (outer : List Env) (s : Shared) (H : Hp) (E : XK) (hr : RoomG k (A.deeper (envOfC "_law_flat" (defScope s__law_flat) s.heap.objs.size f cdv))) :
    PSs (cxOf (L2.CX P w) P w K mg base ["_law_well_here", "_law_kind_here", "_law_given_here", "_law_fuel", "_law_ways_here", "_law_k", "_law_way", "_law_term", "_law_step", "_law_pair"] "_law_flat" (defScope s__law_flat) f cdv A outer s H E) (defBody s__law_flat) (tS (cxOf (L2.CX P w) P w K mg base ["_law_well_here", "_law_kind_here", "_law_given_here", "_law_fuel", "_law_ways_here", "_law_k", "_law_way", "_law_term", "_law_step", "_law_pair"] "_law_flat" (defScope s__law_flat) f cdv A outer s H E) (fun c d _ H => E c d H) (b__law_flat cl)) := by
  have tk : Takes (cxOf (L2.CX P w) P w K mg base ["_law_well_here", "_law_kind_here", "_law_given_here", "_law_fuel", "_law_ways_here", "_law_k", "_law_way", "_law_term", "_law_step", "_law_pair"] "_law_flat" (defScope s__law_flat) f cdv A outer s H E) (fun c d _ H => E c d H) := takes_of rfl rfl rfl rfl
  have nd := sc__law_flat.nd
  exact (q_seq (q_ifS (qt_cmp (op_eqU (by have z := hu2 hr; exact z)) eqP_v (q_ix (q_var 1) q_int) q_str (nomark _)) (q_last (q_ret (q_tup (q_cons q_str q_nil)))) q_snil)
    (q_seq (q_ifS (qt_cmp (op_eqU (by have z := hu2 hr; exact z)) eqP_v (q_ix (q_var 1) q_int) q_str (nomark _)) (q_last (q_ret (q_tup (q_cons q_str (q_cons (q_call (C .f__law_flat (fun z => nomatch z)) hr tk rfl (q_cons (q_var 0) (q_cons (q_ix (q_var 1) q_int) (q_cons (q_var 2) (q_cons (q_var 3) q_nil))))) (q_cons (q_call (C .f__law_flat (fun z => nomatch z)) hr tk rfl (q_cons (q_var 0) (q_cons (q_ix (q_var 1) q_int) (q_cons (q_var 2) (q_cons (q_var 3) q_nil))))) q_nil)))))) q_snil)
    (q_seq (q_ifS (qt_cmp (op_eqU (by have z := hu2 hr; exact z)) eqP_v (q_ix (q_var 1) q_int) q_str (nomark _)) (q_last (q_ret (q_tup (q_cons q_str (q_cons (q_ix (q_var 1) q_int) (q_cons (q_call (C .f__law_flat (fun z => nomatch z)) hr tk rfl (q_cons (q_var 0) (q_cons (q_ix (q_var 1) q_int) (q_cons (q_op op_addU addU_v (q_var 2) (q_lst (q_cons (q_ix (q_var 1) q_int) q_nil))) (q_cons (q_var 3) q_nil))))) q_nil)))))) q_snil)
    (q_seq (q_set (i := 4) nd rfl (by first | exact Or.inl rfl | exact Or.inr rfl) (q_lst q_nil))
    (q_seq (q_for (passes_of rfl) rfl (qi_range1 rfl T.m_range (q_cons (q_callB call_len len_v rfl T.m_len PySem.boot_len (q_cons (q_var 2) q_nil)) q_nil)) (q_gn (i := 5) nd rfl (by first | exact Or.inl rfl | exact Or.inr rfl)) (q_last (q_set (i := 4) nd rfl (by first | exact Or.inl rfl | exact Or.inr rfl) (q_op op_addU addU_v (q_var 4) (q_lc (own := [("_law_way", 6)]) rfl nd (qi_list (q_call (C .f__law_ways (fun z => nomatch z)) hr tk rfl (q_cons (q_ix (q_var 2) (q_var 5)) (q_cons (q_ix (q_var 1) q_int) q_nil)))) (blkOk_by (own := [("_law_way", 6)]) (by rfl)) (by decide) (fun _ _ _ _ _ => (q_gn (i := 6) nd rfl (by first | exact Or.inl rfl | exact Or.inr rfl))) (fun _ _ _ _ _ => qts_nil) (fun _ _ _ _ _ => (q_tup (q_cons (q_var 5) (q_cons (q_var 6) q_nil)))))))))
    (q_seq (q_ifS (qt_cmp op_le (cmp_v _) (q_var 3) q_int (nomark _)) (q_last (by first | exact (q_setLc (i := 4) (own := [("_law_pair", 9)]) rfl nd rfl rfl (sw_true rfl rfl rfl (by decide +kernel)) (qi_list (q_var 4)) (blkOk_by (own := [("_law_pair", 9)]) (by rfl)) (by decide) (fun _ _ _ _ _ => (q_gn (i := 9) nd rfl (by first | exact Or.inl rfl | exact Or.inr rfl))) (fun _ _ _ _ _ => (qts_one (qt_cmp (op_eqU (by have z := hu2 hr; exact z)) eqP_v (q_ix (q_var 9) q_int) (q_lst q_nil) (nomark _)))) (fun _ _ _ _ _ => (q_var 9))) | exact (q_set (i := 4) nd rfl (by first | exact Or.inl rfl | exact Or.inr rfl) (q_lc (own := [("_law_pair", 9)]) rfl nd (qi_list (q_var 4)) (blkOk_by (own := [("_law_pair", 9)]) (by rfl)) (by decide) (fun _ _ _ _ _ => (q_gn (i := 9) nd rfl (by first | exact Or.inl rfl | exact Or.inr rfl))) (fun _ _ _ _ _ => (qts_one (qt_cmp (op_eqU (by have z := hu2 hr; exact z)) eqP_v (q_ix (q_var 9) q_int) (q_lst q_nil) (nomark _)))) (fun _ _ _ _ _ => (q_var 9)))))) q_snil)
    (q_seq (q_asg (q_ix (q_var 4) (q_call (C .f__law_draw (fun z => nomatch z)) hr tk rfl (q_cons (q_var 0) (q_cons (q_callB call_len len_v rfl T.m_len PySem.boot_len (q_cons (q_var 4) q_nil)) q_nil)))) (q_gtu rfl (q_gscons (q_gn (i := 5) nd rfl (by first | exact Or.inl rfl | exact Or.inr rfl)) (q_gscons (q_gn (i := 6) nd rfl (by first | exact Or.inl rfl | exact Or.inr rfl)) q_gsnil))))
    (q_seq (q_set (i := 7) nd rfl (by first | exact Or.inl rfl | exact Or.inr rfl) (q_tup (q_cons q_str (q_cons (q_var 5) q_nil))))
    (q_seq (q_for (passes_of rfl) rfl (qi_list (q_var 6)) (q_gn (i := 8) nd rfl (by first | exact Or.inl rfl | exact Or.inr rfl)) (q_last (q_ifS (qt_tru (q_isi rfl T.m_isinstance rfl T.m_str (by decide +kernel) (by decide) (q_var 8))) (q_last (q_set (i := 7) nd rfl (by first | exact Or.inl rfl | exact Or.inr rfl) (q_tup (q_cons (q_var 8) (q_cons (q_var 7) q_nil))))) (q_last (q_set (i := 7) nd rfl (by first | exact Or.inl rfl | exact Or.inr rfl) (q_tup (q_cons q_str (q_cons (q_var 7) (q_cons (q_call (C .f__law_flat (fun z => nomatch z)) hr tk rfl (q_cons (q_var 0) (q_cons (q_var 8) (q_cons (q_var 2) (q_cons (q_op op_sub sub_v (q_var 3) q_int) q_nil))))) q_nil)))))))))
    (q_last (q_ret (q_var 7))))))))))))
theorem ok__law_lift {k : Nat} {cl : Fn → FF} (T : Txt K w.params mg) (C : ∀ g : Fn, g ≠ .f_law → calOf P w K mg base k g (cl g)) (f : Addr) (cdv : Value) (A : Around) (outer : List Env) (s : Shared) (H : Hp) (E : XK) (hr : RoomG k (A.deeper (envOfC "_law_lift" (defScope s__law_lift) s.heap.objs.size f cdv))) :
    PSs (cxOf (L2.CX P w) P w K mg base ["_law_term", "_law_at", "_law_part"] "_law_lift" (defScope s__law_lift) f cdv A outer s H E) (defBody s__law_lift) (tS (cxOf (L2.CX P w) P w K mg base ["_law_term", "_law_at", "_law_part"] "_law_lift" (defScope s__law_lift) f cdv A outer s H E) (fun c d _ H => E c d H) (b__law_lift cl)) := by
  have tk : Takes (cxOf (L2.CX P w) P w K mg base ["_law_term", "_law_at", "_law_part"] "_law_lift" (defScope s__law_lift) f cdv A outer s H E) (fun c d _ H => E c d H) := takes_of rfl rfl rfl rfl
  have nd := sc__law_lift.nd
  exact (q_seq (q_ifS (qt_cmp (op_eqU (by have z := hu2 hr; exact z)) eqP_v (q_ix (q_var 0) q_int) q_str (nomark _)) (q_last (q_ret (q_tup (q_cons q_str (q_cons (q_op op_addU addU_v (q_ix (q_var 0) q_int) (q_callTy call_int1 int_v rfl T.m_int (by decide +kernel) (q_cons (q_cmp op_ge (cmp_v _) (q_ix (q_var 0) q_int) (q_var 1) (nomark _)) q_nil))) q_nil))))) q_snil)
    (q_seq (q_ifS (qt_cmp (op_eqU (by have z := hu2 hr; exact z)) eqP_v (q_ix (q_var 0) q_int) q_str (nomark _)) (q_last (q_ret (q_tup (q_cons q_str (q_cons (q_ix (q_var 0) q_int) (q_cons (q_call (C .f__law_lift (fun z => nomatch z)) hr tk rfl (q_cons (q_ix (q_var 0) q_int) (q_cons (q_var 1) q_nil))) q_nil)))))) q_snil)
    (q_last (q_ret (q_callTy call_tuple_of tuple_v rfl T.m_tuple (by decide +kernel) (q_cons (q_op op_addU addU_v (q_lst (q_cons (q_ix (q_var 0) q_int) q_nil)) (q_lc (own := [("_law_part", 2)]) rfl nd (qi_tup (q_slice (q_var 0) (q_some q_int) q_none)) (blkOk_by (own := [("_law_part", 2)]) (by rfl)) (by decide) (fun _ _ _ _ _ => (q_gn (i := 2) nd rfl (by first | exact Or.inl rfl | exact Or.inr rfl))) (fun _ _ _ _ _ => qts_nil) (fun _ _ _ _ _ => (q_call (C .f__law_lift (fun z => nomatch z)) hr takes0 rfl (q_cons (q_var 2) (q_cons (q_var 1) q_nil)))))) q_nil))))))
theorem ok__law_kind_of {k : Nat} {cl : Fn → FF} (T : Txt K w.params mg) (C : ∀ g : Fn, g ≠ .f_law → calOf P w K mg base k g (cl g)) (f : Addr) (cdv : Value) (A : Around) (outer : List Env) (s : Shared) (H : Hp) (E : XK) (hr : RoomG k (A.deeper (envOfC "_law_kind_of" (defScope s__law_kind_of) s.heap.objs.size f cdv))) :
    PSs (cxOf (L2.CX P w) P w K mg base ["_law_term", "_law_given_here", "_law_one"] "_law_kind_of" (defScope s__law_kind_of) f cdv A outer s H E) (defBody s__law_kind_of) (tS (cxOf (L2.CX P w) P w K mg base ["_law_term", "_law_given_here", "_law_one"] "_law_kind_of" (defScope s__law_kind_of) f cdv A outer s H E) (fun c d _ H => E c d H) (b__law_kind_of cl)) := by
  have tk : Takes (cxOf (L2.CX P w) P w K mg base ["_law_term", "_law_given_here", "_law_one"] "_law_kind_of" (defScope s__law_kind_of) f cdv A outer s H E) (fun c d _ H => E c d H) := takes_of rfl rfl rfl rfl
  have nd := sc__law_kind_of.nd
  exact (q_seq (q_ifS (qt_cmp (op_eqU (by have z := hu2 hr; exact z)) eqP_v (q_ix (q_var 0) q_int) q_str (nomark _)) (q_last (q_ret (q_tup (q_cons q_str q_nil)))) q_snil)
    (q_seq (q_ifS (qt_cmp (op_eqU (by have z := hu2 hr; exact z)) eqP_v (q_ix (q_var 0) q_int) q_str (nomark _)) (q_last (q_ret (q_ix (q_var 1) (q_ix (q_var 0) q_int)))) q_snil)
    (q_seq (q_ifS (qt_cmp (op_eqU (by have z := hu2 hr; exact z)) eqP_v (q_ix (q_var 0) q_int) q_str (nomark _)) (q_last (q_ret (q_tup (q_cons q_str (q_cons (q_ix (q_var 0) q_int) (q_cons (q_call (C .f__law_kind_of (fun z => nomatch z)) hr tk rfl (q_cons (q_ix (q_var 0) q_int) (q_cons (q_op op_addU addU_v (q_var 1) (q_lst (q_cons (q_ix (q_var 0) q_int) q_nil))) q_nil))) q_nil)))))) q_snil)
    (q_seq (q_set (i := 2) nd rfl (by first | exact Or.inl rfl | exact Or.inr rfl) (q_call (C .f__law_kind_of (fun z => nomatch z)) hr tk rfl (q_cons (q_ix (q_var 0) q_int) (q_cons (q_var 1) q_nil))))
    (q_seq (q_ifS (qt_cmp (op_eqU (by have z := hu2 hr; exact z)) eqP_v (q_ix (q_var 0) q_int) q_str (nomark _)) (q_last (q_ret (q_tup (q_cons q_str (q_cons (q_var 2) (q_cons (q_call (C .f__law_kind_of (fun z => nomatch z)) hr tk rfl (q_cons (q_ix (q_var 0) q_int) (q_cons (q_var 1) q_nil))) q_nil)))))) q_snil)
    (q_last (q_ret (q_ix (q_var 2) (q_ix (q_lst (q_cons q_int (q_cons q_int q_nil))) (q_callTy call_int1 int_v rfl T.m_int (by decide +kernel) (q_cons (q_cmp (op_eqU (by have z := hu2 hr; exact z)) eqP_v (q_ix (q_var 0) q_int) q_str (nomark _)) q_nil)))))))))))
theorem ok__law_wrapped {k : Nat} {cl : Fn → FF} (T : Txt K w.params mg) (C : ∀ g : Fn, g ≠ .f_law → calOf P w K mg base k g (cl g)) (f : Addr) (cdv : Value) (A : Around) (outer : List Env) (s : Shared) (H : Hp) (E : XK) (hr : RoomG k (A.deeper (envOfC "_law_wrapped" (defScope s__law_wrapped) s.heap.objs.size f cdv))) :
    PSs (cxOf (L2.CX P w) P w K mg base ["_law_well_here", "_law_term", "_law_given_here", "_law_way", "_law_kind_here", "_law_other"] "_law_wrapped" (defScope s__law_wrapped) f cdv A outer s H E) (defBody s__law_wrapped) (tS (cxOf (L2.CX P w) P w K mg base ["_law_well_here", "_law_term", "_law_given_here", "_law_way", "_law_kind_here", "_law_other"] "_law_wrapped" (defScope s__law_wrapped) f cdv A outer s H E) (fun c d _ H => E c d H) (b__law_wrapped cl)) := by
  have tk : Takes (cxOf (L2.CX P w) P w K mg base ["_law_well_here", "_law_term", "_law_given_here", "_law_way", "_law_kind_here", "_law_other"] "_law_wrapped" (defScope s__law_wrapped) f cdv A outer s H E) (fun c d _ H => E c d H) := takes_of rfl rfl rfl rfl
  have nd := sc__law_wrapped.nd
  exact (q_seq (q_set (i := 3) nd rfl (by first | exact Or.inl rfl | exact Or.inr rfl) (q_call (C .f__law_draw (fun z => nomatch z)) hr tk rfl (q_cons (q_var 0) (q_cons q_int q_nil))))
    (q_seq (q_set (i := 4) nd rfl (by first | exact Or.inl rfl | exact Or.inr rfl) (q_call (C .f__law_kind_of (fun z => nomatch z)) hr tk rfl (q_cons (q_var 1) (q_cons (q_var 2) q_nil))))
    (q_seq (q_set (i := 5) nd rfl (by first | exact Or.inl rfl | exact Or.inr rfl) (q_call (C .f__law_kind (fun z => nomatch z)) hr tk rfl (q_cons (q_var 0) (q_cons q_int q_nil))))
    (q_seq (q_ifS (qt_cmp (op_eqU (by have z := hu2 hr; exact z)) eqP_v (q_var 3) q_int (nomark _)) (q_last (q_ret (q_tup (q_cons q_str (q_cons (q_tup (q_cons q_str (q_cons (q_var 1) (q_cons (q_call (C .f__law_flat (fun z => nomatch z)) hr tk rfl (q_cons (q_var 0) (q_cons (q_var 5) (q_cons (q_var 2) (q_cons q_int q_nil))))) q_nil)))) q_nil))))) q_snil)
    (q_seq (q_ifS (qt_cmp (op_eqU (by have z := hu2 hr; exact z)) eqP_v (q_var 3) q_int (nomark _)) (q_last (q_ret (q_tup (q_cons q_str (q_cons (q_tup (q_cons q_str (q_cons (q_call (C .f__law_flat (fun z => nomatch z)) hr tk rfl (q_cons (q_var 0) (q_cons (q_var 5) (q_cons (q_var 2) (q_cons q_int q_nil))))) (q_cons (q_var 1) q_nil)))) q_nil))))) q_snil)
    (q_seq (q_ifS (qt_cmp (op_eqU (by have z := hu2 hr; exact z)) eqP_v (q_var 3) q_int (nomark _)) (q_last (q_ret (q_tup (q_cons q_str (q_cons (q_tup (q_cons q_str (q_cons (q_var 5) (q_cons (q_call (C .f__law_lift (fun z => nomatch z)) hr tk rfl (q_cons (q_var 1) (q_cons (q_callB call_len len_v rfl T.m_len PySem.boot_len (q_cons (q_var 2) q_nil)) q_nil))) q_nil)))) (q_cons (q_call (C .f__law_flat (fun z => nomatch z)) hr tk rfl (q_cons (q_var 0) (q_cons (q_var 5) (q_cons (q_var 2) (q_cons q_int q_nil))))) q_nil)))))) q_snil)
    (q_seq (q_ifS (qt_cmp (op_eqU (by have z := hu2 hr; exact z)) eqP_v (q_var 3) q_int (nomark _)) (q_last (q_ret (q_tup (q_cons q_str (q_cons (q_tup (q_cons q_str (q_cons (q_var 4) (q_cons (q_tup (q_cons q_str (q_cons (q_callB call_len len_v rfl T.m_len PySem.boot_len (q_cons (q_var 2) q_nil)) q_nil))) q_nil)))) (q_cons (q_var 1) q_nil)))))) q_snil)
    (q_last (q_ret (q_var 1))))))))))
theorem ok__law_grown {k : Nat} {cl : Fn → FF} (T : Txt K w.params mg) (C : ∀ g : Fn, g ≠ .f_law → calOf P w K mg base k g (cl g)) (f : Addr) (cdv : Value) (A : Around) (outer : List Env) (s : Shared) (H : Hp) (E : XK) (hr : RoomG k (A.deeper (envOfC "_law_grown" (defScope s__law_grown) s.heap.objs.size f cdv))) :
    PSs (cxOf (L2.CX P w) P w K mg base ["_law_well_here", "_law_term", "_law_given_here", "_law_part"] "_law_grown" (defScope s__law_grown) f cdv A outer s H E) (defBody s__law_grown) (tS (cxOf (L2.CX P w) P w K mg base ["_law_well_here", "_law_term", "_law_given_here", "_law_part"] "_law_grown" (defScope s__law_grown) f cdv A outer s H E) (fun c d _ H => E c d H) (b__law_grown cl)) := by
  have tk : Takes (cxOf (L2.CX P w) P w K mg base ["_law_well_here", "_law_term", "_law_given_here", "_law_part"] "_law_grown" (defScope s__law_grown) f cdv A outer s H E) (fun c d _ H => E c d H) := takes_of rfl rfl rfl rfl
  have nd := sc__law_grown.nd
  exact (q_seq (q_ifS (qt_cmp (op_eqU (by have z := hu2 hr; exact z)) eqP_v (q_ix (q_var 1) q_int) q_str (nomark _)) (q_last (q_set (i := 1) nd rfl (by first | exact Or.inl rfl | exact Or.inr rfl) (q_tup (q_cons q_str (q_cons (q_ix (q_var 1) q_int) (q_cons (q_call (C .f__law_grown (fun z => nomatch z)) hr tk rfl (q_cons (q_var 0) (q_cons (q_ix (q_var 1) q_int) (q_cons (q_op op_addU addU_v (q_var 2) (q_lst (q_cons (q_ix (q_var 1) q_int) q_nil))) q_nil)))) q_nil)))))) (q_last (q_ifS (qt_cmp (op_notInU (by have z := hu2 hr; exact z)) inU_v (q_ix (q_var 1) q_int) (q_lst (q_cons q_str (q_cons q_str q_nil))) (by rfl)) (q_last (q_set (i := 1) nd rfl (by first | exact Or.inl rfl | exact Or.inr rfl) (q_callTy call_tuple_of tuple_v rfl T.m_tuple (by decide +kernel) (q_cons (q_op op_addU addU_v (q_lst (q_cons (q_ix (q_var 1) q_int) q_nil)) (q_lc (own := [("_law_part", 3)]) rfl nd (qi_tup (q_slice (q_var 1) (q_some q_int) q_none)) (blkOk_by (own := [("_law_part", 3)]) (by rfl)) (by decide) (fun _ _ _ _ _ => (q_gn (i := 3) nd rfl (by first | exact Or.inl rfl | exact Or.inr rfl))) (fun _ _ _ _ _ => qts_nil) (fun _ _ _ _ _ => (q_call (C .f__law_grown (fun z => nomatch z)) hr takes0 rfl (q_cons (q_var 0) (q_cons (q_var 3) (q_cons (q_var 2) q_nil))))))) q_nil)))) q_snil)))
    (q_last (q_ret (q_call (C .f__law_wrapped (fun z => nomatch z)) hr tk rfl (q_cons (q_var 0) (q_cons (q_var 1) (q_cons (q_var 2) q_nil)))))))
theorem ok__law_size {k : Nat} {cl : Fn → FF} (T : Txt K w.params mg) (C : ∀ g : Fn, g ≠ .f_law → calOf P w K mg base k g (cl g)) (f : Addr) (cdv : Value) (A : Around) (outer : List Env) (s : Shared) (H : Hp) (E : XK) (hr : RoomG k (A.deeper (envOfC "_law_size" (defScope s__law_size) s.heap.objs.size f cdv))) :
    PSs (cxOf (L2.CX P w) P w K mg base ["_law_thing", "_law_part"] "_law_size" (defScope s__law_size) f cdv A outer s H E) (defBody s__law_size) (tS (cxOf (L2.CX P w) P w K mg base ["_law_thing", "_law_part"] "_law_size" (defScope s__law_size) f cdv A outer s H E) (fun c d _ H => E c d H) (b__law_size cl)) := by
  have tk : Takes (cxOf (L2.CX P w) P w K mg base ["_law_thing", "_law_part"] "_law_size" (defScope s__law_size) f cdv A outer s H E) (fun c d _ H => E c d H) := takes_of rfl rfl rfl rfl
  have nd := sc__law_size.nd
  exact (q_last (q_ret (q_op op_addU addU_v q_int (q_callB (cr_sum rfl) sum_v rfl T.m_sum (by decide +kernel) (q_cons (q_lc (own := [("_law_part", 1)]) rfl nd (qi_tup (q_var 0)) (blkOk_by (own := [("_law_part", 1)]) (by rfl)) (by decide) (fun _ _ _ _ _ => (q_gn (i := 1) nd rfl (by first | exact Or.inl rfl | exact Or.inr rfl))) (fun _ _ _ _ _ => (qts_one (qt_tru (q_isi rfl T.m_isinstance rfl T.m_tuple (by decide +kernel) (by decide) (q_var 1))))) (fun _ _ _ _ _ => (q_call (C .f__law_size (fun z => nomatch z)) hr takes0 rfl (q_cons (q_var 1) q_nil)))) q_nil)))))
theorem ok__law_height {k : Nat} {cl : Fn → FF} (T : Txt K w.params mg) (C : ∀ g : Fn, g ≠ .f_law → calOf P w K mg base k g (cl g)) (f : Addr) (cdv : Value) (A : Around) (outer : List Env) (s : Shared) (H : Hp) (E : XK) (hr : RoomG k (A.deeper (envOfC "_law_height" (defScope s__law_height) s.heap.objs.size f cdv))) :
    PSs (cxOf (L2.CX P w) P w K mg base ["_law_thing", "_law_part"] "_law_height" (defScope s__law_height) f cdv A outer s H E) (defBody s__law_height) (tS (cxOf (L2.CX P w) P w K mg base ["_law_thing", "_law_part"] "_law_height" (defScope s__law_height) f cdv A outer s H E) (fun c d _ H => E c d H) (b__law_height cl)) := by
  have tk : Takes (cxOf (L2.CX P w) P w K mg base ["_law_thing", "_law_part"] "_law_height" (defScope s__law_height) f cdv A outer s H E) (fun c d _ H => E c d H) := takes_of rfl rfl rfl rfl
  have nd := sc__law_height.nd
  exact (q_last (q_ret (q_op op_addU addU_v q_int (q_callB (cr_max rfl) maxL_v rfl T.m_max (by decide +kernel) (q_cons (q_op op_addU addU_v (q_lst (q_cons q_int q_nil)) (q_lc (own := [("_law_part", 1)]) rfl nd (qi_tup (q_var 0)) (blkOk_by (own := [("_law_part", 1)]) (by rfl)) (by decide) (fun _ _ _ _ _ => (q_gn (i := 1) nd rfl (by first | exact Or.inl rfl | exact Or.inr rfl))) (fun _ _ _ _ _ => (qts_one (qt_tru (q_isi rfl T.m_isinstance rfl T.m_tuple (by decide +kernel) (by decide) (q_var 1))))) (fun _ _ _ _ _ => (q_call (C .f__law_height (fun z => nomatch z)) hr takes0 rfl (q_cons (q_var 1) q_nil))))) q_nil)))))
theorem ok__law_some {k : Nat} {cl : Fn → FF} (T : Txt K w.params mg) (C : ∀ g : Fn, g ≠ .f_law → calOf P w K mg base k g (cl g)) (f : Addr) (cdv : Value) (A : Around) (outer : List Env) (s : Shared) (H : Hp) (E : XK) (hr : RoomG k (A.deeper (envOfC "_law_some" (defScope s__law_some) s.heap.objs.size f cdv))) :
    PSs (cxOf (L2.CX P w) P w K mg base ["_law_well_here", "_law_term", "_law_given_here", "_law_most", "_law_more"] "_law_some" (defScope s__law_some) f cdv A outer s H E) (defBody s__law_some) (tS (cxOf (L2.CX P w) P w K mg base ["_law_well_here", "_law_term", "_law_given_here", "_law_most", "_law_more"] "_law_some" (defScope s__law_some) f cdv A outer s H E) (fun c d _ H => E c d H) (b__law_some cl)) := by
  have tk : Takes (cxOf (L2.CX P w) P w K mg base ["_law_well_here", "_law_term", "_law_given_here", "_law_most", "_law_more"] "_law_some" (defScope s__law_some) f cdv A outer s H E) (fun c d _ H => E c d H) := takes_of rfl rfl rfl rfl
  have nd := sc__law_some.nd
  exact (q_seq (q_set (i := 4) nd rfl (by first | exact Or.inl rfl | exact Or.inr rfl) (q_call (C .f__law_grown (fun z => nomatch z)) hr tk rfl (q_cons (q_var 0) (q_cons (q_var 1) (q_cons (q_var 2) q_nil)))))
    (q_last (q_ret (q_ix (q_lst (q_cons (q_var 4) (q_cons (q_var 1) q_nil))) (q_callTy call_int1 int_v rfl T.m_int (by decide +kernel) (q_cons (q_or (q_cmp op_gt (cmp_v _) (q_call (C .f__law_size (fun z => nomatch z)) hr tk rfl (q_cons (q_var 4) q_nil)) (q_var 3) (nomark _)) (q_one (q_cmp op_gt (cmp_v _) (q_call (C .f__law_height (fun z => nomatch z)) hr tk rfl (q_cons (q_var 4) q_nil)) q_int (nomark _)))) q_nil))))))
theorem ok__law_given {k : Nat} {cl : Fn → FF} (T : Txt K w.params mg) (C : ∀ g : Fn, g ≠ .f_law → calOf P w K mg base k g (cl g)) (f : Addr) (cdv : Value) (A : Around) (outer : List Env) (s : Shared) (H : Hp) (E : XK) (hr : RoomG k (A.deeper (envOfC "_law_given" (defScope s__law_given) s.heap.objs.size f cdv))) :
    PSs (cxOf (L2.CX P w) P w K mg base ["_law_well_here", "_law_more", "_law_turn", "_law_k"] "_law_given" (defScope s__law_given) f cdv A outer s H E) (defBody s__law_given) (tS (cxOf (L2.CX P w) P w K mg base ["_law_well_here", "_law_more", "_law_turn", "_law_k"] "_law_given" (defScope s__law_given) f cdv A outer s H E) (fun c d _ H => E c d H) (b__law_given cl)) := by
  have tk : Takes (cxOf (L2.CX P w) P w K mg base ["_law_well_here", "_law_more", "_law_turn", "_law_k"] "_law_given" (defScope s__law_given) f cdv A outer s H E) (fun c d _ H => E c d H) := takes_of rfl rfl rfl rfl
  have nd := sc__law_given.nd
  exact (q_seq (by first | exact (q_setLc (i := 1) (own := [("_law_k", 3)]) rfl nd rfl rfl (sw_true rfl rfl rfl (by decide +kernel)) (qi_range1 rfl T.m_range (q_cons (q_call (C .f__law_draw (fun z => nomatch z)) hr tk rfl (q_cons (q_var 0) (q_cons q_int q_nil))) q_nil)) (blkOk_by (own := [("_law_k", 3)]) (by rfl)) (by decide) (fun _ _ _ _ _ => (q_gn (i := 3) nd rfl (by first | exact Or.inl rfl | exact Or.inr rfl))) (fun _ _ _ _ _ => qts_nil) (fun _ _ _ _ _ => (q_call (C .f__law_kind (fun z => nomatch z)) hr takes0 rfl (q_cons (q_var 0) (q_cons q_int q_nil))))) | exact (q_set (i := 1) nd rfl (by first | exact Or.inl rfl | exact Or.inr rfl) (q_lc (own := [("_law_k", 3)]) rfl nd (qi_range1 rfl T.m_range (q_cons (q_call (C .f__law_draw (fun z => nomatch z)) hr tk rfl (q_cons (q_var 0) (q_cons q_int q_nil))) q_nil)) (blkOk_by (own := [("_law_k", 3)]) (by rfl)) (by decide) (fun _ _ _ _ _ => (q_gn (i := 3) nd rfl (by first | exact Or.inl rfl | exact Or.inr rfl))) (fun _ _ _ _ _ => qts_nil) (fun _ _ _ _ _ => (q_call (C .f__law_kind (fun z => nomatch z)) hr takes0 rfl (q_cons (q_var 0) (q_cons q_int q_nil)))))))
    (q_seq (q_set (i := 2) nd rfl (by first | exact Or.inl rfl | exact Or.inr rfl) (q_call (C .f__law_draw (fun z => nomatch z)) hr tk rfl (q_cons (q_var 0) (q_cons q_int q_nil))))
    (q_last (q_ret (q_op op_addU addU_v (q_lc (own := [("_law_k", 3)]) rfl nd (qi_range1 rfl T.m_range (q_cons q_int q_nil)) (blkOk_by (own := [("_law_k", 3)]) (by rfl)) (by decide) (fun _ _ _ _ _ => (q_gn (i := 3) nd rfl (by first | exact Or.inl rfl | exact Or.inr rfl))) (fun _ _ _ _ _ => qts_nil) (fun _ _ _ _ _ => (q_tup (q_cons q_str (q_cons (q_op op_mod mod_v (q_op op_addU addU_v (q_var 3) (q_var 2)) q_int) q_nil))))) (q_var 1))))))
theorem ok__law_good_kind {k : Nat} {cl : Fn → FF} (T : Txt K w.params mg) (C : ∀ g : Fn, g ≠ .f_law → calOf P w K mg base k g (cl g)) (f : Addr) (cdv : Value) (A : Around) (outer : List Env) (s : Shared) (H : Hp) (E : XK) (hr : RoomG k (A.deeper (envOfC "_law_good_kind" (defScope s__law_good_kind) s.heap.objs.size f cdv))) :
    PSs (cxOf (L2.CX P w) P w K mg base ["_law_thing"] "_law_good_kind" (defScope s__law_good_kind) f cdv A outer s H E) (defBody s__law_good_kind) (tS (cxOf (L2.CX P w) P w K mg base ["_law_thing"] "_law_good_kind" (defScope s__law_good_kind) f cdv A outer s H E) (fun c d _ H => E c d H) (b__law_good_kind cl)) := by
  have tk : Takes (cxOf (L2.CX P w) P w K mg base ["_law_thing"] "_law_good_kind" (defScope s__law_good_kind) f cdv A outer s H E) (fun c d _ H => E c d H) := takes_of rfl rfl rfl rfl
  have nd := sc__law_good_kind.nd
  exact (q_seq (q_ifS (PW.pt (qw_or (qt_not (qt_tru (q_isi rfl T.m_isinstance rfl T.m_tuple (by decide +kernel) (by decide) (q_var 0)))) (qw_or (qt_cmp (op_eqU (by have z := hu2 hr; exact z)) eqP_v (q_var 0) (q_tup q_nil) (nomark _)) (qw_one (qt_not (qt_tru (q_isi rfl T.m_isinstance rfl T.m_str (by decide +kernel) (by decide) (q_ix (q_var 0) q_int)))))))) (q_last (q_ret q_bl)) q_snil)
    (q_seq (q_ifS (qt_cmp (op_eqU (by have z := hu2 hr; exact z)) eqP_v (q_ix (q_var 0) q_int) q_str (nomark _)) (q_last (q_ret (q_and (q_cmp (op_eqU (by have z := hu2 hr; exact z)) eqP_v (q_callB call_len len_v rfl T.m_len PySem.boot_len (q_cons (q_var 0) q_nil)) q_int (nomark _)) (q_and (q_isi rfl T.m_isinstance rfl T.m_int (by decide +kernel) (by decide) (q_ix (q_var 0) q_int)) (q_and (q_not (q_isi rfl T.m_isinstance rfl T.m_bool (by decide +kernel) (by decide) (q_ix (q_var 0) q_int))) (q_one (q_chain op_le (cmp_v _) op_lt (cmp_v _) q_int (q_ix (q_var 0) q_int) q_int))))))) q_snil)
    (q_seq (q_ifS (qt_cmp (op_eqU (by have z := hu2 hr; exact z)) eqP_v (q_ix (q_var 0) q_int) q_str (nomark _)) (q_last (q_ret (q_cmp (op_eqU (by have z := hu2 hr; exact z)) eqP_v (q_callB call_len len_v rfl T.m_len PySem.boot_len (q_cons (q_var 0) q_nil)) q_int (nomark _)))) q_snil)
    (q_seq (q_ifS (PW.pt (qw_or (qt_cmp (op_notInU (by have z := hu2 hr; exact z)) inU_v (q_ix (q_var 0) q_int) (q_lst (q_cons q_str (q_cons q_str q_nil))) (by rfl)) (qw_one (qt_cmp (op_neU (by have z := hu2 hr; exact z)) neP_v (q_callB call_len len_v rfl T.m_len PySem.boot_len (q_cons (q_var 0) q_nil)) q_int (nomark _))))) (q_last (q_ret q_bl)) q_snil)
    (q_last (q_ret (q_and (q_call (C .f__law_good_kind (fun z => nomatch z)) hr tk rfl (q_cons (q_ix (q_var 0) q_int) q_nil)) (q_one (q_call (C .f__law_good_kind (fun z => nomatch z)) hr tk rfl (q_cons (q_ix (q_var 0) q_int) q_nil))))))))))
theorem ok__law_judged {k : Nat} {cl : Fn → FF} (T : Txt K w.params mg) (C : ∀ g : Fn, g ≠ .f_law → calOf P w K mg base k g (cl g)) (f : Addr) (cdv : Value) (A : Around) (outer : List Env) (s : Shared) (H : Hp) (E : XK) (hr : RoomG k (A.deeper (envOfC "_law_judged" (defScope s__law_judged) s.heap.objs.size f cdv))) :
    PSs (cxOf (L2.CX P w) P w K mg base ["_law_term", "_law_given_here", "_law_one", "_law_other", "_law_body"] "_law_judged" (defScope s__law_judged) f cdv A outer s H E) (defBody s__law_judged) (tS (cxOf (L2.CX P w) P w K mg base ["_law_term", "_law_given_here", "_law_one", "_law_other", "_law_body"] "_law_judged" (defScope s__law_judged) f cdv A outer s H E) (fun c d _ H => E c d H) (b__law_judged cl)) := by
  have tk : Takes (cxOf (L2.CX P w) P w K mg base ["_law_term", "_law_given_here", "_law_one", "_law_other", "_law_body"] "_law_judged" (defScope s__law_judged) f cdv A outer s H E) (fun c d _ H => E c d H) := takes_of rfl rfl rfl rfl
  have nd := sc__law_judged.nd
  exact (q_seq (q_ifS (PW.pt (qw_or (qt_not (qt_tru (q_isi rfl T.m_isinstance rfl T.m_tuple (by decide +kernel) (by decide) (q_var 0)))) (qw_or (qt_cmp (op_eqU (by have z := hu2 hr; exact z)) eqP_v (q_var 0) (q_tup q_nil) (nomark _)) (qw_one (qt_not (qt_tru (q_isi rfl T.m_isinstance rfl T.m_str (by decide +kernel) (by decide) (q_ix (q_var 0) q_int)))))))) (q_last (q_ret q_non)) q_snil)
    (q_seq (q_ifS (qt_cmp (op_eqU (by have z := hu2 hr; exact z)) eqP_v (q_ix (q_var 0) q_int) q_str (nomark _)) (q_last (q_ret (q_ix (q_lst (q_cons q_non (q_cons (q_tup (q_cons q_str q_nil)) q_nil))) (q_callTy call_int1 int_v rfl T.m_int (by decide +kernel) (q_cons (q_cmp (op_eqU (by have z := hu2 hr; exact z)) eqP_v (q_callB call_len len_v rfl T.m_len PySem.boot_len (q_cons (q_var 0) q_nil)) q_int (nomark _)) q_nil))))) q_snil)
    (q_seq (q_ifS (PW.pt (qw_and (qt_cmp (op_eqU (by have z := hu2 hr; exact z)) eqP_v (q_ix (q_var 0) q_int) q_str (nomark _)) (qw_one (qt_cmp (op_eqU (by have z := hu2 hr; exact z)) eqP_v (q_callB call_len len_v rfl T.m_len PySem.boot_len (q_cons (q_var 0) q_nil)) q_int (nomark _))))) (q_seq (q_ifS (PW.pt (qw_and (qt_tru (q_isi rfl T.m_isinstance rfl T.m_int (by decide +kernel) (by decide) (q_ix (q_var 0) q_int))) (qw_and (qt_not (qt_tru (q_isi rfl T.m_isinstance rfl T.m_bool (by decide +kernel) (by decide) (q_ix (q_var 0) q_int)))) (qw_one (qt_chain op_le (cmp_v _) op_lt (cmp_v _) q_int (q_ix (q_var 0) q_int) (q_callB call_len len_v rfl T.m_len PySem.boot_len (q_cons (q_var 1) q_nil))))))) (q_last (q_ret (q_ix (q_var 1) (q_ix (q_var 0) q_int)))) q_snil)
    (q_last (q_ret q_non))) q_snil)
    (q_seq (q_ifS (PW.pt (qw_and (qt_cmp (op_inU (by have z := hu2 hr; exact z)) inU_v (q_ix (q_var 0) q_int) (q_lst (q_cons q_str (q_cons q_str q_nil))) (by rfl)) (qw_one (qt_cmp (op_eqU (by have z := hu2 hr; exact z)) eqP_v (q_callB call_len len_v rfl T.m_len PySem.boot_len (q_cons (q_var 0) q_nil)) q_int (nomark _))))) (q_seq (q_set (i := 2) nd rfl (by first | exact Or.inl rfl | exact Or.inr rfl) (q_call (C .f__law_judged (fun z => nomatch z)) hr tk rfl (q_cons (q_ix (q_var 0) q_int) (q_cons (q_var 1) q_nil))))
    (q_seq (q_ifS (PW.pt (qw_or (qt_cmp op_isU isU_v (q_var 2) q_non (nomark _)) (qw_one (qt_cmp (op_neU (by have z := hu2 hr; exact z)) neP_v (q_ix (q_var 2) q_int) q_str (nomark _))))) (q_last (q_ret q_non)) q_snil)
    (q_last (q_ret (q_ix (q_var 2) (q_op op_addU addU_v q_int (q_callTy call_int1 int_v rfl T.m_int (by decide +kernel) (q_cons (q_cmp (op_eqU (by have z := hu2 hr; exact z)) eqP_v (q_ix (q_var 0) q_int) q_str (nomark _)) q_nil)))))))) q_snil)
    (q_seq (q_ifS (PW.pt (qw_or (qt_cmp (op_neU (by have z := hu2 hr; exact z)) neP_v (q_callB call_len len_v rfl T.m_len PySem.boot_len (q_cons (q_var 0) q_nil)) q_int (nomark _)) (qw_one (qt_cmp (op_notInU (by have z := hu2 hr; exact z)) inU_v (q_ix (q_var 0) q_int) (q_lst (q_cons q_str (q_cons q_str (q_cons q_str q_nil)))) (by rfl))))) (q_last (q_ret q_non)) q_snil)
    (q_seq (q_ifS (qt_cmp (op_eqU (by have z := hu2 hr; exact z)) eqP_v (q_ix (q_var 0) q_int) q_str (nomark _)) (q_seq (q_ifS (qt_not (qt_tru (q_call (C .f__law_good_kind (fun z => nomatch z)) hr tk rfl (q_cons (q_ix (q_var 0) q_int) q_nil)))) (q_last (q_ret q_non)) q_snil)
    (q_seq (q_set (i := 4) nd rfl (by first | exact Or.inl rfl | exact Or.inr rfl) (q_call (C .f__law_judged (fun z => nomatch z)) hr tk rfl (q_cons (q_ix (q_var 0) q_int) (q_cons (q_op op_addU addU_v (q_var 1) (q_lst (q_cons (q_ix (q_var 0) q_int) q_nil))) q_nil))))
    (q_last (q_ret (q_ix (q_lst (q_cons q_non (q_cons (q_tup (q_cons q_str (q_cons (q_ix (q_var 0) q_int) (q_cons (q_var 4) q_nil)))) q_nil))) (q_callTy call_int1 int_v rfl T.m_int (by decide +kernel) (q_cons (q_cmp op_isNotU isU_v (q_var 4) q_non (nomark _)) q_nil))))))) q_snil)
    (q_seq (q_set (i := 2) nd rfl (by first | exact Or.inl rfl | exact Or.inr rfl) (q_call (C .f__law_judged (fun z => nomatch z)) hr tk rfl (q_cons (q_ix (q_var 0) q_int) (q_cons (q_var 1) q_nil))))
    (q_seq (q_set (i := 3) nd rfl (by first | exact Or.inl rfl | exact Or.inr rfl) (q_call (C .f__law_judged (fun z => nomatch z)) hr tk rfl (q_cons (q_ix (q_var 0) q_int) (q_cons (q_var 1) q_nil))))
    (q_seq (q_ifS (PW.pt (qw_or (qt_cmp op_isU isU_v (q_var 2) q_non (nomark _)) (qw_one (qt_cmp op_isU isU_v (q_var 3) q_non (nomark _))))) (q_last (q_ret q_non)) q_snil)
    (q_seq (q_ifS (qt_cmp (op_eqU (by have z := hu2 hr; exact z)) eqP_v (q_ix (q_var 0) q_int) q_str (nomark _)) (q_last (q_ret (q_tup (q_cons q_str (q_cons (q_var 2) (q_cons (q_var 3) q_nil)))))) q_snil)
    (q_last (q_ret (q_ix (q_lst (q_cons q_non (q_cons (q_ix (q_var 2) (q_neg q_int)) q_nil))) (q_callTy call_int1 int_v rfl T.m_int (by decide +kernel) (q_cons (q_and (q_cmp (op_eqU (by have z := hu2 hr; exact z)) eqP_v (q_ix (q_var 2) q_int) q_str (nomark _)) (q_one (q_cmp (op_eqU (by have z := hu2 hr; exact z)) eqP_v (q_ix (q_var 2) q_int) (q_var 3) (nomark _)))) q_nil)))))))))))))))
theorem ok__law_odd {k : Nat} {cl : Fn → FF} (T : Txt K w.params mg) (C : ∀ g : Fn, g ≠ .f_law → calOf P w K mg base k g (cl g)) (f : Addr) (cdv : Value) (A : Around) (outer : List Env) (s : Shared) (H : Hp) (E : XK) (hr : RoomG k (A.deeper (envOfC "_law_odd" (defScope s__law_odd) s.heap.objs.size f cdv))) :
    PSs (cxOf (L2.CX P w) P w K mg base ["_law_well_here", "_law_term", "_law_given_here", "_law_way", "_law_inner", "_law_odd_here", "_law_k"] "_law_odd" (defScope s__law_odd) f cdv A outer s H E) (defBody s__law_odd) (tS (cxOf (L2.CX P w) P w K mg base ["_law_well_here", "_law_term", "_law_given_here", "_law_way", "_law_inner", "_law_odd_here", "_law_k"] "_law_odd" (defScope s__law_odd) f cdv A outer s H E) (fun c d _ H => E c d H) (b__law_odd cl)) := by
  have tk : Takes (cxOf (L2.CX P w) P w K mg base ["_law_well_here", "_law_term", "_law_given_here", "_law_way", "_law_inner", "_law_odd_here", "_law_k"] "_law_odd" (defScope s__law_odd) f cdv A outer s H E) (fun c d _ H => E c d H) := takes_of rfl rfl rfl rfl
  have nd := sc__law_odd.nd
  exact (q_seq (q_set (i := 3) nd rfl (by first | exact Or.inl rfl | exact Or.inr rfl) (q_call (C .f__law_draw (fun z => nomatch z)) hr tk rfl (q_cons (q_var 0) (q_cons q_int q_nil))))
    (q_seq (by first | exact (q_setLc (i := 4) (own := [("_law_k", 6)]) rfl nd rfl rfl (sw_true rfl rfl rfl (by decide +kernel)) (qi_range2 rfl T.m_range (q_cons q_int (q_cons (q_callB call_len len_v rfl T.m_len PySem.boot_len (q_cons (q_var 1) q_nil)) q_nil))) (blkOk_by (own := [("_law_k", 6)]) (by rfl)) (by decide) (fun _ _ _ _ _ => (q_gn (i := 6) nd rfl (by first | exact Or.inl rfl | exact Or.inr rfl))) (fun _ _ _ _ _ => (qts_one (qt_tru (q_isi rfl T.m_isinstance rfl T.m_tuple (by decide +kernel) (by decide) (q_ix (q_var 1) (q_var 6)))))) (fun _ _ _ _ _ => (q_var 6))) | exact (q_set (i := 4) nd rfl (by first | exact Or.inl rfl | exact Or.inr rfl) (q_lc (own := [("_law_k", 6)]) rfl nd (qi_range2 rfl T.m_range (q_cons q_int (q_cons (q_callB call_len len_v rfl T.m_len PySem.boot_len (q_cons (q_var 1) q_nil)) q_nil))) (blkOk_by (own := [("_law_k", 6)]) (by rfl)) (by decide) (fun _ _ _ _ _ => (q_gn (i := 6) nd rfl (by first | exact Or.inl rfl | exact Or.inr rfl))) (fun _ _ _ _ _ => (qts_one (qt_tru (q_isi rfl T.m_isinstance rfl T.m_tuple (by decide +kernel) (by decide) (q_ix (q_var 1) (q_var 6)))))) (fun _ _ _ _ _ => (q_var 6)))))
    (q_seq (q_ifS (PW.pt (qw_and (qt_cmp op_lt (cmp_v _) (q_var 3) q_int (nomark _)) (qw_one (qt_cmp (op_neU (by have z := hu2 hr; exact z)) neP_v (q_var 4) (q_lst q_nil) (nomark _))))) (q_seq (q_set (i := 6) nd rfl (by first | exact Or.inl rfl | exact Or.inr rfl) (q_ix (q_var 4) (q_call (C .f__law_draw (fun z => nomatch z)) hr tk rfl (q_cons (q_var 0) (q_cons (q_callB call_len len_v rfl T.m_len PySem.boot_len (q_cons (q_var 4) q_nil)) q_nil)))))
    (q_last (q_ret (q_op op_addU addU_v (q_op op_addU addU_v (q_slice (q_var 1) q_none (q_some (q_var 6))) (q_tup (q_cons (q_call (C .f__law_odd (fun z => nomatch z)) hr tk rfl (q_cons (q_var 0) (q_cons (q_ix (q_var 1) (q_var 6)) (q_cons (q_var 2) q_nil)))) q_nil))) (q_slice (q_var 1) (q_some (q_op op_addU addU_v (q_var 6) q_int)) q_none))))) q_snil)
    (q_seq (q_set (i := 5) nd rfl (by first | exact Or.inl rfl | exact Or.inr rfl) (q_lst (q_cons (q_tup (q_cons q_str (q_cons (q_op op_addU addU_v (q_callB call_len len_v rfl T.m_len PySem.boot_len (q_cons (q_var 2) q_nil)) q_int) q_nil))) (q_cons (q_tup (q_cons q_str (q_cons q_bl q_nil))) (q_cons (q_tup (q_cons q_str (q_cons (q_neg q_int) q_nil))) (q_cons (q_tup (q_cons q_str (q_cons (q_call (C .f__law_draw (fun z => nomatch z)) hr tk rfl (q_cons (q_var 0) (q_cons q_int q_nil))) q_nil))) (q_cons (q_tup (q_cons q_str q_nil)) (q_cons (q_tup q_nil) q_nil))))))))
    (q_seq (q_set (i := 5) nd rfl (by first | exact Or.inl rfl | exact Or.inr rfl) (q_op op_addU addU_v (q_var 5) (q_lst (q_cons q_non (q_cons (q_callTy call_list_of list_v rfl T.m_list (by decide +kernel) (q_cons (q_var 1) q_nil)) (q_cons (q_op op_addU addU_v (q_var 1) (q_tup (q_cons q_int q_nil))) (q_cons (q_slice (q_var 1) q_none (q_some (q_neg q_int))) (q_cons (q_tup (q_cons q_str (q_cons (q_var 1) q_nil))) (q_cons (q_tup (q_cons q_str (q_cons (q_var 1) q_nil))) (q_cons (q_tup (q_cons q_str (q_cons (q_var 1) (q_cons (q_var 1) q_nil)))) q_nil))))))))))
    (q_seq (q_set (i := 5) nd rfl (by first | exact Or.inl rfl | exact Or.inr rfl) (q_op op_addU addU_v (q_var 5) (q_lst (q_cons (q_tup (q_cons q_str (q_cons (q_var 1) (q_cons (q_tup (q_cons q_str q_nil)) q_nil)))) (q_cons (q_tup (q_cons q_str (q_cons (q_tup (q_cons q_str (q_cons q_int q_nil))) (q_cons (q_var 1) q_nil)))) (q_cons (q_tup (q_cons q_str (q_cons q_non (q_cons (q_var 1) q_nil)))) (q_cons (q_tup (q_cons q_str (q_cons q_int q_nil))) (q_cons q_str (q_cons q_int q_nil)))))))))
    (q_seq (q_set (i := 5) nd rfl (by first | exact Or.inl rfl | exact Or.inr rfl) (q_op op_addU addU_v (q_var 5) (q_lst (q_cons (q_tup (q_cons q_str (q_cons (q_tup (q_cons q_str q_nil)) (q_cons (q_var 1) q_nil)))) (q_cons (q_tup (q_cons q_str (q_cons (q_var 1) (q_cons (q_var 1) q_nil)))) (q_cons (q_tup (q_cons q_str (q_cons q_int q_nil))) (q_cons (q_tup (q_cons (q_var 1) q_nil)) (q_cons (q_tup (q_cons q_str (q_cons q_str q_nil))) q_nil))))))))
    (q_last (q_ret (q_ix (q_var 5) (q_call (C .f__law_draw (fun z => nomatch z)) hr tk rfl (q_cons (q_var 0) (q_cons (q_callB call_len len_v rfl T.m_len PySem.boot_len (q_cons (q_var 5) q_nil)) q_nil)))))))))))))
theorem ok__law_deep {k : Nat} {cl : Fn → FF} (T : Txt K w.params mg) (C : ∀ g : Fn, g ≠ .f_law → calOf P w K mg base k g (cl g)) (f : Addr) (cdv : Value) (A : Around) (outer : List Env) (s : Shared) (H : Hp) (E : XK) (hr : RoomG k (A.deeper (envOfC "_law_deep" (defScope s__law_deep) s.heap.objs.size f cdv))) :
    PSs (cxOf (L2.CX P w) P w K mg base ["_law_well_here", "_law_term", "_law_kind_here", "_law_given_here", "_law_k", "_law_way"] "_law_deep" (defScope s__law_deep) f cdv A outer s H E) (defBody s__law_deep) (tS (cxOf (L2.CX P w) P w K mg base ["_law_well_here", "_law_term", "_law_kind_here", "_law_given_here", "_law_k", "_law_way"] "_law_deep" (defScope s__law_deep) f cdv A outer s H E) (fun c d _ H => E c d H) (b__law_deep cl)) := by
  have tk : Takes (cxOf (L2.CX P w) P w K mg base ["_law_well_here", "_law_term", "_law_kind_here", "_law_given_here", "_law_k", "_law_way"] "_law_deep" (defScope s__law_deep) f cdv A outer s H E) (fun c d _ H => E c d H) := takes_of rfl rfl rfl rfl
  have nd := sc__law_deep.nd
  exact (q_seq (q_for (passes_of rfl) rfl (qi_range1 rfl T.m_range (q_cons q_int q_nil)) (q_gn (i := 4) nd rfl (by first | exact Or.inl rfl | exact Or.inr rfl)) (q_seq (q_set (i := 5) nd rfl (by first | exact Or.inl rfl | exact Or.inr rfl) (q_call (C .f__law_draw (fun z => nomatch z)) hr tk rfl (q_cons (q_var 0) (q_cons q_int q_nil))))
    (q_last (q_ifS (qt_cmp (op_eqU (by have z := hu2 hr; exact z)) eqP_v (q_var 5) q_int (nomark _)) (q_last (q_set (i := 1) nd rfl (by first | exact Or.inl rfl | exact Or.inr rfl) (q_tup (q_cons q_str (q_cons (q_tup (q_cons q_str (q_cons (q_var 1) (q_cons (q_tup (q_cons q_str q_nil)) q_nil)))) q_nil))))) (q_last (q_ifS (qt_cmp (op_eqU (by have z := hu2 hr; exact z)) eqP_v (q_var 5) q_int (nomark _)) (q_last (q_set (i := 1) nd rfl (by first | exact Or.inl rfl | exact Or.inr rfl) (q_tup (q_cons q_str (q_cons (q_tup (q_cons q_str (q_cons (q_tup (q_cons q_str q_nil)) (q_cons (q_var 1) q_nil)))) q_nil))))) (q_last (q_ifS (qt_cmp (op_eqU (by have z := hu2 hr; exact z)) eqP_v (q_var 5) q_int (nomark _)) (q_last (q_set (i := 1) nd rfl (by first | exact Or.inl rfl | exact Or.inr rfl) (q_tup (q_cons q_str (q_cons (q_tup (q_cons q_str (q_cons (q_tup (q_cons q_str q_nil)) (q_cons (q_call (C .f__law_lift (fun z => nomatch z)) hr tk rfl (q_cons (q_var 1) (q_cons (q_callB call_len len_v rfl T.m_len PySem.boot_len (q_cons (q_var 3) q_nil)) q_nil))) q_nil)))) (q_cons (q_tup (q_cons q_str q_nil)) q_nil)))))) (q_last (q_set (i := 1) nd rfl (by first | exact Or.inl rfl | exact Or.inr rfl) (q_tup (q_cons q_str (q_cons (q_tup (q_cons q_str (q_cons (q_var 2) (q_cons (q_tup (q_cons q_str (q_cons (q_callB call_len len_v rfl T.m_len PySem.boot_len (q_cons (q_var 3) q_nil)) q_nil))) q_nil)))) (q_cons (q_var 1) q_nil))))))))))))))
    (q_last (q_ret (q_var 1))))
theorem ok__law_long {k : Nat} {cl : Fn → FF} (T : Txt K w.params mg) (C : ∀ g : Fn, g ≠ .f_law → calOf P w K mg base k g (cl g)) (f : Addr) (cdv : Value) (A : Around) (outer : List Env) (s : Shared) (H : Hp) (E : XK) (hr : RoomG k (A.deeper (envOfC "_law_long" (defScope s__law_long) s.heap.objs.size f cdv))) :
    PSs (cxOf (L2.CX P w) P w K mg base ["_law_well_here", "_law_given_here", "_law_term", "_law_k"] "_law_long" (defScope s__law_long) f cdv A outer s H E) (defBody s__law_long) (tS (cxOf (L2.CX P w) P w K mg base ["_law_well_here", "_law_given_here", "_law_term", "_law_k"] "_law_long" (defScope s__law_long) f cdv A outer s H E) (fun c d _ H => E c d H) (b__law_long cl)) := by
  have tk : Takes (cxOf (L2.CX P w) P w K mg base ["_law_well_here", "_law_given_here", "_law_term", "_law_k"] "_law_long" (defScope s__law_long) f cdv A outer s H E) (fun c d _ H => E c d H) := takes_of rfl rfl rfl rfl
  have nd := sc__law_long.nd
  exact (q_seq (q_set (i := 2) nd rfl (by first | exact Or.inl rfl | exact Or.inr rfl) (q_tup (q_cons q_str (q_cons (q_tup (q_cons q_str q_nil)) (q_cons (q_tup (q_cons q_str (q_cons (q_call (C .f__law_draw (fun z => nomatch z)) hr tk rfl (q_cons (q_var 0) (q_cons q_int q_nil))) q_nil))) q_nil)))))
    (q_seq (q_for (passes_of rfl) rfl (qi_range1 rfl T.m_range (q_cons q_int q_nil)) (q_gn (i := 3) nd rfl (by first | exact Or.inl rfl | exact Or.inr rfl)) (q_last (q_set (i := 2) nd rfl (by first | exact Or.inl rfl | exact Or.inr rfl) (q_tup (q_cons q_str (q_cons (q_tup (q_cons q_str q_nil)) (q_cons (q_var 2) q_nil)))))))
    (q_last (q_ret (q_var 2)))))
theorem ok__law_told {k : Nat} {cl : Fn → FF} (T : Txt K w.params mg) (C : ∀ g : Fn, g ≠ .f_law → calOf P w K mg base k g (cl g)) (f : Addr) (cdv : Value) (A : Around) (outer : List Env) (s : Shared) (H : Hp) (E : XK) (hr : RoomG k (A.deeper (envOfC "_law_told" (defScope s__law_told) s.heap.objs.size f cdv))) :
    PSs (cxOf (L2.CX P w) P w K mg base ["_law_term", "_law_given_here", "_law_kind_here", "e", "_law_words"] "_law_told" (defScope s__law_told) f cdv A outer s H E) (defBody s__law_told) (tS (cxOf (L2.CX P w) P w K mg base ["_law_term", "_law_given_here", "_law_kind_here", "e", "_law_words"] "_law_told" (defScope s__law_told) f cdv A outer s H E) (fun c d _ H => E c d H) (b__law_told cl)) := by
  have tk : Takes (cxOf (L2.CX P w) P w K mg base ["_law_term", "_law_given_here", "_law_kind_here", "e", "_law_words"] "_law_told" (defScope s__law_told) f cdv A outer s H E) (fun c d _ H => E c d H) := takes_of rfl rfl rfl rfl
  have nd := sc__law_told.nd
  exact (q_seq (q_tryA (i := 3) T.c_SwapError rfl rfl rfl nd rfl rfl tk T.xk (fun W' pn xe tk' po' => (q_last (q_set (i := 2) nd rfl (by first | exact Or.inl rfl | exact Or.inr rfl) (q_call (C .f_term_kind (fun z => nomatch z)) hr tk' rfl (q_cons (q_var 0) (q_cons (q_var 1) q_nil)))))) (fun y hy a oe pn C hyC hz hfz => (q_seq (q_set (i := 4) nd rfl (by first | exact Or.inl rfl | exact Or.inr rfl) (q_lst (q_cons (q_isE (T.xk y hy) hyC (T.i_NoTerm y hy) hz hfz rfl T.m_isinstance rfl (q_var 3)) (q_cons (q_isE (T.xk y hy) hyC (T.i_NoKind y hy) hz hfz rfl T.m_isinstance rfl (q_var 3)) (q_cons (q_isE (T.xk y hy) hyC (T.i_NoWorth y hy) hz hfz rfl T.m_isinstance rfl (q_var 3)) q_nil)))))
    (q_seq (q_ifS (qt_cmp (op_neU (by have z := hu2 hr; exact z)) neP_v (q_mth PySem.F.slot_list_count PySem.F.type_list_count (mt_cntD (by have z := hu2 hr; exact z)) cnt_v (q_var 4) (q_cons q_bl q_nil)) q_int (nomark _)) (q_last (q_ret q_str)) q_snil)
    (q_last (q_ret (q_ix (q_lst (q_cons q_str (q_cons q_str (q_cons q_str q_nil)))) (q_mth PySem.F.slot_list_index PySem.F.type_list_index (mt_indexD (by have z := hu65 hr; exact z)) idx_v (q_var 4) (q_cons q_bl q_nil)))))))))
    (q_last (q_ret (q_var 2))))
theorem ok__law_due {k : Nat} {cl : Fn → FF} (T : Txt K w.params mg) (C : ∀ g : Fn, g ≠ .f_law → calOf P w K mg base k g (cl g)) (f : Addr) (cdv : Value) (A : Around) (outer : List Env) (s : Shared) (H : Hp) (E : XK) (hr : RoomG k (A.deeper (envOfC "_law_due" (defScope s__law_due) s.heap.objs.size f cdv))) :
    PSs (cxOf (L2.CX P w) P w K mg base ["_law_term", "_law_given_here", "_law_kind_here"] "_law_due" (defScope s__law_due) f cdv A outer s H E) (defBody s__law_due) (tS (cxOf (L2.CX P w) P w K mg base ["_law_term", "_law_given_here", "_law_kind_here"] "_law_due" (defScope s__law_due) f cdv A outer s H E) (fun c d _ H => E c d H) (b__law_due cl)) := by
  have tk : Takes (cxOf (L2.CX P w) P w K mg base ["_law_term", "_law_given_here", "_law_kind_here"] "_law_due" (defScope s__law_due) f cdv A outer s H E) (fun c d _ H => E c d H) := takes_of rfl rfl rfl rfl
  have nd := sc__law_due.nd
  exact (q_seq (q_set (i := 2) nd rfl (by first | exact Or.inl rfl | exact Or.inr rfl) (q_call (C .f__law_judged (fun z => nomatch z)) hr tk rfl (q_cons (q_var 0) (q_cons (q_var 1) q_nil))))
    (q_last (q_ret (q_ix (q_lst (q_cons q_str (q_cons (q_var 2) q_nil))) (q_callTy call_int1 int_v rfl T.m_int (by decide +kernel) (q_cons (q_cmp op_isNotU isU_v (q_var 2) q_non (nomark _)) q_nil))))))
theorem ok_law {k : Nat} {cl : Fn → FF} (T : Txt K w.params mg) (C : ∀ g : Fn, g ≠ .f_law → calOf P w K mg base k g (cl g)) (f : Addr) (cdv : Value) (A : Around) (outer : List Env) (s : Shared) (H : Hp) (E : XK) (hr : RoomG k (A.deeper (envOfC "law" (defScope s_law) s.heap.objs.size f cdv))) :
    PSs (cxOf (L2.CX P w) P w K mg base ["_law_script", "_law_cell", "_law_well_here", "_law_given_here", "_law_kind_here", "_law_term", "_law_k", "_law_small", "_law_deep_here", "_law_long_so", "_law_strange", "_law_odd_here", "_law_handed", "_law_last"] "law" (defScope s_law) f cdv A outer s H E) (defBody s_law) (tS (cxOf (L2.CX P w) P w K mg base ["_law_script", "_law_cell", "_law_well_here", "_law_given_here", "_law_kind_here", "_law_term", "_law_k", "_law_small", "_law_deep_here", "_law_long_so", "_law_strange", "_law_odd_here", "_law_handed", "_law_last"] "law" (defScope s_law) f cdv A outer s H E) (fun c d _ H => E c d H) (b_law cl)) := by
  have tk : Takes (cxOf (L2.CX P w) P w K mg base ["_law_script", "_law_cell", "_law_well_here", "_law_given_here", "_law_kind_here", "_law_term", "_law_k", "_law_small", "_law_deep_here", "_law_long_so", "_law_strange", "_law_odd_here", "_law_handed", "_law_last"] "law" (defScope s_law) f cdv A outer s H E) (fun c d _ H => E c d H) := takes_of rfl rfl rfl rfl
  have nd := sc_law.nd
  exact (q_seq (q_for (passes_of rfl) rfl (qi_list (q_op op_addU addU_v (q_lst (q_cons q_int (q_cons q_int q_nil))) (q_slice (q_var 0) q_none (q_some q_int)))) (q_gn (i := 1) nd rfl (by first | exact Or.inl rfl | exact Or.inr rfl)) (q_seq (q_set (i := 2) nd rfl (by first | exact Or.inl rfl | exact Or.inr rfl) (q_call (C .f__law_well (fun z => nomatch z)) hr tk rfl (q_cons (q_var 1) q_nil)))
    (q_seq (q_set (i := 3) nd rfl (by first | exact Or.inl rfl | exact Or.inr rfl) (q_call (C .f__law_given (fun z => nomatch z)) hr tk rfl (q_cons (q_var 2) q_nil)))
    (q_seq (q_set (i := 4) nd rfl (by first | exact Or.inl rfl | exact Or.inr rfl) (q_call (C .f__law_kind (fun z => nomatch z)) hr tk rfl (q_cons (q_var 2) (q_cons q_int q_nil))))
    (q_seq (q_set (i := 5) nd rfl (by first | exact Or.inl rfl | exact Or.inr rfl) (q_call (C .f__law_some (fun z => nomatch z)) hr tk rfl (q_cons (q_var 2) (q_cons (q_call (C .f__law_flat (fun z => nomatch z)) hr tk rfl (q_cons (q_var 2) (q_cons (q_var 4) (q_cons (q_var 3) (q_cons q_int q_nil))))) (q_cons (q_var 3) (q_cons q_int q_nil))))))
    (q_seq (q_ifS (PW.pt (qw_or (qt_cmp (op_neU (by have z := hu2 hr; exact z)) neP_v (q_call (C .f__law_told (fun z => nomatch z)) hr tk rfl (q_cons (q_var 5) (q_cons (q_var 3) q_nil))) (q_var 4) (nomark _)) (qw_one (qt_cmp (op_neU (by have z := hu2 hr; exact z)) neP_v (q_call (C .f__law_judged (fun z => nomatch z)) hr tk rfl (q_cons (q_var 5) (q_cons (q_var 3) q_nil))) (q_var 4) (nomark _))))) (q_last (q_ret q_bl)) q_snil)
    (q_seq (q_for (passes_of rfl) rfl (qi_range1 rfl T.m_range (q_cons q_int q_nil)) (q_gn (i := 6) nd rfl (by first | exact Or.inl rfl | exact Or.inr rfl)) (q_seq (q_set (i := 11) nd rfl (by first | exact Or.inl rfl | exact Or.inr rfl) (q_call (C .f__law_odd (fun z => nomatch z)) hr tk rfl (q_cons (q_var 2) (q_cons (q_var 5) (q_cons (q_var 3) q_nil)))))
    (q_seq (q_set (i := 12) nd rfl (by first | exact Or.inl rfl | exact Or.inr rfl) (q_callTy call_list_of list_v rfl T.m_list (by decide +kernel) (q_cons (q_var 3) q_nil)))
    (q_seq (q_ifS (PW.pt (qw_or (qt_cmp (op_neU (by have z := hu2 hr; exact z)) neP_v (q_call (C .f__law_told (fun z => nomatch z)) hr tk rfl (q_cons (q_var 11) (q_cons (q_var 12) q_nil))) (q_call (C .f__law_due (fun z => nomatch z)) hr tk rfl (q_cons (q_var 11) (q_cons (q_var 3) q_nil))) (nomark _)) (qw_one (qt_cmp (op_neU (by have z := hu2 hr; exact z)) neP_v (q_var 12) (q_var 3) (nomark _))))) (q_last (q_ret q_bl)) q_snil)
    (q_seq (q_set (i := 13) nd rfl (by first | exact Or.inl rfl | exact Or.inr rfl) (q_mth0 PySem.F.slot_list_pop PySem.F.type_list_pop mt_pop pop0_v (q_var 12)))
    (q_seq (q_ifS (qt_cmp (op_neU (by have z := hu2 hr; exact z)) neP_v (q_call (C .f__law_told (fun z => nomatch z)) hr tk rfl (q_cons (q_var 11) (q_cons (q_var 12) q_nil))) (q_call (C .f__law_due (fun z => nomatch z)) hr tk rfl (q_cons (q_var 11) (q_cons (q_var 12) q_nil))) (nomark _)) (q_last (q_ret q_bl)) q_snil)
    (q_seq (q_expr (q_mth PySem.F.slot_list_insert PySem.F.type_list_insert mt_insert ins_v (q_var 12) (q_cons q_int (q_cons (q_var 13) q_nil))))
    (q_last (q_ifS (qt_cmp (op_neU (by have z := hu2 hr; exact z)) neP_v (q_call (C .f__law_told (fun z => nomatch z)) hr tk rfl (q_cons (q_var 11) (q_cons (q_var 12) q_nil))) (q_call (C .f__law_due (fun z => nomatch z)) hr tk rfl (q_cons (q_var 11) (q_cons (q_var 12) q_nil))) (nomark _)) (q_last (q_ret q_bl)) q_snil)))))))))
    (q_seq (q_set (i := 7) nd rfl (by first | exact Or.inl rfl | exact Or.inr rfl) (q_tup (q_cons q_str (q_cons (q_call (C .f__law_draw (fun z => nomatch z)) hr tk rfl (q_cons (q_var 2) (q_cons q_int q_nil))) q_nil))))
    (q_seq (q_set (i := 8) nd rfl (by first | exact Or.inl rfl | exact Or.inr rfl) (q_call (C .f__law_deep (fun z => nomatch z)) hr tk rfl (q_cons (q_var 2) (q_cons (q_call (C .f__law_flat (fun z => nomatch z)) hr tk rfl (q_cons (q_var 2) (q_cons (q_var 7) (q_cons (q_var 3) (q_cons q_int q_nil))))) (q_cons (q_var 7) (q_cons (q_var 3) q_nil))))))
    (q_seq (q_ifS (PW.pt (qw_or (qt_cmp (op_neU (by have z := hu2 hr; exact z)) neP_v (q_call (C .f__law_told (fun z => nomatch z)) hr tk rfl (q_cons (q_var 8) (q_cons (q_var 3) q_nil))) (q_var 7) (nomark _)) (qw_one (qt_cmp (op_neU (by have z := hu2 hr; exact z)) neP_v (q_call (C .f__law_told (fun z => nomatch z)) hr tk rfl (q_cons (q_tup (q_cons q_str (q_cons (q_var 8) q_nil))) (q_cons (q_var 3) q_nil))) q_str (nomark _))))) (q_last (q_ret q_bl)) q_snil)
    (q_seq (q_set (i := 9) nd rfl (by first | exact Or.inl rfl | exact Or.inr rfl) (q_call (C .f__law_long (fun z => nomatch z)) hr tk rfl (q_cons (q_var 2) (q_cons (q_var 3) q_nil))))
    (q_seq (q_ifS (qt_cmp (op_neU (by have z := hu2 hr; exact z)) neP_v (q_call (C .f__law_told (fun z => nomatch z)) hr tk rfl (q_cons (q_var 9) (q_cons (q_var 3) q_nil))) (q_call (C .f__law_judged (fun z => nomatch z)) hr tk rfl (q_cons (q_var 9) (q_cons (q_var 3) q_nil))) (nomark _)) (q_last (q_ret q_bl)) q_snil)
    (q_seq (q_set (i := 10) nd rfl (by first | exact Or.inl rfl | exact Or.inr rfl) (q_lst (q_cons q_non (q_cons (q_callTy call_tuple_of tuple_v rfl T.m_tuple (by decide +kernel) (q_cons (q_var 3) q_nil)) (q_cons (q_op op_addU addU_v (q_var 3) (q_lst (q_cons q_non q_nil))) (q_cons (q_op op_addU addU_v (q_var 3) (q_lst (q_cons (q_tup (q_cons q_str (q_cons q_int q_nil))) q_nil))) (q_cons (q_op op_addU addU_v (q_var 3) (q_lst (q_cons (q_tup (q_cons q_str (q_cons q_bl q_nil))) q_nil))) (q_cons q_str (q_cons q_dic0 (q_cons q_int q_nil))))))))))
    (q_seq (q_set (i := 10) nd rfl (by first | exact Or.inl rfl | exact Or.inr rfl) (q_ix (q_var 10) (q_call (C .f__law_draw (fun z => nomatch z)) hr tk rfl (q_cons (q_var 2) (q_cons q_int q_nil)))))
    (q_last (q_ifS (PW.pt (qw_or (qt_cmp (op_neU (by have z := hu2 hr; exact z)) neP_v (q_call (C .f__law_told (fun z => nomatch z)) hr tk rfl (q_cons (q_var 5) (q_cons (q_var 10) q_nil))) q_str (nomark _)) (qw_one (qt_cmp (op_neU (by have z := hu2 hr; exact z)) neP_v (q_call (C .f__law_told (fun z => nomatch z)) hr tk rfl (q_cons q_non (q_cons (q_var 10) q_nil))) q_str (nomark _))))) (q_last (q_ret q_bl)) q_snil))))))))))))))))
    (q_last (q_ret q_bl)))
theorem all_ok (T : Txt K w.params mg) : ∀ (n : Nat) (g : Fn), g ≠ .f_law → calOf P w K mg base n g (ev n g)
  | 0, .f_is_from, _ => cal_zero T.t_is_from
  | 0, .f_inner_of, _ => cal_zero T.t_inner_of
  | 0, .f_is_kind, _ => cal_zero T.t_is_kind
  | 0, .f_sure_given, _ => cal_zero T.t_sure_given
  | 0, .f_is_shape, _ => cal_zero T.t_is_shape
  | 0, .f_kind_of_given, _ => cal_zero T.t_kind_of_given
  | 0, .f_kind_of_two, _ => cal_zero T.t_kind_of_two
  | 0, .f_kind_in, _ => cal_zero T.t_kind_in
  | 0, .f_sure_kind_in, _ => cal_zero T.t_sure_kind_in
  | 0, .f_term_kind, _ => cal_zero T.t_term_kind
  | 0, .f__law_well, _ => cal_zero T.t__law_well
  | 0, .f__law_draw, _ => cal_zero T.t__law_draw
  | 0, .f__law_kind, _ => cal_zero T.t__law_kind
  | 0, .f__law_ways, _ => cal_zero T.t__law_ways
  | 0, .f__law_flat, _ => cal_zero T.t__law_flat
  | 0, .f__law_lift, _ => cal_zero T.t__law_lift
  | 0, .f__law_kind_of, _ => cal_zero T.t__law_kind_of
  | 0, .f__law_wrapped, _ => cal_zero T.t__law_wrapped
  | 0, .f__law_grown, _ => cal_zero T.t__law_grown
  | 0, .f__law_size, _ => cal_zero T.t__law_size
  | 0, .f__law_height, _ => cal_zero T.t__law_height
  | 0, .f__law_some, _ => cal_zero T.t__law_some
  | 0, .f__law_given, _ => cal_zero T.t__law_given
  | 0, .f__law_good_kind, _ => cal_zero T.t__law_good_kind
  | 0, .f__law_judged, _ => cal_zero T.t__law_judged
  | 0, .f__law_odd, _ => cal_zero T.t__law_odd
  | 0, .f__law_deep, _ => cal_zero T.t__law_deep
  | 0, .f__law_long, _ => cal_zero T.t__law_long
  | 0, .f__law_told, _ => cal_zero T.t__law_told
  | 0, .f__law_due, _ => cal_zero T.t__law_due
  | n + 1, .f_is_from, _ => calB T.t_is_from sc_is_from (ok_is_from T (all_ok T n))
  | n + 1, .f_inner_of, _ => calB T.t_inner_of sc_inner_of (ok_inner_of T (all_ok T n))
  | n + 1, .f_is_kind, _ => calC T.t_is_kind sc_is_kind (ok_is_kind T (all_ok T n))
  | n + 1, .f_sure_given, _ => calB T.t_sure_given sc_sure_given (ok_sure_given T (all_ok T n))
  | n + 1, .f_is_shape, _ => calB T.t_is_shape sc_is_shape (ok_is_shape T (all_ok T n))
  | n + 1, .f_kind_of_given, _ => calB T.t_kind_of_given sc_kind_of_given (ok_kind_of_given T (all_ok T n))
  | n + 1, .f_kind_of_two, _ => calB T.t_kind_of_two sc_kind_of_two (ok_kind_of_two T (all_ok T n))
  | n + 1, .f_kind_in, _ => calB T.t_kind_in sc_kind_in (ok_kind_in T (all_ok T n))
  | n + 1, .f_sure_kind_in, _ => calB T.t_sure_kind_in sc_sure_kind_in (ok_sure_kind_in T (all_ok T n))
  | n + 1, .f_term_kind, _ => calB T.t_term_kind sc_term_kind (ok_term_kind T (all_ok T n))
  | n + 1, .f__law_well, _ => calB T.t__law_well sc__law_well (ok__law_well T (all_ok T n))
  | n + 1, .f__law_draw, _ => calB T.t__law_draw sc__law_draw (ok__law_draw T (all_ok T n))
  | n + 1, .f__law_kind, _ => calB T.t__law_kind sc__law_kind (ok__law_kind T (all_ok T n))
  | n + 1, .f__law_ways, _ => calB T.t__law_ways sc__law_ways (ok__law_ways T (all_ok T n))
  | n + 1, .f__law_flat, _ => calB T.t__law_flat sc__law_flat (ok__law_flat T (all_ok T n))
  | n + 1, .f__law_lift, _ => calB T.t__law_lift sc__law_lift (ok__law_lift T (all_ok T n))
  | n + 1, .f__law_kind_of, _ => calB T.t__law_kind_of sc__law_kind_of (ok__law_kind_of T (all_ok T n))
  | n + 1, .f__law_wrapped, _ => calB T.t__law_wrapped sc__law_wrapped (ok__law_wrapped T (all_ok T n))
  | n + 1, .f__law_grown, _ => calB T.t__law_grown sc__law_grown (ok__law_grown T (all_ok T n))
  | n + 1, .f__law_size, _ => calB T.t__law_size sc__law_size (ok__law_size T (all_ok T n))
  | n + 1, .f__law_height, _ => calB T.t__law_height sc__law_height (ok__law_height T (all_ok T n))
  | n + 1, .f__law_some, _ => calB T.t__law_some sc__law_some (ok__law_some T (all_ok T n))
  | n + 1, .f__law_given, _ => calB T.t__law_given sc__law_given (ok__law_given T (all_ok T n))
  | n + 1, .f__law_good_kind, _ => calB T.t__law_good_kind sc__law_good_kind (ok__law_good_kind T (all_ok T n))
  | n + 1, .f__law_judged, _ => calB T.t__law_judged sc__law_judged (ok__law_judged T (all_ok T n))
  | n + 1, .f__law_odd, _ => calB T.t__law_odd sc__law_odd (ok__law_odd T (all_ok T n))
  | n + 1, .f__law_deep, _ => calB T.t__law_deep sc__law_deep (ok__law_deep T (all_ok T n))
  | n + 1, .f__law_long, _ => calB T.t__law_long sc__law_long (ok__law_long T (all_ok T n))
  | n + 1, .f__law_told, _ => calB T.t__law_told sc__law_told (ok__law_told T (all_ok T n))
  | n + 1, .f__law_due, _ => calB T.t__law_due sc__law_due (ok__law_due T (all_ok T n))
  | _, .f_law, h => absurd rfl h
end
end Kz

namespace Kz
open PySem PySem.Spec PyProof.Rows L2 Kw
theorem up {n d : Nat} (h : d + 1 ≤ n) : ∃ m, n = m + 1 ∧ d ≤ m := ⟨n - 1, by omega, by omega⟩
theorem is_from_int {n : Nat} {i lo hi : Int} {S : Store} (h : 1 ≤ n) : ev n .f_is_from [.int i, .int lo, .int hi] S = .ok (.bl (decide (lo ≤ i) && decide (i ≤ hi))) S := by
  obtain ⟨m, rfl, h'⟩ := up h
  rw [ev, b_is_from]
  simp
  by_cases h : lo ≤ i <;> simp [h]
mutual
/-- data whose sort is known, whose texts are good; no cells -/
def pl : D → Bool
  | .non | .bl _ | .int _ | .fls _ | .lst _ | .dic _ _ => true
  | .str s => PyData.strOk s
  | .tup ds => plL ds
  | _ => false
def plL : List D → Bool
  | [] => true
  | d :: ds => pl d && plL ds
end
abbrev lay (d : D) : Prop := pl d = true
abbrev layL (ds : List D) : Prop := plL ds = true
theorem layL_nil : layL [] := rfl
theorem layL_cons {d : D} {ds : List D} : layL (d :: ds) ↔ lay d ∧ layL ds := by simp [layL, lay, plL]
theorem layL_app {ds es : List D} : layL (ds ++ es) ↔ layL ds ∧ layL es := by
  induction ds with
  | nil => simp [layL, plL]
  | cons d ds ih => rw [List.cons_append, layL_cons, layL_cons, ih, and_assoc]
theorem lay_tup {ds : List D} (h : lay (.tup ds)) : layL ds := by simpa [lay, pl] using h
theorem isi_notup {d : D} {S : Store} (h : lay d) (hn : ∀ ds, d ≠ .tup ds) : isiR "tuple" d S = .ok (.bl false) S := by
  cases d with
  | tup ds => exact absurd rfl (hn ds)
  | fls b => rfl
  | loc _ => simp [lay, pl] at h
  | ins _ _ _ => simp [lay, pl] at h
  | glo _ => simp [lay, pl] at h
  | exn _ => simp [lay, pl] at h
  | exo _ _ _ => simp [lay, pl] at h
  | _ => simp
theorem isi_nostr {d : D} {S : Store} (h : lay d) (hn : ∀ ds, d ≠ .str ds) : isiR "str" d S = .ok (.bl false) S := by
  cases d with
  | str ds => exact absurd rfl (hn ds)
  | fls b => rfl
  | loc _ => simp [lay, pl] at h
  | ins _ _ _ => simp [lay, pl] at h
  | glo _ => simp [lay, pl] at h
  | exn _ => simp [lay, pl] at h
  | exo _ _ _ => simp [lay, pl] at h
  | _ => simp
theorem is_from_else {n : Nat} {d : D} {lo hi : Int} {S : Store} (h : 1 ≤ n) (l : lay d) (hn : ∀ i, d ≠ .int i) : ev n .f_is_from [d, .int lo, .int hi] S = .ok (.bl false) S := by
  obtain ⟨m, rfl, h'⟩ := up h
  rw [ev, b_is_from]
  cases d with
  | int i => exact absurd rfl (hn i)
  | fls b => simp; rfl
  | loc _ => simp [lay, pl] at l
  | ins _ _ _ => simp [lay, pl] at l
  | glo _ => simp [lay, pl] at l
  | exn _ => simp [lay, pl] at l
  | exo _ _ _ => simp [lay, pl] at l
  | _ => simp
def innR (s : Str) (r : List D) : Option (List D) :=
  if s = "base" then (match r with
    | [.int i] => if 0 ≤ i ∧ i ≤ 7 then some [] else none
    | _ => none)
  else if s = "unit" then (match r with
    | [] => some []
    | _ => none)
  else if s = "both" ∨ s = "from" then (match r with
    | [a, b] => some [a, b]
    | _ => none)
  else none
def innD : D → Option (List D)
  | .tup (.str s :: r) => innR s r
  | _ => none
def oL (o : Option (List D)) : D := match o with
  | some ds => .lst ds
  | none => .non
theorem cutL1 {α : Type} (d : α) (r : List α) : cutL (d :: r) (some 1) none = r := by
  have e1 : HT.sIx (r.length + 1) 0 (some 1) = 1 := by
    show (if (1 : Int) < 0 then ((1 : Int) + ((r.length + 1 : Nat) : Int)).toNat else min (1 : Int).toNat (r.length + 1)) = 1
    rw [if_neg (by decide)]
    show min 1 (r.length + 1) = 1
    omega
  have e2 : HT.sIx (r.length + 1) (r.length + 1) none = r.length + 1 := rfl
  unfold cutL
  rw [List.length_cons, e1, e2]
  simp
theorem inner_str {n : Nat} {s : Str} {r : List D} {S : Store} (h : 2 ≤ n) (l : layL r) (hs : PyData.strOk s = true) : ev n .f_inner_of [.tup (.str s :: r)] S = .ok (oL (innR s r)) S := by
  obtain ⟨m, rfl, h'⟩ := up h
  rw [ev, b_inner_of]
  have h8 : sizeLine = 16777216 := rfl
  have ne : ¬ ((r.length : Int) + 1 = 0) := by omega
  by_cases h1 : s = "base"
  · subst h1
    match r, l with
    | [], l => simp [innR, oL]
    | [d], l =>
      by_cases hi : ∃ i, d = .int i
      · obtain ⟨i, rfl⟩ := hi
        simp [is_from_int h', h8, innR, oL]
        by_cases c1 : 0 ≤ i <;> by_cases c2 : i ≤ 7 <;> simp [c1, c2]
      · have hi' : ∀ i, d ≠ .int i := fun i z => hi ⟨i, z⟩
        have ld := (layL_cons.mp l).1
        have e : innR (Str.ofString "base") [d] = none := by
          unfold innR
          rw [if_pos rfl]
          split
          · rename_i i q; cases q; exact absurd rfl (hi' i)
          · rfl
        simp [is_from_else h' ld hi', h8, e, oL]
    | d :: e :: r, l =>
      have n2 : ¬ ((r.length : Int) + 1 + 1 + 1 = 2) := by omega
      have n0 : ¬ ((r.length : Int) + 1 + 1 + 1 = 0) := by omega
      simp [innR, oL, n2, n0]
  · by_cases h2 : s = "unit"
    · subst h2
      match r, l with
      | [], l => simp [innR, oL]
      | d :: r, l =>
        have n2 : ¬ ((r.length : Int) + 1 + 1 = 1) := by omega
        have n0 : ¬ ((r.length : Int) + 1 + 1 = 0) := by omega
        simp [innR, oL, n2, n0]
    · have s1 : (s == Str.ofString "base") = false := by simpa using h1
      have s2 : (s == Str.ofString "unit") = false := by simpa using h2
      by_cases h3 : s = "both" ∨ s = "from"
      · have lk : (List.lookup s kv_MARKS).isSome = true := by rcases h3 with rfl | rfl <;> simp [kv_MARKS, List.lookup]
        match r, l with
        | [a, b], l => simp [ne, s1, s2, hs, lk, innR, h1, h2, h3, oL, cutL1]
        | [], l => simp [ne, s1, s2, hs, lk, innR, h1, h2, h3, oL]
        | [a], l => simp [ne, s1, s2, hs, lk, innR, h1, h2, h3, oL]
        | a :: b :: c :: r, l =>
          have n2 : ¬ ((r.length : Int) + 1 + 1 + 1 + 1 = 3) := by omega
          have n0 : ¬ ((r.length : Int) + 1 + 1 + 1 + 1 = 0) := by omega
          simp [n0, n2, s1, s2, hs, lk, innR, h1, h2, h3, oL]
      · have h4 : ¬ s = "both" := fun z => h3 (.inl z)
        have h5 : ¬ s = "from" := fun z => h3 (.inr z)
        have b1 : (s == Str.ofString "both") = false := by simpa using h4
        have b2 : (s == Str.ofString "from") = false := by simpa using h5
        have lk : (List.lookup s kv_MARKS).isSome = false := by simp [kv_MARKS, List.lookup, b1, b2]
        simp [ne, s1, s2, hs, lk, innR, h1, h2, h3, oL]
theorem inner_gen {n : Nat} {d : D} {S : Store} (h : 2 ≤ n) (l : lay d) : ev n .f_inner_of [d] S = .ok (oL (innD d)) S := by
  by_cases ht : ∃ ds, d = .tup ds
  · obtain ⟨ds, rfl⟩ := ht
    have ll := lay_tup l
    match ds, ll with
    | [], ll =>
      obtain ⟨m, rfl, h'⟩ := up h
      rw [ev, b_inner_of]
      simp [innD, oL]
    | x :: r, ll =>
      obtain ⟨lx, lr⟩ := layL_cons.mp ll
      by_cases hx : ∃ s, x = .str s
      · obtain ⟨s, rfl⟩ := hx
        have hs : PyData.strOk s = true := by simpa [lay, pl] using lx
        exact inner_str h lr hs
      · have hx' : ∀ s, x ≠ .str s := fun s z => hx ⟨s, z⟩
        have e : innD (.tup (x :: r)) = none := by
          unfold innD
          split
          · rename_i s r' q
            injection q with q
            injection q with q1 q2
            exact absurd q1 (hx' s)
          · rfl
        obtain ⟨m, rfl, h'⟩ := up h
        rw [ev, b_inner_of]
        have n0 : ¬ ((r.length : Int) + 1 = 0) := by omega
        simp [n0, isi_nostr lx hx', e, oL]
  · have ht' : ∀ ds, d ≠ .tup ds := fun s z => ht ⟨s, z⟩
    have e : innD d = none := by
      unfold innD
      split
      · exact absurd rfl (ht' _)
      · rfl
    obtain ⟨m, rfl, h'⟩ := up h
    rw [ev, b_inner_of]
    simp [isi_notup l ht', e, oL]
mutual
/-- how many parts -/
def nd : D → Nat
  | .tup ds => ndL ds + 1
  | _ => 1
def ndL : List D → Nat
  | [] => 0
  | d :: ds => nd d + ndL ds
end
theorem nd_pos (d : D) : 0 < nd d := by cases d <;> simp [nd]
theorem ndL_app (ds es : List D) : ndL (ds ++ es) = ndL ds + ndL es := by
  induction ds with
  | nil => simp [ndL]
  | cons d ds ih => simp [ndL, ih]; omega
theorem ndL_len (ds : List D) : ds.length ≤ ndL ds := by
  induction ds with
  | nil => simp [ndL]
  | cons d ds ih => have := nd_pos d; simp [ndL]; omega
theorem inn_nd {d : D} {ds : List D} (h : innD d = some ds) : ndL ds < nd d := by
  unfold innD at h
  split at h
  · rename_i s r
    unfold innR at h
    split at h
    · split at h
      · split at h
        · cases h; simp [ndL, nd]
        · cases h
      · cases h
    · split at h
      · split at h
        · cases h; simp [ndL, nd]
        · cases h
      · split at h
        · split at h
          · cases h; simp [ndL, nd]; omega
          · cases h
        · cases h
  · cases h
theorem inn_lay {d : D} {ds : List D} (l : lay d) (h : innD d = some ds) : layL ds := by
  unfold innD at h
  split at h
  · rename_i s r
    have lr := (layL_cons.mp (lay_tup l)).2
    unfold innR at h
    split at h
    · split at h
      · split at h
        · cases h; exact layL_nil
        · cases h
      · cases h
    · split at h
      · split at h
        · cases h; exact layL_nil
        · cases h
      · split at h
        · split at h
          · cases h; exact lr
          · cases h
        · cases h
  · cases h
/-- whether it is a kind (f: enough steps) -/
def isKf : Nat → D → Bool
  | 0, _ => false
  | f + 1, d => match innD d with
    | some ds => ds.all (isKf f)
    | none => false
theorem isKf_mono : ∀ {f g : Nat} {d : D}, nd d ≤ f → f ≤ g → isKf g d = isKf f d
  | 0, _, d, h, _ => absurd (nd_pos d) (by omega)
  | f + 1, 0, _, _, h => absurd h (by omega)
  | f + 1, g + 1, d, h, l => by
    unfold isKf
    cases hd : innD d with
    | none => rfl
    | some ds =>
      have hn := inn_nd hd
      have key : ∀ es : List D, ndL es ≤ f → es.all (isKf g) = es.all (isKf f) := by
        intro es
        induction es with
        | nil => intro _; rfl
        | cons e es ih =>
          intro h1
          simp only [ndL] at h1
          simp only [List.all_cons]
          rw [isKf_mono (f := f) (g := g) (by omega) (by omega), ih (by omega)]
      exact key ds (by omega)
def isK (d : D) : Bool := isKf (nd d) d
theorem isK_eq (d : D) : isK d = match innD d with
    | some ds => ds.all isK
    | none => false := by
  have e : ∃ f, nd d = f + 1 := ⟨nd d - 1, by have := nd_pos d; omega⟩
  obtain ⟨f, hf⟩ := e
  unfold isK
  rw [hf]
  show (match innD d with
    | some ds => ds.all (isKf f)
    | none => false) = _
  cases hd : innD d with
  | none => rfl
  | some ds =>
    have hn := inn_nd hd
    have key : ∀ es : List D, ndL es ≤ f → es.all (isKf f) = es.all (fun d => isKf (nd d) d) := by
      intro es
      induction es with
      | nil => intro _; rfl
      | cons e es ih =>
        intro h1
        simp only [ndL] at h1
        simp only [List.all_cons]
        rw [isKf_mono (f := nd e) (g := f) (Nat.le_refl _) (by omega), ih (by omega)]
    exact key ds (by omega)
theorem isK_kd (k : Kd) : isK k.d = true := by
  induction k with
  | base i =>
    have : (i.val : Int) ≤ 7 := by have := i.isLt; omega
    rw [isK_eq]; simp [Kd.d, innD, innR, this]
  | unit => rw [isK_eq]; simp [Kd.d, innD, innR]
  | both a b ha hb => rw [isK_eq]; simp [Kd.d, innD, innR, ha, hb]
  | frm a b ha hb => rw [isK_eq]; simp [Kd.d, innD, innR, ha, hb]
theorem nd_kd (k : Kd) : nd k.d ≤ 4 * k.sz := by
  induction k with
  | base i => simp [Kd.d, nd, ndL, Kd.sz]
  | unit => simp [Kd.d, nd, ndL, Kd.sz]
  | both a b ha hb => simp [Kd.d, nd, ndL, Kd.sz]; omega
  | frm a b ha hb => simp [Kd.d, nd, ndL, Kd.sz]; omega
theorem lay_kd (k : Kd) : lay k.d := by
  induction k with
  | base i => simp [lay, Kd.d, pl, plL]
  | unit => simp [lay, Kd.d, pl, plL]
  | both a b ha hb =>
    have h1 : pl a.d = true := ha
    have h2 : pl b.d = true := hb
    simp [lay, Kd.d, pl, plL, h1, h2]
  | frm a b ha hb =>
    have h1 : pl a.d = true := ha
    have h2 : pl b.d = true := hb
    simp [lay, Kd.d, pl, plL, h1, h2]
theorem is_kind_loop {m : Nat} (h : 2 ≤ m) (S : Store) (x : Option D) : ∀ (N : Nat) (ds : List D) (y : Option D), ndL ds ≤ N → N ≤ 8000000 → layL ds → ∃ z T,
    sWhile (fB (f2 gNe (fVar 1) (fArg mkLst fNil))) (l_is_kind_0 (ev m)) [x, some (.loc S.length), y] (S ++ [.lst ds]) = if ds.all isK then .nx [x, some (.loc S.length), z] (S ++ [.lst []]) else .rt (.bl false) (S ++ [.lst T]) := by
  intro N
  induction N with
  | zero =>
    intro ds y hN hM hl
    cases ds with
    | nil =>
      refine ⟨y, [], ?_⟩
      have hne := gNe_nil (n := S.length) (S := S ++ [.lst []]) (ds := []) cellOf_app
      rw [sWhile_go]
      simp [hne]
    | cons d r =>
      have := nd_pos d
      simp [ndL] at hN; omega
  | succ N ih =>
    intro ds y hN hM hl
    rcases List.eq_nil_or_concat ds with rfl | ⟨r, d, rfl⟩
    · refine ⟨y, [], ?_⟩
      have hne := gNe_nil (n := S.length) (S := S ++ [.lst []]) (ds := []) cellOf_app
      rw [sWhile_go]
      simp [hne]
    · rw [List.concat_eq_append] at hN hl ⊢
      obtain ⟨lr, ld⟩ := layL_app.mp hl
      have ld := (layL_cons.mp ld).1
      rw [ndL_app] at hN
      have hN' : ndL r + nd d ≤ N + 1 := by simpa [ndL] using hN
      have hne := gNe_nil (n := S.length) (S := S ++ [.lst (r ++ [d])]) (ds := r ++ [d]) cellOf_app
      have hm := mthR_loc (n := S.length) (S := S ++ [.lst (r ++ [d])]) (ρ := [x, some (.loc S.length), y]) (xs := r ++ [d]) (g := gPop0) (a := fNil) cellOf_app
      have hp := gPop0_loc (n := S.length) (S := S ++ [.lst (r ++ [d])]) (xs := r) (d := d) cellM_app
      have hi := inner_gen (n := m) (S := S ++ [.lst r]) h ld
      cases hd : innD d with
      | none =>
        refine ⟨none, r, ?_⟩
        have hk : isK d = false := by rw [isK_eq, hd]
        rw [hd] at hi
        rw [sWhile_go]
        simp [hne, l_is_kind_0, hm, hp, hi, oL, hk]
      | some es =>
        have hn := inn_nd hd
        have hk : isK d = es.all isK := by rw [isK_eq, hd]
        rw [hd] at hi
        have hs : ndL (r ++ es) ≤ N := by rw [ndL_app]; omega
        obtain ⟨z, T, hz⟩ := ih (r ++ es) (some (.lst es)) hs (by omega) (layL_app.mpr ⟨lr, inn_lay ld hd⟩)
        refine ⟨z, T, ?_⟩
        have e2 : (r ++ [d]).all isK = (r ++ es).all isK := by simp [hk]
        rw [sWhile_go, e2, ← hz]
        have h8 : sizeLine = 16777216 := rfl
        have hl' : r.length + es.length ≤ sizeLine := by
          have := ndL_len (r ++ es)
          simp at this; omega
        have hm2 := mthR_loc (n := S.length) (S := S ++ [.lst r]) (ρ := [x, some (.loc S.length), some (.lst es)]) (xs := r) (g := gExtend) (a := fCons (fVar 2) fNil) cellOf_app
        have he := gExtend_loc (n := S.length) (S := S ++ [.lst r]) (xs := r) (ys := es) cellM_app hl'
        simp [hne, l_is_kind_0, hm, hm2, hp, he, hi, oL]
theorem is_kind_gen {n : Nat} {d : D} {S : Store} (h : 3 ≤ n) (hd : nd d ≤ 8000000) (l : lay d) : ev n .f_is_kind [d] S = .ok (.bl (isK d)) S := by
  obtain ⟨m, rfl, h'⟩ := up h
  obtain ⟨z, T, hz⟩ := is_kind_loop h' S (some d) 8000000 [d] none (by simpa [ndL] using hd) (Nat.le_refl _) (layL_cons.mpr ⟨l, layL_nil⟩)
  have e : ∃ T', fnB 1 3 (b_is_kind (ev m)) [d] S = .ok (.bl (isK d)) (S ++ [.lst T']) := by
    rw [b_is_kind]
    simp at hz ⊢
    cases hk : isK d with
    | true => rw [hk] at hz; exact ⟨[], by simp [hz]⟩
    | false => rw [hk] at hz; exact ⟨T, by simp [hz]⟩
  obtain ⟨T', e⟩ := e
  rw [ev, fnC_ap, e]
  exact cut_ok _ rfl
theorem is_kind_kd {n : Nat} {k : Kd} {S : Store} (h : 3 ≤ n) (hk : k.sz ≤ 2000000) : ev n .f_is_kind [k.d] S = .ok (.bl true) S := by
  rw [is_kind_gen h (by have := nd_kd k; omega) (lay_kd k), isK_kd]
end Kz

namespace Kz
open PySem PySem.Spec PyProof.Rows L2 Kw
def sg (b : Bool) : Str := if b then "*" else ">"
def wd (b : Bool) : Str := if b then "both" else "from"
def mk2 (b : Bool) (x y : Kd) : Kd := if b then .both x y else .frm x y
theorem mk2_d (b : Bool) (x y : Kd) : (mk2 b x y).d = .tup [.str (wd b), x.d, y.d] := by cases b <;> rfl
theorem kd_cases (k : Kd) : (∃ ds, k.d = .tup ds ∧ ds.length ≠ 3 ∧ k.dep = 0 ∧ k.sz = 1) ∨ ∃ b x y, k = mk2 b x y := by
  cases k with
  | base i => exact .inl ⟨_, rfl, by simp, rfl, rfl⟩
  | unit => exact .inl ⟨_, rfl, by simp, rfl, rfl⟩
  | both a c => exact .inr ⟨true, a, c, rfl⟩
  | frm a c => exact .inr ⟨false, a, c, rfl⟩
theorem mk2_dep (b : Bool) (x y : Kd) : (mk2 b x y).dep = max x.dep y.dep + 1 := by cases b <;> rfl
theorem mk2_sz (b : Bool) (x y : Kd) : (mk2 b x y).sz = x.sz + y.sz + 1 := by cases b <;> rfl
/-- the stack that is read into: past S, at n -/
structure Stk (S0 S : Store) (n : Nat) (st : List D) : Prop where
  pre : ∃ T, S = S0 ++ T
  le : S0.length ≤ n
  at_ : S[n]? = some (.lst st)
theorem Stk.push {S0 S : Store} {n : Nat} {st : List D} {d : D} (h : Stk S0 S n st) : Stk S0 (S.set n (.lst (st ++ [d]))) n (st ++ [d]) := by
  obtain ⟨⟨T, rfl⟩, le, at_⟩ := h
  have hn : n < (S0 ++ T).length := by
    rcases Nat.lt_or_ge n (S0 ++ T).length with hh | hh
    · exact hh
    · rw [List.getElem?_eq_none hh] at at_; cases at_
  refine ⟨⟨T.set (n - S0.length) (.lst (st ++ [d])), ?_⟩, le, ?_⟩
  · rw [List.set_append, if_neg (by omega)]
  · rw [List.getElem?_set_self hn]
end Kz

namespace Kz
open PySem PySem.Spec PyProof.Rows L2 Kw
/-! things beside themselves -/
def Eqd (d : D) (q : Nat) : Prop := ∃ p : PyData, (∀ S, pyS S d = some p) ∧ p.canLay0 = true ∧ p.depth ≤ q ∧ PyData.eqv p p = true
def EqdL (ds : List D) (q : Nat) : Prop := ∃ ps : List PyData, (∀ S, pySL S ds = some ps) ∧ PyData.canLayAll0 ps = true ∧ PyData.depthAll ps ≤ q ∧ PyData.eqvAll ps ps = true
theorem EqdL.nil {q : Nat} : EqdL [] q := ⟨[], fun _ => rfl, rfl, Nat.zero_le _, Kd.eqvAll_n⟩
theorem EqdL.cons {d : D} {ds : List D} {q : Nat} (h : Eqd d q) (t : EqdL ds q) : EqdL (d :: ds) q := by
  obtain ⟨p, e, a, b, c⟩ := h
  obtain ⟨ps, e', a', b', c'⟩ := t
  refine ⟨p :: ps, fun S => ?_, by simp [PyData.canLayAll0, a, a'], by simp only [PyData.depthAll]; omega, by rw [Kd.eqvAll_c, c, c']; rfl⟩
  show (pyS S d).bind (fun a => (pySL S ds).map (a :: ·)) = _
  rw [e S, e' S]; rfl
theorem EqdL.all {ds : List D} {q : Nat} (h : ∀ d ∈ ds, Eqd d q) : EqdL ds q := by
  induction ds with
  | nil => exact .nil
  | cons d ds ih => exact .cons (h d List.mem_cons_self) (ih fun e he => h e (List.mem_cons_of_mem _ he))
theorem Eqd.tup {ds : List D} {q : Nat} (h : EqdL ds q) : Eqd (.tup ds) (q + 1) := by
  obtain ⟨ps, e, a, b, c⟩ := h
  refine ⟨.tuple ps, fun S => ?_, by simpa [PyData.canLay0] using a, by simp only [PyData.depth]; omega, by rw [Kd.eqv_t, c]⟩
  show (pySL S ds).map PyData.tuple = _
  rw [e S]; rfl
theorem Eqd.lst {ds : List D} {q : Nat} (h : EqdL ds q) : Eqd (.lst ds) (q + 1) := by
  obtain ⟨ps, e, a, b, c⟩ := h
  refine ⟨.list ps, fun S => ?_, by simpa [PyData.canLay0] using a, by simp only [PyData.depth]; omega, by simp only [PyData.eqv]; exact c⟩
  show (pySL S ds).map PyData.list = _
  rw [e S]; rfl
theorem Eqd.non {q : Nat} : Eqd .non q := ⟨.none, fun _ => rfl, by simp [PyData.canLay0], by simp [PyData.depth], by simp only [PyData.eqv]⟩
theorem Eqd.bl {b : Bool} {q : Nat} : Eqd (.bl b) q := ⟨.bool b, fun _ => rfl, by simp [PyData.canLay0], by simp [PyData.depth], by simp only [PyData.eqv]; cases b <;> rfl⟩
theorem Eqd.str {x : Str} {q : Nat} (h : PyData.strOk x = true) : Eqd (.str x) q := ⟨.str x, fun _ => rfl, by simpa [PyData.canLay0] using h, by simp [PyData.depth], by rw [Kd.eqv_s]; simp⟩
theorem Eqd.kd (k : Kd) : Eqd k.d (k.dep + 1) := ⟨k.p, fun S => Kd.pyS_d S k, by simp, by simp [Kd.depth_p], by rw [Kd.eqv_p]; simp⟩
theorem Eqd.int {i : Int} {q : Nat} : Eqd (.int i) q := ⟨.int i, fun _ => rfl, by simp [PyData.canLay0], by simp [PyData.depth], by rw [Kd.eqv_i]; simp⟩
theorem Eqd.mono {d : D} {q q' : Nat} (h : Eqd d q) (l : q ≤ q') : Eqd d q' := by
  obtain ⟨p, e, a, b, c⟩ := h; exact ⟨p, e, a, by omega, c⟩
theorem Eqd.ne {d : D} {q : Nat} {S : Store} (h : Eqd d q) (hq : q ≤ 200) : gNe d d S = .ok (.bl false) S := by
  have gen : eqE S d d = none → gNe d d S = .ok (.bl false) S := by
    intro h0
    obtain ⟨p, e, a, b, c⟩ := h
    unfold gNe
    rw [h0, e S]
    have ok : okPy p p = true := by simp [okPy, a]; omega
    show (if okPy p p then RE.ok (D.bl (!PyData.eqv p p)) S else .no) = _
    rw [if_pos ok, c]; rfl
  have som : ∀ b, eqE S d d = some b → b = true → gNe d d S = .ok (.bl false) S := by
    intro b h1 h2
    unfold gNe
    rw [h1, h2]; rfl
  cases h0 : eqE S d d with
  | none => exact gen h0
  | some b =>
    refine som b h0 ?_
    unfold eqE at h0
    split at h0
    · simp [seqL] at h0; exact h0
    · simp at h0; exact h0
    · simp at h0; exact h0
    · simp at h0; exact h0
    · cases h0
theorem Eqd.eq {d : D} {q : Nat} {S : Store} (h : Eqd d q) (hq : q ≤ 200) : gEq d d S = .ok (.bl true) S := by
  have n := h.ne (S := S) hq
  unfold gNe at n
  unfold gEq
  split at n
  · rename_i b e
    injection n with n _
    injection n with n
    have : b = true := by cases b <;> simp at n ⊢
    subst this; rfl
  · rename_i e
    obtain ⟨p, e1, a, b, c⟩ := h
    rw [e1 S]
    have ok : okPy p p = true := by simp [okPy, a]; omega
    show (if okPy p p then RE.ok (D.bl (PyData.eqv p p)) S else .no) = _
    rw [if_pos ok, c]
end Kz

namespace Kz
open PySem PySem.Spec PyProof.Rows L2 Kw
/-! terms, what they mean, and what is said of it -/
inductive Tm where
  | giv (k : Nat) | mk (A : Kd) (b : Tm) | app (a b : Tm) | both (a b : Tm) | fst (a : Tm) | snd (a : Tm) | unit
def Tm.d : Tm → D
  | .giv k => .tup [.str "given", .int (k : Int)]
  | .mk A b => .tup [.str "make", A.d, b.d]
  | .app a b => .tup [.str "do", a.d, b.d]
  | .both a b => .tup [.str "both", a.d, b.d]
  | .fst a => .tup [.str "first", a.d]
  | .snd a => .tup [.str "second", a.d]
  | .unit => .tup [.str "unit"]
mutual
/-- what a term means -/
inductive Vl where
  | chn (c : Ch) | unit | pair (a b : Vl) | loose (A B : Kd) (c : Ch) | bound (t : Tm) (env : Vs)
/-- a given, or what is done to one -/
inductive Ch where
  | giv (k : Nat) | app (c : Ch) (A : Kd) (v : Vl) | fst (c : Ch) | snd (c : Ch)
inductive Vs where
  | nil | snoc (r : Vs) (v : Vl)
end
mutual
def Vl.d : Vl → D
  | .chn c => c.d
  | .unit => .tup []
  | .pair a b => .tup [a.d, b.d]
  | .loose A B c => .ins "Loose" ["kind", "chain"] [(Kd.frm A B).d, c.d]
  | .bound t env => .ins "Bound" ["body", "things"] [t.d, .lst env.ds]
def Ch.d : Ch → D
  | .giv k => .tup [.str "given", .int (k : Int)]
  | .app c A v => .tup [.str "do", c.d, A.d, v.d]
  | .fst c => .tup [.str "first", c.d]
  | .snd c => .tup [.str "second", c.d]
def Vs.ds : Vs → List D
  | .nil => []
  | .snoc r v => r.ds ++ [v.d]
end
def Vs.len : Vs → Nat
  | .nil => 0
  | .snoc r _ => r.len + 1
/-- by place, the first one from outside -/
def Vs.at_ : Vs → Nat → Option Vl
  | .nil, _ => none
  | .snoc r v, k => if k = r.len then some v else r.at_ k
theorem Vs.ds_len : ∀ e : Vs, e.ds.length = e.len
  | .nil => rfl
  | .snoc r v => by simp [Vs.ds, Vs.len, Vs.ds_len r]
theorem Vs.at_lt : ∀ {e : Vs} {k : Nat} {v : Vl}, e.at_ k = some v → k < e.len
  | .nil, _, _, h => by simp [Vs.at_] at h
  | .snoc r u, k, v, h => by
    simp only [Vs.at_] at h
    split at h
    · rename_i e; subst e; simp [Vs.len]
    · have := Vs.at_lt h; simp only [Vs.len]; omega
theorem Vs.ds_at : ∀ {e : Vs} {k : Nat} {v : Vl}, e.at_ k = some v → e.ds[k]? = some v.d
  | .nil, _, _, h => by simp [Vs.at_] at h
  | .snoc r u, k, v, h => by
    simp only [Vs.at_] at h
    simp only [Vs.ds]
    split at h
    · rename_i e; subst e; cases h
      rw [List.getElem?_append_right (by rw [Vs.ds_len]; exact Nat.le_refl _), Vs.ds_len, Nat.sub_self]; rfl
    · have hl := Vs.at_lt h
      rw [List.getElem?_append_left (by rw [Vs.ds_len]; exact hl)]
      exact Vs.ds_at h
def opn : Kd → Ch → Vl
  | .base _, c => .chn c
  | .unit, _ => .unit
  | .both a b, c => .pair (opn a (.fst c)) (opn b (.snd c))
  | .frm a b, c => .loose a b c
mutual
def mnt : Nat → Tm → Vs → Option Vl
  | 0, _, _ => none
  | f + 1, t, env => match t with
    | .giv k => env.at_ k
    | .unit => some .unit
    | .mk _ b => some (.bound b env)
    | .app a b => (mnt f a env).bind fun u => (mnt f b env).bind fun x => hnd f u x
    | .both a b => (mnt f a env).bind fun u => (mnt f b env).bind fun x => some (.pair u x)
    | .fst a => (mnt f a env).bind fun u => match u with
      | .pair x _ => some x
      | _ => none
    | .snd a => (mnt f a env).bind fun u => match u with
      | .pair _ y => some y
      | _ => none
def hnd : Nat → Vl → Vl → Option Vl
  | 0, _, _ => none
  | f + 1, u, x => match u with
    | .loose A B c => if B.dep + 1 ≤ f then some (opn B (.app c A x)) else none
    | .bound t env => if env.len < 1000 then mnt f t (.snoc env x) else none
    | _ => none
end
mutual
def sad : Nat → Kd → Vl → Nat → Option Tm
  | 0, _, _, _ => none
  | f + 1, k, v, m => match k with
    | .unit => some .unit
    | .both a b => (match v with
      | .pair x y => (sad f a x m).bind fun s => (sad f b y m).bind fun t => some (.both s t)
      | _ => none)
    | .frm a b => if a.dep + 1 ≤ f then (hnd f v (opn a (.giv m))).bind fun w => (sad f b w (m + 1)).bind fun t => some (.mk a t) else none
    | .base _ => (match v with
      | .chn c => cha f c m
      | _ => none)
def cha : Nat → Ch → Nat → Option Tm
  | 0, _, _ => none
  | f + 1, c, m => match c with
    | .giv k => some (.giv k)
    | .app c A v => (cha f c m).bind fun s => (sad f A v m).bind fun t => some (.app s t)
    | .fst c => (cha f c m).bind fun s => some (.fst s)
    | .snd c => (cha f c m).bind fun s => some (.snd s)
end
/-- the kind of a term -/
def tkd (Γ : List Kd) : Tm → Option Kd
  | .giv k => Γ[k]?
  | .unit => some .unit
  | .mk A b => (tkd (Γ ++ [A]) b).bind fun B => some (.frm A B)
  | .app a b => (tkd Γ a).bind fun u => (tkd Γ b).bind fun x => match u with
    | .frm A B => if A = x then some B else none
    | _ => none
  | .both a b => (tkd Γ a).bind fun u => (tkd Γ b).bind fun x => some (.both u x)
  | .fst a => (tkd Γ a).bind fun u => match u with
    | .both x _ => some x
    | _ => none
  | .snd a => (tkd Γ a).bind fun u => match u with
    | .both _ y => some y
    | _ => none
def Tm.ht : Tm → Nat
  | .giv _ => 0
  | .unit => 0
  | .mk _ b => b.ht + 1
  | .app a b => max a.ht b.ht + 1
  | .both a b => max a.ht b.ht + 1
  | .fst a => a.ht + 1
  | .snd a => a.ht + 1
end Kz

namespace Kz
open PySem PySem.Spec PyProof.Rows L2 Kw
/-! the kinds of terms -/
def oK (o : Option Kd) : D := match o with
  | some k => k.d
  | none => .non
/-- kinds within bounds -/
def kdsT (q : Nat) : Tm → Prop
  | .giv _ => True
  | .unit => True
  | .mk A b => (A.dep ≤ q ∧ A.sz ≤ 2000000) ∧ kdsT q b
  | .app a b => kdsT q a ∧ kdsT q b
  | .both a b => kdsT q a ∧ kdsT q b
  | .fst a => kdsT q a
  | .snd a => kdsT q a
theorem tkd_dep {q : Nat} : ∀ (t : Tm) {Γ : List Kd} {k : Kd}, (∀ A ∈ Γ, A.dep ≤ q) → kdsT q t → tkd Γ t = some k → k.dep ≤ q + t.ht
  | .giv i, Γ, k, hΓ, _, h => by
    have := hΓ k (List.mem_of_getElem? h)
    simp only [Tm.ht]; omega
  | .unit, Γ, k, hΓ, _, h => by simp only [tkd] at h; cases h; simp [Kd.dep]
  | .mk A b, Γ, k, hΓ, hk, h => by
    simp only [tkd, Option.bind_eq_some_iff] at h
    obtain ⟨B, h1, h2⟩ := h
    cases h2
    have := tkd_dep b (Γ := Γ ++ [A]) (k := B) (fun X hX => by
      rcases List.mem_append.mp hX with hX | hX
      · exact hΓ X hX
      · have : X = A := by simpa using hX
        rw [this]; exact hk.1.1) hk.2 h1
    have := hk.1.1
    simp only [Kd.dep, Tm.ht]; omega
  | .app a b, Γ, k, hΓ, hk, h => by
    simp only [tkd, Option.bind_eq_some_iff] at h
    obtain ⟨u, h1, x, h2, h3⟩ := h
    have := tkd_dep a hΓ hk.1 h1
    split at h3
    · split at h3
      · cases h3; simp only [Kd.dep] at this; simp only [Tm.ht]; omega
      · cases h3
    · cases h3
  | .both a b, Γ, k, hΓ, hk, h => by
    simp only [tkd, Option.bind_eq_some_iff] at h
    obtain ⟨u, h1, x, h2, h3⟩ := h
    cases h3
    have := tkd_dep a hΓ hk.1 h1
    have := tkd_dep b hΓ hk.2 h2
    simp only [Kd.dep, Tm.ht]; omega
  | .fst a, Γ, k, hΓ, hk, h => by
    simp only [tkd, Option.bind_eq_some_iff] at h
    obtain ⟨u, h1, h3⟩ := h
    have := tkd_dep a hΓ hk h1
    split at h3
    · cases h3; simp only [Kd.dep] at this; simp only [Tm.ht]; omega
    · cases h3
  | .snd a, Γ, k, hΓ, hk, h => by
    simp only [tkd, Option.bind_eq_some_iff] at h
    obtain ⟨u, h1, h3⟩ := h
    have := tkd_dep a hΓ hk h1
    split at h3
    · cases h3; simp only [Kd.dep] at this; simp only [Tm.ht]; omega
    · cases h3
theorem shape_ok {n : Nat} {t : Tm} {S : Store} (h : 1 ≤ n) : ev n .f_is_shape [t.d] S = .ok (.bl true) S := by
  obtain ⟨m, rfl, h'⟩ := up (d := 0) (by omega : 0 + 1 ≤ n)
  rw [ev, b_is_shape]
  cases t <;> simp [Tm.d, fGetG_ap, kv_PARTS, List.lookup]
theorem given_ok {n : Nat} {Γ : List Kd} {k : Nat} {S : Store} (h : 1 ≤ n) : ev n .f_kind_of_given [.int (k : Int), .lst (Γ.map Kd.d)] S = .ok (oK Γ[k]?) S := by
  obtain ⟨m, rfl, h'⟩ := up (d := 0) (by omega : 0 + 1 ≤ n)
  rw [ev, b_kind_of_given]
  by_cases hk : k < Γ.length
  · rw [List.getElem?_eq_getElem hk]
    simp [hk, oK]
  · rw [List.getElem?_eq_none (by omega)]
    simp [hk, oK]
theorem is_non_kd {k : Kd} {S : Store} : gIs false k.d .non S = .ok (.bl false) S := by
  obtain ⟨ds, h⟩ := Kd.d_tup k
  rw [h]; rfl
theorem two_both {n : Nat} {a b : Option Kd} {S : Store} (h : 1 ≤ n) : ev n .f_kind_of_two [.str "both", oK a, oK b] S = .ok (oK (a.bind fun u => b.bind fun x => some (.both u x))) S := by
  have h8 : sizeLine = 16777216 := rfl
  obtain ⟨m, rfl, h'⟩ := up (d := 0) (by omega : 0 + 1 ≤ n)
  rw [ev, b_kind_of_two]
  cases a with
  | none => simp [oK]
  | some u =>
    cases b with
    | none => simp [oK, is_non_kd]
    | some x => simp [oK, is_non_kd, h8, Kd.d]
def appK (u x : Kd) : Option Kd := match u with
  | .frm A B => if A = x then some B else none
  | _ => none
theorem two_do {n : Nat} {a b : Option Kd} {S : Store} (h : 1 ≤ n) (hd : ∀ u, a = some u → u.dep < 200) : ev n .f_kind_of_two [.str "do", oK a, oK b] S = .ok (oK (a.bind fun u => b.bind fun x => appK u x)) S := by
  have h8 : sizeLine = 16777216 := rfl
  obtain ⟨m, rfl, h'⟩ := up (d := 0) (by omega : 0 + 1 ≤ n)
  rw [ev, b_kind_of_two]
  cases a with
  | none => simp [oK]
  | some u =>
    have hu := hd u rfl
    cases b with
    | none => simp [oK, is_non_kd]
    | some x =>
      have n1 := is_non_kd (k := u) (S := S)
      have n2 := is_non_kd (k := x) (S := S)
      cases u with
      | base i =>
        simp only [Kd.d] at n1
        simp [oK, n1, n2, Kd.d, appK]
      | unit =>
        simp only [Kd.d] at n1
        simp [oK, n1, n2, Kd.d, appK]
      | both A B =>
        simp only [Kd.d] at n1
        simp [oK, n1, n2, Kd.d, appK]
      | frm A B =>
        simp only [Kd.dep] at hu
        have e := Kd.gEq_d (a := A) (b := x) (S := S) (by omega)
        simp only [Kd.d] at n1
        by_cases hA : A = x
        · subst hA
          simp only [decide_true] at e
          simp [oK, n1, n2, Kd.d, appK, e]
        · rw [decide_eq_false hA] at e
          simp [oK, n1, n2, Kd.d, appK, e, hA]
theorem in_words {S : Store} {s : String} : gIn false (.str s) (.tup [.str "do", .str "both"]) S = .ok (.bl (decide (s = "do") || decide (s = "both"))) S := by
  have e1 : (Str.ofString "do" == Str.ofString s) = decide (s = "do") := by simp [eq_comm]
  have e2 : (Str.ofString "both" == Str.ofString s) = decide (s = "both") := by simp [eq_comm]
  simp [gIn, pyS, pySL, PyData.canLay0, PyData.canLayAll0, PyData.depth, PyData.depthAll, PyData.eqv, e1, e2]
theorem kind_in_ok {q : Nat} : ∀ (t : Tm) {Γ : List Kd} {n : Nat} {S : Store}, (∀ A ∈ Γ, A.dep ≤ q) → kdsT q t → q + t.ht < 200 → t.ht + 5 ≤ n → Γ.length + t.ht ≤ 10000 → ev n .f_kind_in [t.d, .lst (Γ.map Kd.d)] S = .ok (oK (tkd Γ t)) S
  | .giv i, Γ, n, S, hΓ, hk, hq, hn, hl => by
    obtain ⟨m, rfl, h'⟩ := up (d := 2) (by omega : 2 + 1 ≤ n)
    have es := shape_ok (n := m) (t := .giv i) (S := S) (by omega)
    have eg := given_ok (n := m) (Γ := Γ) (k := i) (S := S) (by omega)
    simp only [Tm.d] at es
    rw [ev, b_kind_in]
    simp [Tm.d, es, eg, tkd]
  | .unit, Γ, n, S, hΓ, hk, hq, hn, hl => by
    have h8 : sizeLine = 16777216 := rfl
    obtain ⟨m, rfl, h'⟩ := up (d := 2) (by omega : 2 + 1 ≤ n)
    have es := shape_ok (n := m) (t := .unit) (S := S) (by omega)
    simp only [Tm.d] at es
    rw [ev, b_kind_in]
    simp [Tm.d, es, tkd, oK, Kd.d, h8]
  | .mk A b, Γ, n, S, hΓ, hk, hq, hn, hl => by
    have h8 : sizeLine = 16777216 := rfl
    simp only [Tm.ht] at hq hn hl
    obtain ⟨m, rfl, h'⟩ := up (d := b.ht + 5) (by omega)
    have es := shape_ok (n := m) (t := .mk A b) (S := S) (by omega)
    simp only [Tm.d] at es
    have ek := is_kind_kd (n := m) (k := A) (S := S) (by omega) hk.1.2
    have ei := kind_in_ok b (Γ := Γ ++ [A]) (n := m) (S := S) (fun X hX => by
      rcases List.mem_append.mp hX with hX | hX
      · exact hΓ X hX
      · have : X = A := by simpa using hX
        rw [this]; exact hk.1.1) hk.2 (by omega) (by omega) (by simp; omega)
    have ll : Γ.length + 1 ≤ 16777216 := by omega
    simp only [List.map_append, List.map_cons, List.map_nil] at ei
    rw [ev, b_kind_in]
    simp only [tkd]
    cases hb : tkd (Γ ++ [A]) b with
    | none =>
      rw [hb] at ei
      simp [Tm.d, es, ek, ei, oK, h8, ll]
    | some B =>
      rw [hb] at ei
      have nb := is_non_kd (k := B) (S := S)
      simp only [oK] at ei
      simp [Tm.d, es, ek, ei, oK, h8, ll, nb, Kd.d]
  | .app a b, Γ, n, S, hΓ, hk, hq, hn, hl => by
    simp only [Tm.ht] at hq hn hl
    obtain ⟨m, rfl, h'⟩ := up (d := max a.ht b.ht + 5) (by omega)
    have es := shape_ok (n := m) (t := .app a b) (S := S) (by omega)
    simp only [Tm.d] at es
    have e1 := kind_in_ok a (Γ := Γ) (n := m) (S := S) hΓ hk.1 (by omega) (by omega) (by omega)
    have e2 := kind_in_ok b (Γ := Γ) (n := m) (S := S) hΓ hk.2 (by omega) (by omega) (by omega)
    have e3 := two_do (n := m) (a := tkd Γ a) (b := tkd Γ b) (S := S) (by omega) (fun u hu => by have := tkd_dep a hΓ hk.1 hu; omega)
    have iw := in_words (s := "do") (S := S)
    have et : tkd Γ (.app a b) = (tkd Γ a).bind fun u => (tkd Γ b).bind fun x => appK u x := rfl
    rw [et]
    generalize oK ((tkd Γ a).bind fun u => (tkd Γ b).bind fun x => appK u x) = R at *
    generalize oK (tkd Γ a) = ka at *
    generalize oK (tkd Γ b) = kb at *
    rw [ev, b_kind_in]
    simp [Tm.d, es, e1, e2, e3, iw]
  | .both a b, Γ, n, S, hΓ, hk, hq, hn, hl => by
    simp only [Tm.ht] at hq hn hl
    obtain ⟨m, rfl, h'⟩ := up (d := max a.ht b.ht + 5) (by omega)
    have es := shape_ok (n := m) (t := .both a b) (S := S) (by omega)
    simp only [Tm.d] at es
    have e1 := kind_in_ok a (Γ := Γ) (n := m) (S := S) hΓ hk.1 (by omega) (by omega) (by omega)
    have e2 := kind_in_ok b (Γ := Γ) (n := m) (S := S) hΓ hk.2 (by omega) (by omega) (by omega)
    have e3 := two_both (n := m) (a := tkd Γ a) (b := tkd Γ b) (S := S) (by omega)
    have iw := in_words (s := "both") (S := S)
    have et : tkd Γ (.both a b) = (tkd Γ a).bind fun u => (tkd Γ b).bind fun x => some (.both u x) := rfl
    rw [et]
    generalize oK ((tkd Γ a).bind fun u => (tkd Γ b).bind fun x => some (.both u x)) = R at *
    generalize oK (tkd Γ a) = ka at *
    generalize oK (tkd Γ b) = kb at *
    rw [ev, b_kind_in]
    simp [Tm.d, es, e1, e2, e3, iw]
  | .fst a, Γ, n, S, hΓ, hk, hq, hn, hl => by
    simp only [Tm.ht] at hq hn hl
    obtain ⟨m, rfl, h'⟩ := up (d := a.ht + 5) (by omega)
    have es := shape_ok (n := m) (t := .fst a) (S := S) (by omega)
    simp only [Tm.d] at es
    have e1 := kind_in_ok a (Γ := Γ) (n := m) (S := S) hΓ hk (by omega) (by omega) (by omega)
    have iw := in_words (s := "first") (S := S)
    rw [ev, b_kind_in]
    simp only [tkd]
    cases ha : tkd Γ a with
    | none => rw [ha] at e1; simp [Tm.d, es, e1, iw, oK]
    | some u =>
      rw [ha] at e1
      have nu := is_non_kd (k := u) (S := S)
      simp only [oK] at e1
      cases u <;> simp only [Kd.d] at nu e1 <;> simp [Tm.d, es, e1, iw, oK, nu]
  | .snd a, Γ, n, S, hΓ, hk, hq, hn, hl => by
    simp only [Tm.ht] at hq hn hl
    obtain ⟨m, rfl, h'⟩ := up (d := a.ht + 5) (by omega)
    have es := shape_ok (n := m) (t := .snd a) (S := S) (by omega)
    simp only [Tm.d] at es
    have e1 := kind_in_ok a (Γ := Γ) (n := m) (S := S) hΓ hk (by omega) (by omega) (by omega)
    have iw := in_words (s := "second") (S := S)
    rw [ev, b_kind_in]
    simp only [tkd]
    cases ha : tkd Γ a with
    | none => rw [ha] at e1; simp [Tm.d, es, e1, iw, oK]
    | some u =>
      rw [ha] at e1
      have nu := is_non_kd (k := u) (S := S)
      simp only [oK] at e1
      cases u <;> simp only [Kd.d] at nu e1 <;> simp [Tm.d, es, e1, iw, oK, nu]
theorem sure_in_ok {q : Nat} {t : Tm} {Γ : List Kd} {k : Kd} {n : Nat} {S : Store} (hΓ : ∀ A ∈ Γ, A.dep ≤ q) (hk : kdsT q t) (hq : q + t.ht < 200) (hn : t.ht + 6 ≤ n) (hl : Γ.length + t.ht ≤ 10000) (h : tkd Γ t = some k) : ev n .f_sure_kind_in [t.d, .lst (Γ.map Kd.d)] S = .ok k.d S := by
  obtain ⟨m, rfl, h'⟩ := up (d := t.ht + 5) hn
  have e := kind_in_ok t (Γ := Γ) (n := m) (S := S) hΓ hk hq h' hl
  rw [h] at e
  have nk := is_non_kd (k := k) (S := S)
  simp only [oK] at e
  rw [ev, b_sure_kind_in]
  simp [e, nk]
theorem sure_given_ok {Γ : List Kd} {n : Nat} {S : Store} (hΓ : ∀ A ∈ Γ, A.sz ≤ 2000000) (hl : Γ.length ≤ 10000) (hn : 5 ≤ n) : ev n .f_sure_given [.lst (Γ.map Kd.d)] S = .ok .non S := by
  obtain ⟨m, rfl, h'⟩ := up (d := 4) hn
  have hc := compL_map (tg := gN 1) (tt := fYes) (te := fArg (ev m .f_is_kind) (fCons (fVar 1) fNil)) (ρ := [some (.lst (Γ.map Kd.d)), none]) (S := S) (gg := none) (fun _ => .bl true) (by unfold gd; trivial) (Γ.map Kd.d) [] (fun d hd => by
    obtain ⟨A, hA, rfl⟩ := List.mem_map.mp hd
    refine ⟨[some (.lst (Γ.map Kd.d)), some A.d], by simp, rfl, ?_⟩
    simp [is_kind_kd (n := m) (k := A) (S := S) (by omega) (hΓ A hA)]) (by have h8 : sizeLine = 16777216 := rfl; simp; omega)
  have e1 : (Γ.map Kd.d).map (fun _ => D.bl true) = (Γ.map (fun _ => true)).map D.bl := by simp
  rw [e1] at hc
  have e2 : gAll [D.lst ((Γ.map (fun _ => true)).map D.bl)] S = .ok (.bl true) S := by
    rw [gAll_lst]; simp
  rw [ev, b_sure_given]
  simp at hc
  simp at e2
  simp [wipeR, hc, e2]
end Kz

namespace Kz
open PySem PySem.Spec PyProof.Rows L2 Kw
/-! the kind of anything as a term: what the program tells, what the law's judge tells -/
mutual
/-- how many tuples stand within one another -/
def hD : D → Nat
  | .tup ds => hDL ds + 1
  | _ => 0
def hDL : List D → Nat
  | [] => 0
  | d :: ds => max (hD d) (hDL ds)
end
open Classical in
noncomputable def toK (d : D) : Option Kd := if h : ∃ k : Kd, d = k.d then some (Classical.choose h) else none
theorem toK_kd (k : Kd) : toK k.d = some k := by
  unfold toK
  have h : ∃ k' : Kd, k.d = k'.d := ⟨k, rfl⟩
  rw [dif_pos h]
  exact congrArg some (Kd.d_inj (Classical.choose_spec h)).symm
theorem toK_some {d : D} {k : Kd} (h : toK d = some k) : d = k.d := by
  unfold toK at h
  split at h
  · rename_i hh
    cases h
    exact Classical.choose_spec hh
  · cases h
theorem isK_ex : ∀ (N : Nat) {d : D}, nd d ≤ N → isK d = true → ∃ k : Kd, d = k.d
  | 0, d, h, _ => absurd (nd_pos d) (by omega)
  | N + 1, d, hn, h => by
    rw [isK_eq] at h
    cases hd : innD d with
    | none => rw [hd] at h; cases h
    | some ds =>
      rw [hd] at h
      simp only at h
      have hlt := inn_nd hd
      unfold innD at hd
      split at hd
      · rename_i s r
        unfold innR at hd
        split at hd
        · rename_i hs
          subst hs
          split at hd
          · rename_i i
            split at hd
            · rename_i hi
              exact ⟨.base ⟨i.toNat, by omega⟩, by simp [Kd.d]; omega⟩
            · cases hd
          · cases hd
        · split at hd
          · rename_i hs
            subst hs
            split at hd
            · exact ⟨.unit, rfl⟩
            · cases hd
          · split at hd
            · rename_i hs
              split at hd
              · rename_i a b
                cases hd
                simp only [List.all_cons, List.all_nil, Bool.and_true, Bool.and_eq_true] at h
                simp only [ndL] at hlt
                obtain ⟨A, rfl⟩ := isK_ex N (d := a) (by omega) h.1
                obtain ⟨B, rfl⟩ := isK_ex N (d := b) (by omega) h.2
                rcases hs with rfl | rfl
                · exact ⟨.both A B, rfl⟩
                · exact ⟨.frm A B, rfl⟩
              · cases hd
            · cases hd
      · cases hd
theorem toK_isK (d : D) : (toK d).isSome = isK d := by
  cases h : isK d with
  | true =>
    obtain ⟨k, rfl⟩ := isK_ex (nd d) (Nat.le_refl _) h
    rw [toK_kd]; rfl
  | false =>
    cases hk : toK d with
    | none => rfl
    | some k =>
      have := toK_some hk
      subst this
      rw [isK_kd] at h; cases h
def fstK : Kd → Option Kd
  | .both a _ => some a
  | _ => none
def sndK : Kd → Option Kd
  | .both _ b => some b
  | _ => none
/-- the kind of anything as a term -/
noncomputable def jdf : Nat → List Kd → D → Option Kd
  | 0, _, _ => none
  | f + 1, Γ, .tup (.str s :: r) =>
    if s = "unit" then (match r with
      | [] => some .unit
      | _ => none)
    else if s = "given" then (match r with
      | [.int i] => if 0 ≤ i then Γ[i.toNat]? else none
      | _ => none)
    else if s = "make" then (match r with
      | [a, b] => (toK a).bind fun A => (jdf f (Γ ++ [A]) b).bind fun B => some (.frm A B)
      | _ => none)
    else if s = "do" then (match r with
      | [a, b] => (jdf f Γ a).bind fun u => (jdf f Γ b).bind fun x => appK u x
      | _ => none)
    else if s = "both" then (match r with
      | [a, b] => (jdf f Γ a).bind fun u => (jdf f Γ b).bind fun x => some (.both u x)
      | _ => none)
    else if s = "first" then (match r with
      | [a] => (jdf f Γ a).bind fstK
      | _ => none)
    else if s = "second" then (match r with
      | [a] => (jdf f Γ a).bind sndK
      | _ => none)
    else none
  | _ + 1, _, _ => none
/-- a list of kinds, made or under way -/
def Gv (S : Store) (x : D) (Γ : List Kd) : Prop := x = .lst (Γ.map Kd.d) ∨ ∃ c, x = .loc c ∧ S[c]? = some (.lst (Γ.map Kd.d))
theorem Gv.lst {S : Store} {Γ : List Kd} : Gv S (.lst (Γ.map Kd.d)) Γ := .inl rfl
section
variable {S : Store} {x : D} {Γ : List Kd}
theorem Gv.len (h : Gv S x Γ) : gLen [x] S = .ok (.int ((Γ.length : Nat) : Int)) S := by
  rcases h with rfl | ⟨c, rfl, h⟩
  · simp
  · have e : Kw.seqA S (.loc c) = some (Γ.map Kd.d) := by simp [Kw.seqA, Kw.cellOf, h]
    simp [gLen, e]
theorem Gv.ix (h : Gv S x Γ) {i : Nat} (hi : i < Γ.length) : gIx x (.int (i : Int)) S = .ok (Γ[i]).d S := by
  rcases h with rfl | ⟨c, rfl, h⟩
  · simp [hi]
  · have e : gIx (.loc c) (.int (i : Int)) S = ixR (Γ.map Kd.d) (i : Int) S := gIx_loc (by simp [Kw.cellOf, h])
    rw [e, ixR_nat, List.getElem?_map, List.getElem?_eq_getElem hi]
    rfl
theorem Gv.add (h : Gv S x Γ) (A : Kd) (hl : Γ.length ≤ 10000) : gAdd false x (.lst [A.d]) S = .ok (.lst ((Γ ++ [A]).map Kd.d)) S := by
  have h8 : sizeLine = 16777216 := rfl
  rcases h with rfl | ⟨c, rfl, h⟩
  · show catL false (some (Γ.map Kd.d)) (some [A.d]) S = _
    simp [catL, h8]; omega
  · have e : Kw.seqM S (.loc c) = some (Γ.map Kd.d) := by simp [Kw.seqM, Kw.cellM, h]
    show catL false (Kw.seqM S (.loc c)) (some [A.d]) S = _
    rw [e]
    simp [catL, h8]; omega
end
/-- the kind of the given by its place -/
def gvO (Γ : List Kd) : D → Option Kd
  | .int i => if 0 ≤ i then Γ[i.toNat]? else none
  | _ => none
theorem given_gen {n : Nat} {Γ : List Kd} {d x : D} {S : Store} (h : 1 ≤ n) (l : lay d) (hg : Gv S x Γ) : ev n .f_kind_of_given [d, x] S = .ok (oK (gvO Γ d)) S := by
  obtain ⟨m, rfl, h'⟩ := up (d := 0) (by omega : 0 + 1 ≤ n)
  have gl := hg.len
  rw [ev, b_kind_of_given]
  cases d with
  | int i =>
    by_cases h0 : 0 ≤ i
    · obtain ⟨k, rfl⟩ : ∃ k : Nat, i = (k : Int) := ⟨i.toNat, by omega⟩
      by_cases hk : k < Γ.length
      · have gi := hg.ix hk
        have hk' : (k : Int) < ((Γ.length : Nat) : Int) := by omega
        rw [gvO, if_pos (by omega), Int.toNat_natCast, List.getElem?_eq_getElem hk]
        generalize ((Γ.length : Nat) : Int) = V at *
        generalize hk2 : (k : Int) = K at *
        have : (0 : Int) ≤ K := by omega
        simp [gl, hk', gi, oK, this]
      · have hk' : ¬ (k : Int) < ((Γ.length : Nat) : Int) := by omega
        rw [gvO, if_pos (by omega), Int.toNat_natCast, List.getElem?_eq_none (by omega)]
        generalize ((Γ.length : Nat) : Int) = V at *
        generalize hk2 : (k : Int) = K at *
        have : (0 : Int) ≤ K := by omega
        simp [gl, hk', oK, this]
    · rw [gvO, if_neg h0]
      simp [h0, oK]
  | bl b => simp [oK, gvO]
  | fls ds => simp [oK, gvO]; rfl
  | loc _ => simp [lay, pl] at l
  | ins _ _ _ => simp [lay, pl] at l
  | glo _ => simp [lay, pl] at l
  | exn _ => simp [lay, pl] at l
  | exo _ _ _ => simp [lay, pl] at l
  | _ => simp [oK, gvO]
/-- as many parts as a term of that word has -/
def prts (s : Str) : Option Nat :=
  if s = "given" then some 2 else if s = "make" then some 3 else if s = "do" then some 3 else if s = "both" then some 3 else if s = "first" then some 2 else if s = "second" then some 2 else if s = "unit" then some 1 else none
def shp : D → Bool
  | .tup (.str s :: r) => (match prts s with
    | some k => decide (k = r.length + 1)
    | none => false)
  | _ => false
theorem shape_str {n : Nat} {s : Str} {r : List D} {S : Store} (h : 1 ≤ n) : ev n .f_is_shape [.tup (.str s :: r)] S = .ok (.bl (shp (.tup (.str s :: r)))) S := by
  obtain ⟨m, rfl, h'⟩ := up (d := 0) (by omega : 0 + 1 ≤ n)
  have n0 : ¬ ((r.length : Int) + 1 = 0) := by omega
  have e2 : (((r.length : Nat) : Int) + 1 == 2) = decide (2 = r.length + 1) := by rw [Bool.eq_iff_iff, beq_iff_eq, decide_eq_true_eq]; omega
  have key : ∀ k : Nat, ((k : Int) == ((r.length : Nat) : Int) + 1) = decide (k = r.length + 1) := fun k => by rw [Bool.eq_iff_iff, beq_iff_eq, decide_eq_true_eq]; omega
  have k1 := key 1
  have k2 := key 2
  have k3 := key 3
  have c2 : ((2 : Nat) : Int) = 2 := rfl
  have c3 : ((3 : Nat) : Int) = 3 := rfl
  have c1 : ((1 : Nat) : Int) = 1 := rfl
  rw [c1] at k1
  rw [c2] at k2
  rw [c3] at k3
  rw [ev, b_is_shape]
  unfold shp prts
  have lt : gLen [.tup (.str s :: r)] S = .ok (.int (((r.length : Nat) : Int) + 1)) S := by simp
  by_cases h1 : s = "given"
  · subst h1; simp [n0, fGetG_ap, kv_PARTS, List.lookup, k2]
  by_cases h2 : s = "make"
  · subst h2; simp [n0, fGetG_ap, kv_PARTS, List.lookup, k3]
  by_cases h3 : s = "do"
  · subst h3; simp [n0, fGetG_ap, kv_PARTS, List.lookup, k3]
  by_cases h4 : s = "both"
  · subst h4; simp [n0, fGetG_ap, kv_PARTS, List.lookup, k3]
  by_cases h5 : s = "first"
  · subst h5; simp [n0, fGetG_ap, kv_PARTS, List.lookup, k2]
  by_cases h6 : s = "second"
  · subst h6; simp [n0, fGetG_ap, kv_PARTS, List.lookup, k2]
  by_cases h7 : s = "unit"
  · subst h7; simp [n0, fGetG_ap, kv_PARTS, List.lookup, k1]
  have f1 : (s == Str.ofString "given") = false := by simpa using h1
  have f2 : (s == Str.ofString "make") = false := by simpa using h2
  have f3 : (s == Str.ofString "do") = false := by simpa using h3
  have f4 : (s == Str.ofString "both") = false := by simpa using h4
  have f5 : (s == Str.ofString "first") = false := by simpa using h5
  have f6 : (s == Str.ofString "second") = false := by simpa using h6
  have f7 : (s == Str.ofString "unit") = false := by simpa using h7
  have gn : ∀ W : Int, gEq .non (.int W) S = .ok (.bl false) S := by
    intro W
    simp [gEq, eqE, pyS, okPy, PyData.canLay0, PyData.depth, PyData.eqv]
  simp [n0, fGetG_ap, kv_PARTS, List.lookup, f1, f2, f3, f4, f5, f6, f7, h1, h2, h3, h4, h5, h6, h7, gn]
theorem shape_gen {n : Nat} {d : D} {S : Store} (h : 1 ≤ n) (l : lay d) : ev n .f_is_shape [d] S = .ok (.bl (shp d)) S := by
  by_cases hs : ∃ s r, d = .tup (.str s :: r)
  · obtain ⟨s, r, rfl⟩ := hs
    exact shape_str h
  · have e0 : shp d = false := by
      unfold shp
      split
      · exact absurd ⟨_, _, rfl⟩ hs
      · rfl
    rw [e0]
    obtain ⟨m, rfl, h'⟩ := up (d := 0) (by omega : 0 + 1 ≤ n)
    rw [ev, b_is_shape]
    by_cases ht : ∃ ds, d = .tup ds
    · obtain ⟨ds, rfl⟩ := ht
      cases ds with
      | nil => simp
      | cons a r =>
        have la := (layL_cons.mp (lay_tup l)).1
        have ea := isi_nostr (S := S) la (fun s e => hs ⟨s, r, by rw [e]⟩)
        have n0 : ¬ ((r.length : Int) + 1 = 0) := by omega
        simp [n0, ea]
    · have et := isi_notup (S := S) l (fun ds e => ht ⟨ds, e⟩)
      simp [et]
end Kz

namespace Kz
open PySem PySem.Spec PyProof.Rows L2 Kw
/-! kind_in of anything -/
theorem toK_no {d : D} (h : toK d = none) : isK d = false := by
  have := toK_isK d
  rw [h] at this
  exact this.symm
theorem toK_is {d : D} {k : Kd} (h : toK d = some k) : isK d = true := by
  have := toK_isK d
  rw [h] at this
  exact this.symm
theorem hD_kd : ∀ k : Kd, hD k.d = k.dep + 1
  | .base i => by simp [Kd.d, hD, hDL, Kd.dep]
  | .unit => by simp [Kd.d, hD, hDL, Kd.dep]
  | .both a b => by simp [Kd.d, hD, hDL, Kd.dep, hD_kd a, hD_kd b]
  | .frm a b => by simp [Kd.d, hD, hDL, Kd.dep, hD_kd a, hD_kd b]
/-- how deep the kind told can be -/
theorem jdf_dep : ∀ (f : Nat) {d : D} {Γ : List Kd} {k : Kd} {q : Nat}, (∀ A ∈ Γ, A.dep ≤ q) → jdf f Γ d = some k → k.dep ≤ max q (hD d) + hD d
  | 0, d, Γ, k, q, hΓ, h => by simp [jdf] at h
  | f + 1, d, Γ, k, q, hΓ, h => by
    unfold jdf at h
    split at h
    · cases h
    · rename_i f' s r e1
      cases e1
      split at h
      · split at h
        · cases h; simp [Kd.dep]
        · cases h
      · split at h
        · split at h
          · split at h
            · have := hΓ k (List.mem_of_getElem? h)
              omega
            · cases h
          · cases h
        · split at h
          · split at h
            · rename_i a b
              simp only [Option.bind_eq_some_iff] at h
              obtain ⟨A, h1, B, h2, h3⟩ := h
              cases h3
              have ea := toK_some h1
              have hA : A.dep < hD (.tup [.str s, a, b]) := by
                have e := hD_kd A
                rw [← ea] at e
                simp only [hD, hDL]; omega
              have := jdf_dep f (Γ := _ ++ [A]) (q := max q (hD (.tup [.str s, a, b]))) (fun X hX => by
                rcases List.mem_append.mp hX with hX | hX
                · have := hΓ X hX; omega
                · have : X = A := by simpa using hX
                  rw [this]; omega) h2
              have hb : hD b < hD (.tup [.str s, a, b]) := by simp only [hD, hDL]; omega
              simp only [Kd.dep]; omega
            · cases h
          · split at h
            · split at h
              · rename_i a b
                simp only [Option.bind_eq_some_iff] at h
                obtain ⟨u, h1, x, h2, h3⟩ := h
                have := jdf_dep f hΓ h1
                have ha : hD a < hD (.tup [.str s, a, b]) := by simp only [hD, hDL]; omega
                unfold appK at h3
                split at h3
                · split at h3
                  · cases h3; simp only [Kd.dep] at this; omega
                  · cases h3
                · cases h3
              · cases h
            · split at h
              · split at h
                · rename_i a b
                  simp only [Option.bind_eq_some_iff] at h
                  obtain ⟨u, h1, x, h2, h3⟩ := h
                  cases h3
                  have := jdf_dep f hΓ h1
                  have := jdf_dep f hΓ h2
                  have ha : hD a < hD (.tup [.str s, a, b]) := by simp only [hD, hDL]; omega
                  have hb : hD b < hD (.tup [.str s, a, b]) := by simp only [hD, hDL]; omega
                  simp only [Kd.dep]; omega
                · cases h
              · split at h
                · split at h
                  · rename_i a
                    simp only [Option.bind_eq_some_iff] at h
                    obtain ⟨u, h1, h3⟩ := h
                    have := jdf_dep f hΓ h1
                    have ha : hD a < hD (.tup [.str s, a]) := by simp only [hD, hDL]; omega
                    unfold fstK at h3
                    split at h3
                    · cases h3; simp only [Kd.dep] at this; omega
                    · cases h3
                  · cases h
                · split at h
                  · split at h
                    · rename_i a
                      simp only [Option.bind_eq_some_iff] at h
                      obtain ⟨u, h1, h3⟩ := h
                      have := jdf_dep f hΓ h1
                      have ha : hD a < hD (.tup [.str s, a]) := by simp only [hD, hDL]; omega
                      unfold sndK at h3
                      split at h3
                      · cases h3; simp only [Kd.dep] at this; omega
                      · cases h3
                    · cases h
                  · cases h
    · cases h
theorem two_do' {n : Nat} {a b : Option Kd} {S : Store} (h : 1 ≤ n) (hd : ∀ u, a = some u → u.dep ≤ 200) : ev n .f_kind_of_two [.str "do", oK a, oK b] S = .ok (oK (a.bind fun u => b.bind fun x => appK u x)) S := by
  obtain ⟨m, rfl, h'⟩ := up (d := 0) (by omega : 0 + 1 ≤ n)
  by_cases hf : ∃ A B, a = some (.frm A B)
  · obtain ⟨A, B, rfl⟩ := hf
    have hu := hd _ rfl
    simp only [Kd.dep] at hu
    rw [ev, b_kind_of_two]
    cases b with
    | none =>
      have n1 := is_non_kd (k := .frm A B) (S := S)
      simp [oK, n1]
    | some x =>
      have n1 := is_non_kd (k := .frm A B) (S := S)
      have n2 := is_non_kd (k := x) (S := S)
      have e := Kd.gEq_d (a := A) (b := x) (S := S) (by omega)
      simp only [Kd.d] at n1
      by_cases hA : A = x
      · subst hA
        simp only [decide_true] at e
        simp [oK, n1, n2, Kd.d, appK, e]
      · rw [decide_eq_false hA] at e
        simp [oK, n1, n2, Kd.d, appK, e, hA]
  · rw [ev, b_kind_of_two]
    cases a with
    | none => simp [oK]
    | some u =>
      cases b with
      | none => simp [oK, is_non_kd]
      | some x =>
        have n1 := is_non_kd (k := u) (S := S)
        have n2 := is_non_kd (k := x) (S := S)
        cases u with
        | frm A B => exact absurd ⟨A, B, rfl⟩ hf
        | base i => simp only [Kd.d] at n1; simp [oK, n1, n2, Kd.d, appK]
        | unit => simp only [Kd.d] at n1; simp [oK, n1, n2, Kd.d, appK]
        | both A B => simp only [Kd.d] at n1; simp [oK, n1, n2, Kd.d, appK]
/-- the word's own parts, put apart -/
inductive Sh : D → Prop
  | unit : Sh (.tup [.str "unit"])
  | giv (d : D) : Sh (.tup [.str "given", d])
  | mk (a b : D) : Sh (.tup [.str "make", a, b])
  | app (a b : D) : Sh (.tup [.str "do", a, b])
  | both (a b : D) : Sh (.tup [.str "both", a, b])
  | fst (a : D) : Sh (.tup [.str "first", a])
  | snd (a : D) : Sh (.tup [.str "second", a])
theorem shp_sh {d : D} (h : shp d = true) : Sh d := by
  unfold shp at h
  split at h
  · rename_i s r
    split at h
    · rename_i k hk
      have hl := of_decide_eq_true h
      unfold prts at hk
      split at hk
      · rename_i e; subst e; cases hk
        match r, hl with
        | [x], _ => exact .giv x
      · split at hk
        · rename_i e; subst e; cases hk
          match r, hl with
          | [x, y], _ => exact .mk x y
        · split at hk
          · rename_i e; subst e; cases hk
            match r, hl with
            | [x, y], _ => exact .app x y
          · split at hk
            · rename_i e; subst e; cases hk
              match r, hl with
              | [x, y], _ => exact .both x y
            · split at hk
              · rename_i e; subst e; cases hk
                match r, hl with
                | [x], _ => exact .fst x
              · split at hk
                · rename_i e; subst e; cases hk
                  match r, hl with
                  | [x], _ => exact .snd x
                · split at hk
                  · rename_i e; subst e; cases hk
                    match r, hl with
                    | [], _ => exact .unit
                  · cases hk
    · cases h
  · cases h
theorem jdf_noshp : ∀ {f : Nat} {Γ : List Kd} {d : D}, shp d = false → jdf f Γ d = none
  | 0, _, _, _ => rfl
  | f + 1, Γ, d, h => by
    unfold jdf
    split
    · rfl
    · rename_i f' s r e1
      have hh : ∀ k, prts s = some k → ¬ k = r.length + 1 := by
        intro k hk hl
        simp [shp, hk, hl] at h
      unfold prts at hh
      by_cases h7 : s = "unit"
      · subst h7
        rw [if_pos rfl]
        cases r with
        | nil => exact absurd rfl (hh 1 rfl)
        | cons a r => rfl
      rw [if_neg h7]
      by_cases h1 : s = "given"
      · subst h1
        rw [if_pos rfl]
        split
        · exact absurd rfl (hh 2 rfl)
        · rfl
      rw [if_neg h1]
      by_cases h2 : s = "make"
      · subst h2
        rw [if_pos rfl]
        split
        · exact absurd rfl (hh 3 rfl)
        · rfl
      rw [if_neg h2]
      by_cases h3 : s = "do"
      · subst h3
        rw [if_pos rfl]
        split
        · exact absurd rfl (hh 3 rfl)
        · rfl
      rw [if_neg h3]
      by_cases h4 : s = "both"
      · subst h4
        rw [if_pos rfl]
        split
        · exact absurd rfl (hh 3 rfl)
        · rfl
      rw [if_neg h4]
      by_cases h5 : s = "first"
      · subst h5
        rw [if_pos rfl]
        split
        · exact absurd rfl (hh 2 rfl)
        · rfl
      rw [if_neg h5]
      by_cases h6 : s = "second"
      · subst h6
        rw [if_pos rfl]
        split
        · exact absurd rfl (hh 2 rfl)
        · rfl
      rw [if_neg h6]
    · rfl
theorem kind_in_gen : ∀ (f : Nat) {d x : D} {Γ : List Kd} {n q : Nat} {S : Store}, hD d < f → (∀ A ∈ Γ, A.dep ≤ q) → lay d → nd d ≤ 8000000 → Gv S x Γ → max q (hD d) + hD d ≤ 200 → hD d + 5 ≤ n → Γ.length + hD d ≤ 10000 → ev n .f_kind_in [d, x] S = .ok (oK (jdf f Γ d)) S
  | 0, d, x, Γ, n, q, S, hf, hΓ, l, hnd, hg, hq, hn, hl => absurd hf (by omega)
  | f + 1, d, x, Γ, n, q, S, hf, hΓ, l, hnd, hg, hq, hn, hl => by
    obtain ⟨m, rfl, h'⟩ := up (d := hD d + 4) (by omega : hD d + 4 + 1 ≤ n)
    have h8 : sizeLine = 16777216 := rfl
    have es := shape_gen (n := m) (d := d) (S := S) (by omega) l
    cases hs : shp d with
    | false =>
      rw [hs] at es
      rw [jdf_noshp hs, ev, b_kind_in]
      simp [es, oK]
    | true =>
      rw [hs] at es
      cases shp_sh hs with
      | unit =>
        rw [ev, b_kind_in]
        simp [es, jdf, oK, Kd.d, h8]
      | giv d =>
        have ld : lay d := (layL_cons.mp (layL_cons.mp (lay_tup l)).2).1
        have eg := given_gen (n := m) (d := d) (x := x) (Γ := Γ) (S := S) (by omega) ld hg
        have ej : jdf (f + 1) Γ (.tup [.str "given", d]) = gvO Γ d := by
          unfold jdf
          cases d <;> simp [gvO]
        rw [ej, ev, b_kind_in]
        simp [es, eg]
      | mk a b =>
        have la : lay a := (layL_cons.mp (layL_cons.mp (lay_tup l)).2).1
        have lb : lay b := (layL_cons.mp (layL_cons.mp (layL_cons.mp (lay_tup l)).2).2).1
        simp only [nd, ndL] at hnd
        have ek := is_kind_gen (n := m) (d := a) (S := S) (by omega) (by omega) la
        have ej : jdf (f + 1) Γ (.tup [.str "make", a, b]) = (toK a).bind fun A => (jdf f (Γ ++ [A]) b).bind fun B => some (.frm A B) := by
          simp [jdf]
        rw [ej, ev, b_kind_in]
        simp only [hD, hDL] at hf hq h' hl
        cases hk : toK a with
        | none =>
          rw [toK_no hk] at ek
          simp [es, ek, oK]
        | some A =>
          rw [toK_is hk] at ek
          have ea := toK_some hk
          subst ea
          have eh := hD_kd A
          have ga := hg.add A (by omega)
          have ei := kind_in_gen f (d := b) (x := .lst ((Γ ++ [A]).map Kd.d)) (Γ := Γ ++ [A]) (n := m) (q := max q A.dep) (S := S) (by omega) (fun X hX => by
            rcases List.mem_append.mp hX with hX | hX
            · have := hΓ X hX; omega
            · have : X = A := by simpa using hX
              rw [this]; omega) lb (by omega) .lst (by omega) (by omega) (by simp; omega)
          simp only [List.map_append, List.map_cons, List.map_nil] at ei ga
          cases hb : jdf f (Γ ++ [A]) b with
          | none =>
            rw [hb] at ei
            simp [es, ek, ga, ei, oK, hb]
          | some B =>
            rw [hb] at ei
            have nb := is_non_kd (k := B) (S := S)
            simp only [oK] at ei
            simp [es, ek, ga, ei, oK, nb, Kd.d, h8, hb]
      | app a b =>
        have la : lay a := (layL_cons.mp (layL_cons.mp (lay_tup l)).2).1
        have lb : lay b := (layL_cons.mp (layL_cons.mp (layL_cons.mp (lay_tup l)).2).2).1
        simp only [nd, ndL] at hnd
        simp only [hD, hDL] at hf hq h' hl
        have e1 := kind_in_gen f (d := a) (x := x) (Γ := Γ) (n := m) (q := q) (S := S) (by omega) hΓ la (by omega) hg (by omega) (by omega) (by omega)
        have e2 := kind_in_gen f (d := b) (x := x) (Γ := Γ) (n := m) (q := q) (S := S) (by omega) hΓ lb (by omega) hg (by omega) (by omega) (by omega)
        have e3 := two_do' (n := m) (a := jdf f Γ a) (b := jdf f Γ b) (S := S) (by omega) (fun u hu => by have := jdf_dep f hΓ hu; omega)
        have iw := in_words (s := "do") (S := S)
        have ej : jdf (f + 1) Γ (.tup [.str "do", a, b]) = (jdf f Γ a).bind fun u => (jdf f Γ b).bind fun x => appK u x := by
          simp [jdf]
        rw [ej]
        generalize oK ((jdf f Γ a).bind fun u => (jdf f Γ b).bind fun x => appK u x) = R at *
        generalize oK (jdf f Γ a) = ka at *
        generalize oK (jdf f Γ b) = kb at *
        rw [ev, b_kind_in]
        simp [es, e1, e2, e3, iw]
      | both a b =>
        have la : lay a := (layL_cons.mp (layL_cons.mp (lay_tup l)).2).1
        have lb : lay b := (layL_cons.mp (layL_cons.mp (layL_cons.mp (lay_tup l)).2).2).1
        simp only [nd, ndL] at hnd
        simp only [hD, hDL] at hf hq h' hl
        have e1 := kind_in_gen f (d := a) (x := x) (Γ := Γ) (n := m) (q := q) (S := S) (by omega) hΓ la (by omega) hg (by omega) (by omega) (by omega)
        have e2 := kind_in_gen f (d := b) (x := x) (Γ := Γ) (n := m) (q := q) (S := S) (by omega) hΓ lb (by omega) hg (by omega) (by omega) (by omega)
        have e3 := two_both (n := m) (a := jdf f Γ a) (b := jdf f Γ b) (S := S) (by omega)
        have iw := in_words (s := "both") (S := S)
        have ej : jdf (f + 1) Γ (.tup [.str "both", a, b]) = (jdf f Γ a).bind fun u => (jdf f Γ b).bind fun x => some (.both u x) := by
          simp [jdf]
        rw [ej]
        generalize oK ((jdf f Γ a).bind fun u => (jdf f Γ b).bind fun x => some (.both u x)) = R at *
        generalize oK (jdf f Γ a) = ka at *
        generalize oK (jdf f Γ b) = kb at *
        rw [ev, b_kind_in]
        simp [es, e1, e2, e3, iw]
      | fst a =>
        have la : lay a := (layL_cons.mp (layL_cons.mp (lay_tup l)).2).1
        simp only [nd, ndL] at hnd
        simp only [hD, hDL] at hf hq h' hl
        have e1 := kind_in_gen f (d := a) (x := x) (Γ := Γ) (n := m) (q := q) (S := S) (by omega) hΓ la (by omega) hg (by omega) (by omega) (by omega)
        have iw := in_words (s := "first") (S := S)
        have ej : jdf (f + 1) Γ (.tup [.str "first", a]) = (jdf f Γ a).bind fstK := by
          simp [jdf]
        rw [ej, ev, b_kind_in]
        cases ha : jdf f Γ a with
        | none => rw [ha] at e1; simp [es, e1, iw, oK]
        | some u =>
          rw [ha] at e1
          have nu := is_non_kd (k := u) (S := S)
          simp only [oK] at e1
          cases u <;> simp only [Kd.d] at nu e1 <;> simp [es, e1, iw, oK, nu, fstK, Kd.d]
      | snd a =>
        have la : lay a := (layL_cons.mp (layL_cons.mp (lay_tup l)).2).1
        simp only [nd, ndL] at hnd
        simp only [hD, hDL] at hf hq h' hl
        have e1 := kind_in_gen f (d := a) (x := x) (Γ := Γ) (n := m) (q := q) (S := S) (by omega) hΓ la (by omega) hg (by omega) (by omega) (by omega)
        have iw := in_words (s := "second") (S := S)
        have ej : jdf (f + 1) Γ (.tup [.str "second", a]) = (jdf f Γ a).bind sndK := by
          simp [jdf]
        rw [ej, ev, b_kind_in]
        cases ha : jdf f Γ a with
        | none => rw [ha] at e1; simp [es, e1, iw, oK]
        | some u =>
          rw [ha] at e1
          have nu := is_non_kd (k := u) (S := S)
          simp only [oK] at e1
          cases u <;> simp only [Kd.d] at nu e1 <;> simp [es, e1, iw, oK, nu, sndK, Kd.d]
theorem sure_in_gen {f : Nat} {d x : D} {Γ : List Kd} {n q : Nat} {S : Store} (hf : hD d < f) (hΓ : ∀ A ∈ Γ, A.dep ≤ q) (l : lay d) (hnd : nd d ≤ 8000000) (hg : Gv S x Γ) (hq : max q (hD d) + hD d ≤ 200) (hn : hD d + 6 ≤ n) (hl : Γ.length + hD d ≤ 10000) :
    ev n .f_sure_kind_in [d, x] S = (match jdf f Γ d with | some k => .ok k.d S | none => .ex ⟨"NoTerm", [], []⟩ S) := by
  obtain ⟨m, rfl, h'⟩ := up (d := hD d + 5) hn
  have e := kind_in_gen f (n := m) (S := S) hf hΓ l hnd hg hq h' hl
  rw [ev, b_sure_kind_in]
  cases hj : jdf f Γ d with
  | none =>
    rw [hj] at e
    simp [e, oK]
  | some k =>
    rw [hj] at e
    have nk := is_non_kd (k := k) (S := S)
    simp only [oK] at e
    simp [e, nk]
end Kz

namespace Kz
open PySem PySem.Spec PyProof.Rows L2 Kw
/-! wells and draws, the other way -/
theorem lt_of_at {S : Store} {w : Nat} {c : Cell} (h : S[w]? = some c) : w < S.length := by
  rcases Nat.lt_or_ge w S.length with hh | hh
  · exact hh
  · rw [List.getElem?_eq_none hh] at h; cases h
/-- a well lies at w -/
def Well (S : Store) (w : Nat) : Prop := ∃ a b c : Int, 0 ≤ a ∧ 0 ≤ c ∧ S[w]? = some (.lst [.int a, .int b, .int c])
/-- only the well was changed -/
structure WS (S : Store) (w : Nat) (S' : Store) : Prop where
  len : S'.length = S.length
  same : ∀ i, i ≠ w → S'[i]? = S[i]?
  well : Well S' w
theorem WS.refl {S : Store} {w : Nat} (h : Well S w) : WS S w S := ⟨rfl, fun _ _ => rfl, h⟩
theorem WS.trans {S S1 S2 : Store} {w : Nat} (h : WS S w S1) (k : WS S1 w S2) : WS S w S2 := ⟨k.len.trans h.len, fun i hi => (k.same i hi).trans (h.same i hi), k.well⟩
theorem WS.set {S : Store} {w : Nat} {a b c : Int} {x : Cell} (h : S[w]? = some x) (ha : 0 ≤ a) (hc : 0 ≤ c) : WS S w (S.set w (.lst [.int a, .int b, .int c])) :=
  ⟨by simp, fun i hi => by rw [List.getElem?_set_ne (Ne.symm hi)], a, b, c, ha, hc, List.getElem?_set_self (lt_of_at h)⟩
theorem well_new {n : Nat} {S : Store} {i : Int} (h : 1 ≤ n) : ∃ S', ev n .f__law_well [.int i] S = .ok (.loc S.length) (S ++ [S']) ∧ Well (S ++ [S']) S.length := by
  obtain ⟨m, rfl, h'⟩ := up h
  have m1 : CMul i (if i ≥ 10 ^ 18 then 1 else 0) ∨ CMulW i (if i ≥ 10 ^ 18 then 1 else 0) := .inl (.inr (by split <;> omega))
  refine ⟨.lst [.int (i * (if i ≥ 10 ^ 18 then 1 else 0)), .int i, .int 0], ?_, i * (if i ≥ 10 ^ 18 then 1 else 0), i, 0, ?_, by omega, by simp⟩
  · rw [ev, b__law_well]
    have h8 : sizeLine = 16777216 := rfl
    have e : (10 : Int) ^ 18 = 1000000000000000000 := by decide
    rw [e] at m1 ⊢
    by_cases h : (1000000000000000000 : Int) ≤ i
    · have h' : i ≥ 1000000000000000000 := h
      rw [if_pos h'] at m1 ⊢
      simp [h, m1, h8]
    · have h' : ¬ i ≥ 1000000000000000000 := h
      rw [if_neg h'] at m1 ⊢
      simp [h, m1, h8]
  · split
    · omega
    · omega
theorem draw_sp {n : Nat} {S : Store} {w : Nat} {m : Int} (h : 1 ≤ n) (hw : Well S w) (hm : 0 < m) (hm' : m < 1000000000) : ∃ r S', ev n .f__law_draw [.loc w, .int m] S = .ok (.int r) S' ∧ 0 ≤ r ∧ r < m ∧ WS S w S' := by
  obtain ⟨n, rfl, h'⟩ := up h
  obtain ⟨a, b, c, ha, hc, at_⟩ := hw
  have hw := lt_of_at at_
  have hlog : m.natAbs.log2 < 9000 := by
    rcases Nat.eq_zero_or_pos m.natAbs with h0 | h0
    · rw [h0]; decide
    · have : m.natAbs.log2 < 40 := (Nat.log2_lt (by omega)).mpr (by omega)
      omega
  rw [ev, b__law_draw]
  by_cases h0 : 0 < a
  · refine ⟨a % m, S.set w (.lst [.int (a / m), .int b, .int c]), ?_, Int.emod_nonneg _ (by omega), Int.emod_lt_of_pos _ hm, WS.set at_ (Int.ediv_nonneg ha (by omega)) hc⟩
    simp [cellOf_of at_, h0, hm, hlog, gSb, gSetI, cellM_of at_, L2.ixN]
  · have l1 : (1013 : Nat).log2 < 9000 := by decide
    have l2 : (2011 : Nat).log2 < 9000 := by decide
    have l3 : (2147483629 : Nat).log2 < 9000 := by decide +kernel
    have at2 : (S.set w (.lst [.int a, .int b, .int (c + 1)]))[w]? = some (.lst [.int a, .int b, .int (c + 1)]) := List.getElem?_set_self hw
    have c1 : ∀ i j : Int, 0 ≤ j → j < 18446744073709551616 → (CMul i j ∨ CMulW i j) = True := fun i j h1 h2 => eq_true (.inl (.inr ⟨by omega, by omega⟩))
    have c2 : ∀ i j : Int, 0 ≤ i → i < 18446744073709551616 → (CMul i j ∨ CMulW i j) = True := fun i j h1 h2 => eq_true (.inl (.inl ⟨by omega, by omega⟩))
    have b1 : ∀ x : Int, 0 ≤ x % 2147483647 ∧ x % 2147483647 < 2147483647 := fun x => by omega
    have b2 : ∀ x : Int, 0 ≤ x % 2147483629 ∧ x % 2147483629 < 2147483629 := fun x => by omega
    have k1 := fun (x y : Int) => c2 (x % 2147483647) y (b1 x).1 (by have := (b1 x).2; omega)
    have k2 := fun (x y : Int) => c2 (x % 2147483629) y (b2 x).1 (by have := (b2 x).2; omega)
    have k3 := fun (x : Int) => c1 x 48271 (by omega) (by omega)
    have k4 := fun (x : Int) => c2 69623 x (by omega) (by omega)
    have k5 := fun (x : Int) => c1 x 30013 (by omega) (by omega)
    obtain ⟨L0, hL0⟩ : ∃ L0 : Int, L0 = (b % 2147483629 + b / 2147483629 * 30013 + 69623 * (c + 1) + 1) * 48271 % 2147483647 := ⟨_, rfl⟩
    obtain ⟨L1, hL1⟩ : ∃ L1 : Int, L1 = L0 * (L0 / 1013 + 69621 + (c + 1)) % 2147483629 := ⟨_, rfl⟩
    refine ⟨(L1 * (L1 / 2011 + 40692) % 2147483399) % m, S.set w (.lst [.int a, .int b, .int (c + 1)]), ?_, Int.emod_nonneg _ (by omega), Int.emod_lt_of_pos _ hm, WS.set at_ ha (by omega)⟩
    subst hL1; subst hL0
    simp [cellOf_of at_, h0, hm, hlog, gSb, gSetI, cellM_of at_, L2.ixN, cellOf_of at2, k1, k2, k3, k4, k5, l1, l2, l3]
end Kz

namespace Kz
open PySem PySem.Spec PyProof.Rows L2 Kw
/-! drawn kinds of the laws about terms; the ways to a base -/
theorem kdep_sz : ∀ K : Kd, K.dep < K.sz
  | .base _ => by simp [Kd.dep, Kd.sz]
  | .unit => by simp [Kd.dep, Kd.sz]
  | .both a b => by have := kdep_sz a; have := kdep_sz b; simp only [Kd.dep, Kd.sz]; omega
  | .frm a b => by have := kdep_sz a; have := kdep_sz b; simp only [Kd.dep, Kd.sz]; omega
theorem three_eight {q : Int} (h0 : 0 ≤ q) (h1 : q < 3) {S : Store} : ∃ W : Int, gIx (.lst [.int 3, .int 3, .int 8]) (.int q) S = .ok (.int W) S ∧ 0 < W ∧ W ≤ 8 := by
  have : q = 0 ∨ q = 1 ∨ q = 2 := by omega
  rcases this with rfl | rfl | rfl
  · exact ⟨3, by simp, by omega, by omega⟩
  · exact ⟨3, by simp, by omega, by omega⟩
  · exact ⟨8, by simp, by omega, by omega⟩
theorem lkind_sp : ∀ (d : Nat) {n : Nat} {S : Store} {w : Nat}, d + 2 ≤ n → Well S w → ∃ (K : Kd) (S' : Store), ev n .f__law_kind [.loc w, .int (d : Int)] S = .ok K.d S' ∧ K.dep ≤ d ∧ K.sz < 2 ^ (d + 1) ∧ WS S w S'
  | d, n, S, w, h, hw => by
    have h8 : sizeLine = 16777216 := rfl
    obtain ⟨m, rfl, h'⟩ := up (d := d + 1) h
    obtain ⟨r, S1, e1, r0, r1, w1⟩ := draw_sp (n := m) (S := S) (w := w) (m := 7) (by omega) hw (by omega) (by omega)
    rw [ev, b__law_kind]
    by_cases hb : d = 0 ∨ r < 2
    · obtain ⟨q, S2, e2, q0, q1, w2⟩ := draw_sp (n := m) (S := S1) (w := w) (m := 3) (by omega) w1.well (by omega) (by omega)
      obtain ⟨W, eW, W0, W1⟩ := three_eight q0 q1 (S := S2)
      obtain ⟨i, S3, e3, i0, i1, w3⟩ := draw_sp (n := m) (S := S2) (w := w) (m := W) (by omega) w2.well W0 (by omega)
      refine ⟨.base ⟨i.toNat, by omega⟩, S3, ?_, by simp [Kd.dep], by simp only [Kd.sz]; have := Nat.two_pow_pos d; rw [Nat.pow_succ]; omega, (w1.trans w2).trans w3⟩
      have ei : ((i.toNat : Nat) : Int) = i := by omega
      have eW' : ixR [D.int 3, .int 3, .int 8] q S2 = .ok (.int W) S2 := eW
      rcases hb with hb | hb
      · subst hb
        simp [e1, e2, eW', e3, h8, Kd.d, ei]
      · by_cases hd : d = 0
        · subst hd
          simp [e1, e2, eW', e3, h8, Kd.d, ei]
        · have hd' : ¬ (d : Int) = 0 := by omega
          simp [e1, e2, eW', e3, h8, Kd.d, ei, hb, hd']
    · have hd : d ≠ 0 := fun e => hb (.inl e)
      have hr : ¬ r < 2 := fun e => hb (.inr e)
      obtain ⟨d', rfl⟩ : ∃ d', d = d' + 1 := ⟨d - 1, by omega⟩
      have hd' : ¬ ((d' + 1 : Nat) : Int) = 0 := by omega
      have es : ((d' + 1 : Nat) : Int) - 1 = (d' : Int) := by omega
      generalize hD : ((d' + 1 : Nat) : Int) = Z at *
      by_cases h2 : r = 2
      · subst h2
        exact ⟨.unit, S1, by simp [e1, hd', Kd.d, h8], by simp [Kd.dep], by simp only [Kd.sz]; have := Nat.two_pow_pos (d' + 1); rw [Nat.pow_succ]; omega, w1⟩
      · obtain ⟨A, S2, eA, dA, zA, wA⟩ := lkind_sp d' (n := m) (S := S1) (w := w) (by omega) w1.well
        obtain ⟨B, S3, eB, dB, zB, wB⟩ := lkind_sp d' (n := m) (S := S2) (w := w) (by omega) wA.well
        by_cases h5 : r < 5
        · exact ⟨.both A B, S3, by simp [e1, hd', hr, h2, h5, es, eA, eB, Kd.d, h8], by simp only [Kd.dep]; omega, by simp only [Kd.sz]; rw [Nat.pow_succ] at zA zB ⊢; omega, (w1.trans wA).trans wB⟩
        · exact ⟨.frm A B, S3, by simp [e1, hd', hr, h2, h5, es, eA, eB, Kd.d, h8], by simp only [Kd.dep]; omega, by simp only [Kd.sz]; rw [Nat.pow_succ] at zA zB ⊢; omega, (w1.trans wA).trans wB⟩
/-- a step on the way to a base -/
inductive Sp where
  | arg (A : Kd) | fst | snd
def Sp.d : Sp → D
  | .arg A => A.d
  | .fst => .str "first"
  | .snd => .str "second"
/-- the ways from a thing of the kind to the base i -/
def ways (i : Nat) : Kd → List (List Sp)
  | .base j => if j.val = i then [[]] else []
  | .unit => []
  | .frm A B => (ways i B).map (.arg A :: ·)
  | .both A B => (ways i A).map (.fst :: ·) ++ (ways i B).map (.snd :: ·)
def wayD (p : List Sp) : D := .lst (p.map Sp.d)
theorem ways_len (i : Nat) : ∀ K : Kd, (ways i K).length ≤ K.sz
  | .base j => by
    unfold ways
    split <;> simp [Kd.sz]
  | .unit => by simp [ways]
  | .frm A B => by have := ways_len i B; simp [ways, Kd.sz]; omega
  | .both A B => by have := ways_len i A; have := ways_len i B; simp [ways, Kd.sz]; omega
theorem ways_dep (i : Nat) : ∀ (K : Kd), ∀ p ∈ ways i K, p.length ≤ K.dep
  | .base j, p, h => by
    unfold ways at h
    split at h
    · have : p = [] := by simpa using h
      rw [this]; simp
    · cases h
  | .unit, p, h => by simp [ways] at h
  | .frm A B, p, h => by
    simp only [ways, List.mem_map] at h
    obtain ⟨q, hq, rfl⟩ := h
    have := ways_dep i B q hq
    simp [Kd.dep]; omega
  | .both A B, p, h => by
    simp only [ways, List.mem_append, List.mem_map] at h
    rcases h with ⟨q, hq, rfl⟩ | ⟨q, hq, rfl⟩
    · have := ways_dep i A q hq
      simp [Kd.dep]; omega
    · have := ways_dep i B q hq
      simp [Kd.dep]; omega
theorem lways_sp {i : Nat} : ∀ (K : Kd) {n : Nat} {S : Store}, K.dep + 1 ≤ n → K.sz ≤ 2000000 → ev n .f__law_ways [K.d, .int (i : Int)] S = .ok (.lst ((ways i K).map wayD)) S
  | .base j, n, S, h, hz => by
    have h8 : sizeLine = 16777216 := rfl
    obtain ⟨m, rfl, h'⟩ := up (d := 0) (by omega : 0 + 1 ≤ n)
    rw [ev, b__law_ways]
    unfold ways
    by_cases hj : j.val = i
    · have hj' : ((j.val : Nat) : Int) = (i : Int) := by omega
      rw [if_pos hj]
      generalize (i : Int) = Z at *
      simp [Kd.d, hj', gMul, h8, wayD, seqM]
    · have hj' : ¬ ((j.val : Nat) : Int) = (i : Int) := by omega
      rw [if_neg hj]
      generalize (i : Int) = Z at *
      simp [Kd.d, hj', gMul, h8, seqM]
  | .unit, n, S, h, hz => by
    have h8 : sizeLine = 16777216 := rfl
    obtain ⟨m, rfl, h'⟩ := up (d := 0) (by omega : 0 + 1 ≤ n)
    rw [ev, b__law_ways]
    simp [Kd.d, ways]
  | .frm A B, n, S, h, hz => by
    have h8 : sizeLine = 16777216 := rfl
    simp only [Kd.dep] at h
    simp only [Kd.sz] at hz
    obtain ⟨m, rfl, h'⟩ := up (d := max A.dep B.dep + 1) h
    have eB := lways_sp (i := i) B (n := m) (S := S) (by omega) (by omega)
    have lB := ways_len i B
    have hc := compL_map (tg := gN 3) (tt := fYes) (te := f2 (gAdd false) (fArg mkLst (fCons (f2 gIx (fVar 0) (fC (.int 1))) fNil)) (fVar 3)) (ρ := [some (Kd.frm A B).d, some (.int (i : Int)), none, none]) (S := S) (gg := none) (fun d => match d with | .lst ds => .lst (A.d :: ds) | _ => .non) (by unfold gd; trivial) ((ways i B).map wayD) [] (fun d hd => by
      obtain ⟨p, hp, rfl⟩ := List.mem_map.mp hd
      have lp := ways_dep i B p hp
      refine ⟨[some (Kd.frm A B).d, some (.int (i : Int)), none, some (wayD p)], by simp, rfl, ?_⟩
      have hl : p.length + 1 ≤ 16777216 := by have := kdep_sz B; omega
      simp [Kd.d, wayD, h8, hl]) (by simp; omega)
    have em : ((ways i B).map wayD).map (fun d => match d with | .lst ds => D.lst (A.d :: ds) | _ => .non) = (ways i (.frm A B)).map wayD := by
      simp [ways, wayD, Sp.d]
    rw [em] at hc
    simp only [List.nil_append] at hc
    rw [ev, b__law_ways]
    generalize hG : (ways i (.frm A B)).map wayD = G at *
    simp only [Kd.d] at hc ⊢
    simp [eB, wipeR, hc]
  | .both A B, n, S, h, hz => by
    have h8 : sizeLine = 16777216 := rfl
    simp only [Kd.dep] at h
    simp only [Kd.sz] at hz
    obtain ⟨m, rfl, h'⟩ := up (d := max A.dep B.dep + 1) h
    have eA := lways_sp (i := i) A (n := m) (S := S) (by omega) (by omega)
    have eB := lways_sp (i := i) B (n := m) (S := S) (by omega) (by omega)
    have lA := ways_len i A
    have lB := ways_len i B
    have hc : ∀ (K : Kd) (z : Str) (x2 : Option D), K.sz ≤ 2000000 → compL (gN 3) fYes (f2 (gAdd false) (fArg mkLst (fCons (fC (.str z)) fNil)) (fVar 3)) none [some (Kd.both A B).d, some (.int (i : Int)), x2, none] ((ways i K).map wayD) [] S = .ok (((ways i K).map wayD).map fun d => match d with | .lst ds => .lst (.str z :: ds) | _ => .non) S := by
      intro K z x2 hK
      have lK := ways_len i K
      have := compL_map (tg := gN 3) (tt := fYes) (te := f2 (gAdd false) (fArg mkLst (fCons (fC (.str z)) fNil)) (fVar 3)) (ρ := [some (Kd.both A B).d, some (.int (i : Int)), x2, none]) (S := S) (gg := none) (fun d => match d with | .lst ds => .lst (.str z :: ds) | _ => .non) (by unfold gd; trivial) ((ways i K).map wayD) [] (fun d hd => by
        obtain ⟨p, hp, rfl⟩ := List.mem_map.mp hd
        have lp := ways_dep i K p hp
        have := kdep_sz K
        have hl : p.length + 1 ≤ 16777216 := by omega
        refine ⟨[some (Kd.both A B).d, some (.int (i : Int)), x2, some (wayD p)], by simp, rfl, ?_⟩
        simp [wayD, h8, hl]) (by simp; omega)
      simpa using this
    have c1 := hc A "first" none (by omega)
    have c2 := hc B "second" (some (.lst (((ways i A).map wayD).map fun d => match d with | .lst ds => .lst (.str "first" :: ds) | _ => .non))) (by omega)
    have em : (((ways i A).map wayD).map fun d => match d with | .lst ds => D.lst (.str "first" :: ds) | _ => .non) ++ (((ways i B).map wayD).map fun d => match d with | .lst ds => D.lst (.str "second" :: ds) | _ => .non) = (ways i (.both A B)).map wayD := by
      simp only [ways, List.map_append, List.map_map]
      rfl
    have ll : (((ways i A).map wayD).map fun d => match d with | .lst ds => D.lst (.str "first" :: ds) | _ => .non).length + (((ways i B).map wayD).map fun d => match d with | .lst ds => D.lst (.str "second" :: ds) | _ => .non).length ≤ 16777216 := by simp; omega
    generalize (((ways i A).map wayD).map fun d => match d with | .lst ds => D.lst (.str "first" :: ds) | _ => .non) = P at *
    generalize (((ways i B).map wayD).map fun d => match d with | .lst ds => D.lst (.str "second" :: ds) | _ => .non) = Q at *
    rw [ev, b__law_ways]
    rw [← em]
    simp only [Kd.d] at c1 c2 ⊢
    simp [eA, eB, wipeR, c1, c2, h8, ll]
end Kz

namespace Kz
open PySem PySem.Spec PyProof.Rows L2 Kw
/-! a given put in between; the kind of a term as the law tells it; its size, its height -/
/-- one given more, at place p -/
def Tm.ups (p : Nat) : Tm → Tm
  | .giv k => .giv (if p ≤ k then k + 1 else k)
  | .unit => .unit
  | .mk A b => .mk A (b.ups p)
  | .app a b => .app (a.ups p) (b.ups p)
  | .both a b => .both (a.ups p) (b.ups p)
  | .fst a => .fst (a.ups p)
  | .snd a => .snd (a.ups p)
theorem ht_ups (p : Nat) : ∀ t : Tm, (t.ups p).ht = t.ht
  | .giv k => rfl
  | .unit => rfl
  | .mk A b => by simp [Tm.ups, Tm.ht, ht_ups p b]
  | .app a b => by simp [Tm.ups, Tm.ht, ht_ups p a, ht_ups p b]
  | .both a b => by simp [Tm.ups, Tm.ht, ht_ups p a, ht_ups p b]
  | .fst a => by simp [Tm.ups, Tm.ht, ht_ups p a]
  | .snd a => by simp [Tm.ups, Tm.ht, ht_ups p a]
theorem kdsT_ups {q p : Nat} : ∀ {t : Tm}, kdsT q t → kdsT q (t.ups p)
  | .giv k, h => by simp [Tm.ups, kdsT]
  | .unit, h => trivial
  | .mk A b, h => ⟨h.1, kdsT_ups h.2⟩
  | .app a b, h => ⟨kdsT_ups h.1, kdsT_ups h.2⟩
  | .both a b, h => ⟨kdsT_ups h.1, kdsT_ups h.2⟩
  | .fst a, h => kdsT_ups (t := a) h
  | .snd a, h => kdsT_ups (t := a) h
theorem tkd_ups (Γ : List Kd) (C : Kd) : ∀ (t : Tm) (Δ : List Kd), tkd (Γ ++ C :: Δ) (t.ups Γ.length) = tkd (Γ ++ Δ) t
  | .giv k, Δ => by
    simp only [Tm.ups, tkd]
    by_cases h : Γ.length ≤ k
    · rw [if_pos h, List.getElem?_append_right (by omega), List.getElem?_append_right h]
      have : k + 1 - Γ.length = (k - Γ.length) + 1 := by omega
      rw [this, List.getElem?_cons_succ]
    · rw [if_neg h, List.getElem?_append_left (by omega), List.getElem?_append_left (by omega)]
  | .unit, Δ => rfl
  | .mk A b, Δ => by
    have := tkd_ups Γ C b (Δ ++ [A])
    simp only [Tm.ups, tkd]
    rw [List.append_assoc, List.cons_append, this, ← List.append_assoc]
  | .app a b, Δ => by simp only [Tm.ups, tkd, tkd_ups Γ C a Δ, tkd_ups Γ C b Δ]
  | .both a b, Δ => by simp only [Tm.ups, tkd, tkd_ups Γ C a Δ, tkd_ups Γ C b Δ]
  | .fst a, Δ => by simp only [Tm.ups, tkd, tkd_ups Γ C a Δ]
  | .snd a, Δ => by simp only [Tm.ups, tkd, tkd_ups Γ C a Δ]
section
variable {n m : Nat} {S : Store}
theorem compL_ls {tg : FG} {tt : FT} {te : FE} {ρ : FEnv} {α : Type} (f g : α → D) : ∀ (L : List α) (acc : List D), (∀ s ∈ L, ∃ ρ1, tg (f s) ρ S = some (ρ1, S) ∧ tt ρ1 S = .ok true S ∧ te ρ1 S = .ok (g s) S) → acc.length + L.length ≤ sizeLine →
    compL tg tt te none ρ (L.map f) acc S = .ok (acc ++ L.map g) S
  | [], acc, _, _ => by simp [compL_nil (show gd none S by unfold gd; trivial)]
  | s :: L, acc, h, hl => by
    obtain ⟨ρ1, h1, h2, h3⟩ := h s List.mem_cons_self
    simp only [List.map_cons]
    rw [compL_step (by unfold gd; trivial) h1 h2 h3 (by simp at hl; omega), compL_ls f g L (acc ++ [g s]) (fun e he => h e (List.mem_cons_of_mem _ he)) (by simp at hl ⊢; omega)]
    simp
theorem llift_tail {m q : Nat} {t : D} (L : List Tm) (h : ∀ s ∈ L, ∀ {S : Store}, ev m .f__law_lift [s.d, .int (q : Int)] S = .ok (s.ups q).d S) (hl : L.length ≤ 100) : compL (gN 2) fYes (fArg (ev m .f__law_lift) (fCons (fVar 2) (fCons (fVar 1) fNil))) none [some t, some (.int (q : Int)), none] (L.map Tm.d) [] S = .ok (L.map fun s => (s.ups q).d) S := by
  have := compL_ls (tg := gN 2) (tt := fYes) (te := fArg (ev m .f__law_lift) (fCons (fVar 2) (fCons (fVar 1) fNil))) (ρ := [some t, some (.int (q : Int)), none]) (S := S) Tm.d (fun s => (s.ups q).d) L [] (fun s hs => ⟨[some t, some (.int (q : Int)), some s.d], by simp, rfl, by simp [h s hs]⟩) (by have h8 : sizeLine = 16777216 := rfl; simp; omega)
  simpa using this
theorem llift_ok {q : Nat} : ∀ (t : Tm) {n : Nat} {S : Store}, t.ht + 1 ≤ n → ev n .f__law_lift [t.d, .int (q : Int)] S = .ok (t.ups q).d S
  | .giv k, n, S, h => by
    have h8 : sizeLine = 16777216 := rfl
    obtain ⟨m, rfl, h'⟩ := up (d := 0) (by omega : 0 + 1 ≤ n)
    rw [ev, b__law_lift]
    by_cases hk : q ≤ k
    · have hk' : (q : Int) ≤ (k : Int) := by omega
      have e : ((k + 1 : Nat) : Int) = (k : Int) + 1 := by omega
      simp only [Tm.d, Tm.ups, if_pos hk, e]
      generalize (q : Int) = Q at *
      generalize (k : Int) = Z at *
      simp [h8, hk']
    · have hk' : ¬ (q : Int) ≤ (k : Int) := by omega
      simp only [Tm.d, Tm.ups, if_neg hk]
      generalize (q : Int) = Q at *
      generalize (k : Int) = Z at *
      simp [h8, hk']
  | .unit, n, S, h => by
    have h8 : sizeLine = 16777216 := rfl
    obtain ⟨m, rfl, h'⟩ := up (d := 0) (by omega : 0 + 1 ≤ n)
    have hc := llift_tail (S := S) (m := m) (q := q) (t := .tup [.str "unit"]) [] (fun s hs => nomatch hs) (by simp)
    have c1 : cutL [D.str "unit"] none (some 1) = [D.str "unit"] := rfl
    have c2 : cutL [D.str "unit"] (some 1) none = [] := rfl
    rw [ev, b__law_lift]
    simp at hc
    have gt : ∀ xs (T : Store), gTuple [.lst xs] T = .ok (.tup xs) T := fun _ _ => rfl
    simp [Tm.d, Tm.ups, h8, c1, c2, gt, wipeR, hc]
  | .mk A b, n, S, h => by
    have h8 : sizeLine = 16777216 := rfl
    simp only [Tm.ht] at h
    obtain ⟨m, rfl, h'⟩ := up (d := b.ht + 1) (by omega)
    have e := llift_ok (q := q) b (n := m) (S := S) (by omega)
    rw [ev, b__law_lift]
    simp [Tm.d, Tm.ups, h8, e]
  | .app a b, n, S, h => by
    have h8 : sizeLine = 16777216 := rfl
    simp only [Tm.ht] at h
    obtain ⟨m, rfl, h'⟩ := up (d := max a.ht b.ht + 1) (by omega)
    have ea := fun S => llift_ok (q := q) a (n := m) (S := S) (by omega)
    have eb := fun S => llift_ok (q := q) b (n := m) (S := S) (by omega)
    have hc := llift_tail (S := S) (m := m) (q := q) (t := .tup [.str "do", a.d, b.d]) [a, b] (fun s hs => by
      intro S
      rcases List.mem_cons.mp hs with e | hs
      · rw [e]; exact ea S
      · rcases List.mem_cons.mp hs with e | hs
        · rw [e]; exact eb S
        · cases hs) (by simp)
    have c1 : cutL [D.str "do", a.d, b.d] none (some 1) = [D.str "do"] := rfl
    have c2 : cutL [D.str "do", a.d, b.d] (some 1) none = [a.d, b.d] := rfl
    rw [ev, b__law_lift]
    simp at hc
    have gt : ∀ xs (T : Store), gTuple [.lst xs] T = .ok (.tup xs) T := fun _ _ => rfl
    simp [Tm.d, Tm.ups, h8, c1, c2, gt, wipeR, hc]
  | .both a b, n, S, h => by
    have h8 : sizeLine = 16777216 := rfl
    simp only [Tm.ht] at h
    obtain ⟨m, rfl, h'⟩ := up (d := max a.ht b.ht + 1) (by omega)
    have ea := fun S => llift_ok (q := q) a (n := m) (S := S) (by omega)
    have eb := fun S => llift_ok (q := q) b (n := m) (S := S) (by omega)
    have hc := llift_tail (S := S) (m := m) (q := q) (t := .tup [.str "both", a.d, b.d]) [a, b] (fun s hs => by
      intro S
      rcases List.mem_cons.mp hs with e | hs
      · rw [e]; exact ea S
      · rcases List.mem_cons.mp hs with e | hs
        · rw [e]; exact eb S
        · cases hs) (by simp)
    have c1 : cutL [D.str "both", a.d, b.d] none (some 1) = [D.str "both"] := rfl
    have c2 : cutL [D.str "both", a.d, b.d] (some 1) none = [a.d, b.d] := rfl
    rw [ev, b__law_lift]
    simp at hc
    have gt : ∀ xs (T : Store), gTuple [.lst xs] T = .ok (.tup xs) T := fun _ _ => rfl
    simp [Tm.d, Tm.ups, h8, c1, c2, gt, wipeR, hc]
  | .fst a, n, S, h => by
    have h8 : sizeLine = 16777216 := rfl
    simp only [Tm.ht] at h
    obtain ⟨m, rfl, h'⟩ := up (d := a.ht + 1) (by omega)
    have ea := fun S => llift_ok (q := q) a (n := m) (S := S) (by omega)
    have hc := llift_tail (S := S) (m := m) (q := q) (t := .tup [.str "first", a.d]) [a] (fun s hs => by
      intro S
      rcases List.mem_cons.mp hs with e | hs
      · rw [e]; exact ea S
      · cases hs) (by simp)
    have c1 : cutL [D.str "first", a.d] none (some 1) = [D.str "first"] := rfl
    have c2 : cutL [D.str "first", a.d] (some 1) none = [a.d] := rfl
    rw [ev, b__law_lift]
    simp at hc
    have gt : ∀ xs (T : Store), gTuple [.lst xs] T = .ok (.tup xs) T := fun _ _ => rfl
    simp [Tm.d, Tm.ups, h8, c1, c2, gt, wipeR, hc]
  | .snd a, n, S, h => by
    have h8 : sizeLine = 16777216 := rfl
    simp only [Tm.ht] at h
    obtain ⟨m, rfl, h'⟩ := up (d := a.ht + 1) (by omega)
    have ea := fun S => llift_ok (q := q) a (n := m) (S := S) (by omega)
    have hc := llift_tail (S := S) (m := m) (q := q) (t := .tup [.str "second", a.d]) [a] (fun s hs => by
      intro S
      rcases List.mem_cons.mp hs with e | hs
      · rw [e]; exact ea S
      · cases hs) (by simp)
    have c1 : cutL [D.str "second", a.d] none (some 1) = [D.str "second"] := rfl
    have c2 : cutL [D.str "second", a.d] (some 1) none = [a.d] := rfl
    rw [ev, b__law_lift]
    simp at hc
    have gt : ∀ xs (T : Store), gTuple [.lst xs] T = .ok (.tup xs) T := fun _ _ => rfl
    simp [Tm.d, Tm.ups, h8, c1, c2, gt, wipeR, hc]
end
end Kz

namespace Kz
open PySem PySem.Spec PyProof.Rows L2 Kw
/-! the kind of a term as the law tells it; sizes, heights -/
theorem word_of {S : Store} {s : Str} {r : List D} : gIx (.tup (.str s :: r)) (.int 0) S = .ok (.str s) S := by simp
theorem lkof_ok : ∀ (t : Tm) {Γ : List Kd} {K : Kd} {n : Nat} {S : Store}, tkd Γ t = some K → t.ht + 1 ≤ n → Γ.length + t.ht ≤ 10000 → ev n .f__law_kind_of [t.d, .lst (Γ.map Kd.d)] S = .ok K.d S
  | .giv k, Γ, K, n, S, ht, h, hl => by
    have h8 : sizeLine = 16777216 := rfl
    obtain ⟨m, rfl, h'⟩ := up (d := 0) (by omega : 0 + 1 ≤ n)
    simp only [tkd] at ht
    obtain ⟨hk, ek⟩ := List.getElem?_eq_some_iff.mp ht
    rw [ev, b__law_kind_of]
    simp [Tm.d, ht]
  | .unit, Γ, K, n, S, ht, h, hl => by
    have h8 : sizeLine = 16777216 := rfl
    obtain ⟨m, rfl, h'⟩ := up (d := 0) (by omega : 0 + 1 ≤ n)
    simp only [tkd] at ht
    cases ht
    rw [ev, b__law_kind_of]
    simp [Tm.d, h8, Kd.d]
  | .mk A b, Γ, K, n, S, ht, h, hl => by
    have h8 : sizeLine = 16777216 := rfl
    simp only [Tm.ht] at h hl
    obtain ⟨m, rfl, h'⟩ := up (d := b.ht + 1) h
    simp only [tkd, Option.bind_eq_some_iff] at ht
    obtain ⟨B, hB, e⟩ := ht
    cases e
    have eb := lkof_ok b (n := m) (S := S) hB (by omega) (by simp; omega)
    have ll : Γ.length + 1 ≤ 16777216 := by omega
    simp only [List.map_append, List.map_cons, List.map_nil] at eb
    rw [ev, b__law_kind_of]
    simp [Tm.d, h8, Kd.d, eb, ll]
  | .app a b, Γ, K, n, S, ht, h, hl => by
    have h8 : sizeLine = 16777216 := rfl
    simp only [Tm.ht] at h hl
    obtain ⟨m, rfl, h'⟩ := up (d := max a.ht b.ht + 1) h
    simp only [tkd, Option.bind_eq_some_iff] at ht
    obtain ⟨u, hu, x, hx, e⟩ := ht
    have ea := lkof_ok a (n := m) (S := S) hu (by omega) (by omega)
    split at e
    · rename_i A B
      split at e
      · cases e
        simp only [Kd.d] at ea
        rw [ev, b__law_kind_of]
        simp [Tm.d, h8, ea]
      · cases e
    · cases e
  | .both a b, Γ, K, n, S, ht, h, hl => by
    have h8 : sizeLine = 16777216 := rfl
    simp only [Tm.ht] at h hl
    obtain ⟨m, rfl, h'⟩ := up (d := max a.ht b.ht + 1) h
    simp only [tkd, Option.bind_eq_some_iff] at ht
    obtain ⟨u, hu, x, hx, e⟩ := ht
    cases e
    have ea := lkof_ok a (n := m) (S := S) hu (by omega) (by omega)
    have eb := lkof_ok b (n := m) (S := S) hx (by omega) (by omega)
    rw [ev, b__law_kind_of]
    simp [Tm.d, h8, ea, eb, Kd.d]
  | .fst a, Γ, K, n, S, ht, h, hl => by
    have h8 : sizeLine = 16777216 := rfl
    simp only [Tm.ht] at h hl
    obtain ⟨m, rfl, h'⟩ := up (d := a.ht + 1) h
    simp only [tkd, Option.bind_eq_some_iff] at ht
    obtain ⟨u, hu, e⟩ := ht
    have ea := lkof_ok a (n := m) (S := S) hu (by omega) (by omega)
    split at e
    · cases e
      simp only [Kd.d] at ea
      rw [ev, b__law_kind_of]
      simp [Tm.d, h8, ea]
    · cases e
  | .snd a, Γ, K, n, S, ht, h, hl => by
    have h8 : sizeLine = 16777216 := rfl
    simp only [Tm.ht] at h hl
    obtain ⟨m, rfl, h'⟩ := up (d := a.ht + 1) h
    simp only [tkd, Option.bind_eq_some_iff] at ht
    obtain ⟨u, hu, e⟩ := ht
    have ea := lkof_ok a (n := m) (S := S) hu (by omega) (by omega)
    split at e
    · cases e
      simp only [Kd.d] at ea
      rw [ev, b__law_kind_of]
      simp [Tm.d, h8, ea]
    · cases e
/-! ### sizes, heights of tuples -/
def isTp : D → Bool
  | .tup _ => true
  | _ => false
mutual
/-- how many tuples it is made of -/
def tc : D → Nat
  | .tup ds => tcL ds + 1
  | _ => 0
def tcL : List D → Nat
  | [] => 0
  | d :: ds => tc d + tcL ds
end
theorem compL_fil {tg : FG} {tt : FT} {te : FE} {ρ : FEnv} {S : Store} (p : D → Bool) (f : D → D) : ∀ (ds acc : List D), (∀ d ∈ ds, ∃ ρ1, tg d ρ S = some (ρ1, S) ∧ tt ρ1 S = .ok (p d) S ∧ (p d = true → te ρ1 S = .ok (f d) S)) → acc.length + ds.length ≤ sizeLine →
    compL tg tt te none ρ ds acc S = .ok (acc ++ (ds.filter p).map f) S
  | [], acc, _, _ => by simp [compL_nil (show gd none S by unfold gd; trivial)]
  | d :: ds, acc, h, hl => by
    obtain ⟨ρ1, h1, h2, h3⟩ := h d List.mem_cons_self
    have hr := fun e he => h e (List.mem_cons_of_mem d he)
    cases hp : p d with
    | true =>
      rw [hp] at h2
      rw [compL_step (by unfold gd; trivial) h1 h2 (h3 hp) (by simp at hl; omega), compL_fil p f ds _ hr (by simp at hl ⊢; omega)]
      simp [hp]
    | false =>
      rw [hp] at h2
      rw [compL_skip (by unfold gd; trivial) h1 h2, compL_fil p f ds _ hr (by simp at hl ⊢; omega)]
      simp [hp]
theorem isi_tp {d : D} {S : Store} (l : lay d) : isiR "tuple" d S = .ok (.bl (isTp d)) S := by
  by_cases h : ∃ ds, d = .tup ds
  · obtain ⟨ds, rfl⟩ := h
    rfl
  · have e : isTp d = false := by
      cases d <;> first | rfl | exact absurd ⟨_, rfl⟩ h
    rw [e]
    exact isi_notup l fun ds hh => h ⟨ds, hh⟩
theorem mem_lay' {d : D} : ∀ {ds : List D}, layL ds → d ∈ ds → lay d
  | e :: ds, l, h => by
    rcases List.mem_cons.mp h with rfl | h
    · exact (layL_cons.mp l).1
    · exact mem_lay' (layL_cons.mp l).2 h
theorem nd_mem {d : D} : ∀ {ds : List D}, d ∈ ds → nd d ≤ ndL ds
  | e :: ds, h => by
    simp only [ndL]
    rcases List.mem_cons.mp h with rfl | h
    · omega
    · have := nd_mem h; omega
mutual
/-- no tuple of many members -/
def ar : D → Prop
  | .tup ds => ds.length ≤ 1000 ∧ arL ds
  | _ => True
def arL : List D → Prop
  | [] => True
  | d :: ds => ar d ∧ arL ds
end
theorem mem_ar {d : D} : ∀ {ds : List D}, arL ds → d ∈ ds → ar d
  | e :: ds, l, h => by
    rcases List.mem_cons.mp h with rfl | h
    · exact l.1
    · exact mem_ar l.2 h
theorem ar_kd : ∀ k : Kd, ar k.d
  | .base _ => by simp [Kd.d, ar, arL]
  | .unit => by simp [Kd.d, ar, arL]
  | .both a b => by simp [Kd.d, ar, arL, ar_kd a, ar_kd b]
  | .frm a b => by simp [Kd.d, ar, arL, ar_kd a, ar_kd b]
theorem ar_tm : ∀ t : Tm, ar t.d
  | .giv _ => by simp [Tm.d, ar, arL]
  | .unit => by simp [Tm.d, ar, arL]
  | .mk A b => by simp [Tm.d, ar, arL, ar_kd A, ar_tm b]
  | .app a b => by simp [Tm.d, ar, arL, ar_tm a, ar_tm b]
  | .both a b => by simp [Tm.d, ar, arL, ar_tm a, ar_tm b]
  | .fst a => by simp [Tm.d, ar, arL, ar_tm a]
  | .snd a => by simp [Tm.d, ar, arL, ar_tm a]
theorem intsOf_map {α : Type} (f : α → Int) (L : List α) : intsOf (L.map fun x => D.int (f x)) = some (L.map f) := by
  induction L with
  | nil => rfl
  | cons x L ih => simp [intsOf, ih]
theorem tcL_fil : ∀ ds : List D, ((ds.filter isTp).map fun d => (tc d : Int)).sum = (tcL ds : Int)
  | [] => rfl
  | d :: ds => by
    have ih := tcL_fil ds
    cases h : isTp d with
    | true => simp [h, tcL, ih]
    | false =>
      have e : tc d = 0 := by cases d <;> first | rfl | simp [isTp] at h
      simp [h, tcL, ih, e]
theorem mem_hDL {d : D} : ∀ {ds : List D}, d ∈ ds → hD d ≤ hDL ds
  | e :: ds, h => by
    simp only [hDL]
    rcases List.mem_cons.mp h with rfl | h
    · omega
    · have := mem_hDL h; omega
theorem lsize_ok : ∀ (N : Nat) {ds : List D} {n : Nat} {S : Store}, hDL ds ≤ N → layL ds → ar (.tup ds) → N + 1 ≤ n → ev n .f__law_size [.tup ds] S = .ok (.int (tc (.tup ds) : Int)) S
  | N, ds, n, S, h, l, hn, hN => by
    have h8 : sizeLine = 16777216 := rfl
    obtain ⟨m, rfl, h'⟩ := up (d := N) hN
    have hlen := hn.1
    have hc := compL_fil (tg := gN 1) (tt := fTru (fIsi "tuple" (fVar 1))) (te := fArg (ev m .f__law_size) (fCons (fVar 1) fNil)) (ρ := [some (.tup ds), none]) (S := S) isTp (fun d => .int (tc d : Int)) ds [] (fun d hd => by
      have ld := mem_lay' l hd
      have ei := isi_tp (S := S) ld
      refine ⟨[some (.tup ds), some d], by simp, by simp [ei], fun hp => ?_⟩
      match d, hp with
      | .tup es, _ =>
        have hh := mem_hDL hd
        simp only [hD] at hh
        obtain ⟨N', rfl⟩ : ∃ N', N = N' + 1 := ⟨N - 1, by omega⟩
        have := lsize_ok N' (ds := es) (n := m) (S := S) (by omega) (lay_tup ld) (mem_ar hn.2 hd) h'
        simp [this]) (by simp; omega)
    have e1 : gSum [.lst ((ds.filter isTp).map fun d => D.int (tc d : Int))] S = .ok (.int (tcL ds : Int)) S := by
      have := intsOf_map (fun d => (tc d : Int)) (ds.filter isTp)
      simp [gSum, seqL, this, tcL_fil]
    simp only [List.nil_append] at hc
    have e2 : ((tc (.tup ds) : Nat) : Int) = 1 + (tcL ds : Int) := by simp only [tc]; omega
    rw [e2]
    generalize (tcL ds : Int) = Z at *
    rw [ev, b__law_size]
    simp [wipeR, hc, e1]
theorem mxI_nat {α : Type} (f : α → Nat) : ∀ (L : List α) (i : Nat), mxI (i : Int) (L.map fun x => (f x : Int)) = ((L.foldl (fun j x => max j (f x)) i : Nat) : Int)
  | [], i => rfl
  | x :: L, i => by
    simp only [List.map_cons, List.foldl_cons]
    have := mxI_nat f L (max i (f x))
    rw [← this]
    show mxI (if (f x : Int) > (i : Int) then (f x : Int) else (i : Int)) _ = _
    congr 1
    split <;> omega
theorem hDL_fold : ∀ (ds : List D) (i : Nat), (ds.filter isTp).foldl (fun j x => max j (hD x)) i = max i (hDL ds)
  | [], i => by simp [hDL]
  | d :: ds, i => by
    cases h : isTp d with
    | true =>
      simp only [List.filter_cons, h, if_true, List.foldl_cons, hDL]
      rw [hDL_fold ds]; omega
    | false =>
      have e : hD d = 0 := by cases d <;> first | rfl | simp [isTp] at h
      simp only [List.filter_cons, h, hDL, e]
      rw [if_neg (by simp), hDL_fold ds]; omega
theorem lheight_ok : ∀ (N : Nat) {ds : List D} {n : Nat} {S : Store}, hDL ds ≤ N → layL ds → ar (.tup ds) → N + 1 ≤ n → ev n .f__law_height [.tup ds] S = .ok (.int (hD (.tup ds) : Int)) S
  | N, ds, n, S, h, l, hn, hN => by
    have h8 : sizeLine = 16777216 := rfl
    obtain ⟨m, rfl, h'⟩ := up (d := N) hN
    have hlen := hn.1
    have hc := compL_fil (tg := gN 1) (tt := fTru (fIsi "tuple" (fVar 1))) (te := fArg (ev m .f__law_height) (fCons (fVar 1) fNil)) (ρ := [some (.tup ds), none]) (S := S) isTp (fun d => .int (hD d : Int)) ds [] (fun d hd => by
      have ld := mem_lay' l hd
      have ei := isi_tp (S := S) ld
      refine ⟨[some (.tup ds), some d], by simp, by simp [ei], fun hp => ?_⟩
      match d, hp with
      | .tup es, _ =>
        have hh := mem_hDL hd
        simp only [hD] at hh
        obtain ⟨N', rfl⟩ : ∃ N', N = N' + 1 := ⟨N - 1, by omega⟩
        have := lheight_ok N' (ds := es) (n := m) (S := S) (by omega) (lay_tup ld) (mem_ar hn.2 hd) h'
        simp [this]) (by simp; omega)
    have e1 : gMaxL [.lst (D.int 0 :: (ds.filter isTp).map fun d => D.int (hD d : Int))] S = .ok (.int (hDL ds : Int)) S := by
      have a1 := intsOf_map (fun d => (hD d : Int)) (ds.filter isTp)
      have a2 := mxI_nat hD (ds.filter isTp) 0
      rw [hDL_fold] at a2
      have a3 : max 0 (hDL ds) = hDL ds := by omega
      rw [a3] at a2
      have c0 : ((0 : Nat) : Int) = 0 := rfl
      rw [c0] at a2
      simp [gMaxL, seqL, intsOf, a1]
      exact a2
    simp only [List.nil_append] at hc
    have hfl : (ds.filter isTp).length ≤ ds.length := List.length_filter_le _ _
    have e2 : ((hD (.tup ds) : Nat) : Int) = 1 + (hDL ds : Int) := by simp only [hD]; omega
    rw [e2]
    have ll : ((ds.filter isTp).map fun d => D.int (hD d : Int)).length + 1 ≤ 16777216 := by simp; omega
    generalize (hDL ds : Int) = Z at *
    generalize ((ds.filter isTp).map fun d => D.int (hD d : Int)) = Q at *
    rw [ev, b__law_height]
    simp [wipeR, hc, e1, h8, ll]
end Kz

namespace Kz
open PySem PySem.Spec PyProof.Rows L2 Kw
/-! plain terms of a kind, drawn -/
mutual
/-- plain terms -/
inductive Nf : List Kd → Kd → Tm → Prop
  | unit {Γ : List Kd} : Nf Γ .unit .unit
  | both {Γ : List Kd} {A B : Kd} {a b : Tm} : Nf Γ A a → Nf Γ B b → Nf Γ (.both A B) (.both a b)
  | mk {Γ : List Kd} {A B : Kd} {b : Tm} : Nf (Γ ++ [A]) B b → Nf Γ (.frm A B) (.mk A b)
  | base {Γ : List Kd} {i : Fin 8} {t : Tm} : Ne Γ (.base i) t → Nf Γ (.base i) t
/-- a given, or what is done to one -/
inductive Ne : List Kd → Kd → Tm → Prop
  | giv {Γ : List Kd} {k : Nat} {K : Kd} : Γ[k]? = some K → Ne Γ K (.giv k)
  | fst {Γ : List Kd} {A B : Kd} {t : Tm} : Ne Γ (.both A B) t → Ne Γ A (.fst t)
  | snd {Γ : List Kd} {A B : Kd} {t : Tm} : Ne Γ (.both A B) t → Ne Γ B (.snd t)
  | app {Γ : List Kd} {A B : Kd} {t a : Tm} : Ne Γ (.frm A B) t → Nf Γ A a → Ne Γ B (.app t a)
end
mutual
theorem Nf.kd : ∀ {Γ : List Kd} {K : Kd} {t : Tm}, Nf Γ K t → tkd Γ t = some K
  | _, _, _, .unit => rfl
  | _, _, _, .both a b => by simp [tkd, a.kd, b.kd]
  | _, _, _, .mk b => by simp [tkd, b.kd]
  | _, _, _, .base t => t.kd
theorem Ne.kd : ∀ {Γ : List Kd} {K : Kd} {t : Tm}, Ne Γ K t → tkd Γ t = some K
  | _, _, _, .giv h => h
  | _, _, _, .fst t => by simp [tkd, t.kd]
  | _, _, _, .snd t => by simp [tkd, t.kd]
  | _, _, _, .app t a => by simp [tkd, t.kd, a.kd]
end
theorem sz_dep : ∀ K : Kd, K.sz < 2 ^ (K.dep + 1)
  | .base _ => by simp [Kd.sz, Kd.dep]
  | .unit => by simp [Kd.sz, Kd.dep]
  | .both a b => by
    have ha := sz_dep a
    have hb := sz_dep b
    have ma : 2 ^ (a.dep + 1) ≤ 2 ^ (max a.dep b.dep + 1) := Nat.pow_le_pow_right (by omega) (by omega)
    have mb : 2 ^ (b.dep + 1) ≤ 2 ^ (max a.dep b.dep + 1) := Nat.pow_le_pow_right (by omega) (by omega)
    simp only [Kd.sz, Kd.dep]
    rw [Nat.pow_succ _ (max a.dep b.dep + 1)]; omega
  | .frm a b => by
    have ha := sz_dep a
    have hb := sz_dep b
    have ma : 2 ^ (a.dep + 1) ≤ 2 ^ (max a.dep b.dep + 1) := Nat.pow_le_pow_right (by omega) (by omega)
    have mb : 2 ^ (b.dep + 1) ≤ 2 ^ (max a.dep b.dep + 1) := Nat.pow_le_pow_right (by omega) (by omega)
    simp only [Kd.sz, Kd.dep]
    rw [Nat.pow_succ _ (max a.dep b.dep + 1)]; omega
theorem sz_le {K : Kd} {q : Nat} (h : K.dep ≤ q) (hq : q ≤ 15) : K.sz ≤ 65536 := by
  have := sz_dep K
  have : 2 ^ (K.dep + 1) ≤ 2 ^ 16 := Nat.pow_le_pow_right (by omega) (by omega)
  omega
theorem sz_le8 {K : Kd} {q : Nat} (h : K.dep ≤ q) (hq : q ≤ 8) : K.sz ≤ 512 := by
  have := sz_dep K
  have : 2 ^ (K.dep + 1) ≤ 2 ^ 9 := Nat.pow_le_pow_right (by omega) (by omega)
  omega
/-- the givens: every base is there; within bounds -/
structure Gk (q : Nat) (Γ : List Kd) : Prop where
  base : ∀ i : Fin 8, ∃ k : Nat, Γ[k]? = some (.base i)
  dep : ∀ A ∈ Γ, A.dep ≤ q
theorem Gk.snoc {q : Nat} {Γ : List Kd} (h : Gk q Γ) {A : Kd} (hd : A.dep ≤ q) : Gk q (Γ ++ [A]) :=
  ⟨fun i => by
    obtain ⟨k, hk⟩ := h.base i
    obtain ⟨hl, _⟩ := List.getElem?_eq_some_iff.mp hk
    exact ⟨k, by rw [List.getElem?_append_left hl]; exact hk⟩, fun X hX => by
    rcases List.mem_append.mp hX with hX | hX
    · exact h.dep X hX
    · have : X = A := by simpa using hX
      rw [this]; exact hd⟩
/-- the ways of all givens -/
def wsL (i : Nat) : Nat → List Kd → List (Nat × List Sp)
  | _, [] => []
  | k, A :: r => (ways i A).map (fun p => (k, p)) ++ wsL i (k + 1) r
def prD (x : Nat × List Sp) : D := .tup [.int (x.1 : Int), wayD x.2]
theorem wsL_len {i z : Nat} : ∀ (r : List Kd) (k : Nat), (∀ A ∈ r, A.sz ≤ z) → (wsL i k r).length ≤ r.length * z
  | [], k, _ => by simp [wsL]
  | A :: r, k, h => by
    have := ways_len i A
    have := h A List.mem_cons_self
    have := wsL_len (i := i) r (k + 1) (fun B hB => h B (List.mem_cons_of_mem _ hB))
    simp only [wsL, List.length_append, List.length_map, List.length_cons]
    rw [Nat.add_mul]; omega
theorem wsL_mem {i : Nat} {x : Nat × List Sp} : ∀ (r : List Kd) (k : Nat), x ∈ wsL i k r → ∃ A, k ≤ x.1 ∧ r[x.1 - k]? = some A ∧ x.2 ∈ ways i A
  | A :: r, k, h => by
    simp only [wsL, List.mem_append, List.mem_map] at h
    rcases h with ⟨p, hp, rfl⟩ | h
    · exact ⟨A, Nat.le_refl _, by simp, hp⟩
    · obtain ⟨B, h1, h2, h3⟩ := wsL_mem r (k + 1) h
      refine ⟨B, by omega, ?_, h3⟩
      have : x.1 - k = (x.1 - (k + 1)) + 1 := by omega
      rw [this, List.getElem?_cons_succ]; exact h2
theorem wsL_base {i : Fin 8} : ∀ (r : List Kd) (k j : Nat), r[j]? = some (.base i) → (k + j, []) ∈ wsL i.val k r
  | A :: r, k, 0, h => by
    have : A = .base i := by simpa using h
    subst this
    simp [wsL, ways]
  | A :: r, k, j + 1, h => by
    have := wsL_base r (k + 1) j (by simpa using h)
    simp only [wsL, List.mem_append]
    right
    have e : k + (j + 1) = k + 1 + j := by omega
    rw [e]; exact this
section
variable {m w : Nat}
theorem flat_ways {i q : Nat} {f : Int} {Γ : List Kd} {x0 x1 : D} {x6 x7 x8 x9 : Option D} {S : Store} (hm : q + 1 ≤ m) (hz : ∀ A ∈ Γ, A.dep ≤ q) (hq : q ≤ 8) (hl : Γ.length ≤ 5000) (h1 : gIx x1 (.int 1) S = .ok (.int (i : Int)) S) : ∀ (r pre : List Kd) (acc : List (Nat × List Sp)) (x5 : Option D), Γ = pre ++ r → acc.length + (wsL i pre.length r).length ≤ 10000000 →
    ∃ y5, forL (gN 5) (l__law_flat_0 (ev m)) none (rngD (pre.length : Int) r.length) [some x0, some x1, some (.lst (Γ.map Kd.d)), some (.int f), some (.lst (acc.map prD)), x5, x6, x7, x8, x9] S = .nx [some x0, some x1, some (.lst (Γ.map Kd.d)), some (.int f), some (.lst ((acc ++ wsL i pre.length r).map prD)), y5, x6, x7, x8, x9] S
  | [], pre, acc, x5, e, hb => ⟨x5, by simp [rngD, wsL]⟩
  | A :: r, pre, acc, x5, e, hb => by
    have h8 : sizeLine = 16777216 := rfl
    have hA : A ∈ Γ := by rw [e]; simp
    have dA := hz A hA
    have zA := sz_le8 dA hq
    have eat : Γ[pre.length]? = some A := by rw [e]; simp
    have ew := lways_sp (i := i) A (n := m) (S := S) (by omega) (by omega)
    have lw := ways_len i A
    simp only [wsL, List.length_append, List.length_map] at hb
    have hc := compL_ls (tg := gN 6) (tt := fYes) (te := fArg mkTup (fCons (fVar 5) (fCons (fVar 6) fNil))) (ρ := [some x0, some x1, some (.lst (Γ.map Kd.d)), some (.int f), some (.lst (acc.map prD)), some (.int (pre.length : Int)), none, x7, x8, x9]) (S := S) wayD (fun p => prD (pre.length, p)) (ways i A) [] (fun p hp => ⟨[some x0, some x1, some (.lst (Γ.map Kd.d)), some (.int f), some (.lst (acc.map prD)), some (.int (pre.length : Int)), some (wayD p), x7, x8, x9], by simp, rfl, by simp [prD, h8]⟩) (by simp; omega)
    have gi : gIx (.lst (Γ.map Kd.d)) (.int (pre.length : Int)) S = .ok A.d S := by simp [eat]
    have step : l__law_flat_0 (ev m) [some x0, some x1, some (.lst (Γ.map Kd.d)), some (.int f), some (.lst (acc.map prD)), some (.int (pre.length : Int)), x6, x7, x8, x9] S = .nx [some x0, some x1, some (.lst (Γ.map Kd.d)), some (.int f), some (.lst ((acc ++ (ways i A).map fun p => (pre.length, p)).map prD)), some (.int (pre.length : Int)), x6, x7, x8, x9] S := by
      unfold l__law_flat_0
      have ll : (acc.map prD).length + ((ways i A).map fun p => prD (pre.length, p)).length ≤ 16777216 := by simp; omega
      have em : (acc ++ (ways i A).map fun p => (pre.length, p)).map prD = acc.map prD ++ (ways i A).map fun p => prD (pre.length, p) := by simp [Function.comp_def]
      rw [em]
      generalize acc.map prD = P at *
      generalize ((ways i A).map fun p => prD (pre.length, p)) = Q at *
      generalize (pre.length : Int) = Z at *
      generalize D.lst (Γ.map Kd.d) = G at *
      simp only [List.nil_append] at hc
      simp [h1, gi, ew, wipeR, hc, h8, ll]
    obtain ⟨y5, ih⟩ := flat_ways hm hz hq hl h1 r (pre ++ [A]) (acc ++ (ways i A).map fun p => (pre.length, p)) (some (.int (pre.length : Int))) (by rw [e]; simp) (by simp; omega)
    refine ⟨y5, ?_⟩
    have er : rngD (pre.length : Int) (A :: r).length = .int (pre.length : Int) :: rngD ((pre.length : Int) + 1) r.length := rfl
    have el : ((pre ++ [A]).length : Int) = (pre.length : Int) + 1 := by simp
    rw [el] at ih
    have ela : (pre ++ [A]).length = pre.length + 1 := by simp
    rw [ela, List.append_assoc] at ih
    rw [er, forL_cons]
    show _ = RS.nx [some x0, some x1, some (.lst (Γ.map Kd.d)), some (.int f), some (.lst ((acc ++ wsL i pre.length (A :: r)).map prD)), y5, x6, x7, x8, x9] S
    simp only [wsL]
    rw [← ih]
    simp [step]
/-- a term is told for things of depth p and less, as deep as b -/
def TeldA (m w q : Nat) (Γ : List Kd) (f : Int) (p b : Nat) : Prop := ∀ (A : Kd) (S : Store), A.dep ≤ p → Well S w → ∃ t S', ev m .f__law_flat [.loc w, A.d, .lst (Γ.map Kd.d), .int f] S = .ok t.d S' ∧ Nf Γ A t ∧ kdsT q t ∧ t.ht ≤ b ∧ WS S w S'
theorem flat_follow {q : Nat} {i : Fin 8} {f : Int} {Γ : List Kd} {p b : Nat} {x1 : D} {x4 x5 x6 : Option D} : ∀ (K : Kd) (P : List Sp) (t : Tm) (h : Nat) (S : Store) (x8 : Option D), P ∈ ways i.val K → (P ≠ [] → TeldA m w q Γ (f - 1) p b) → K.dep ≤ p + 1 → Ne Γ K t → kdsT q t → t.ht ≤ max h b + h → Well S w → ∃ t' y8 S', forL (gN 8) (l__law_flat_1 (ev m)) none (P.map Sp.d) [some (.loc w), some x1, some (.lst (Γ.map Kd.d)), some (.int f), x4, x5, x6, some t.d, x8, none] S = .nx [some (.loc w), some x1, some (.lst (Γ.map Kd.d)), some (.int f), x4, x5, x6, some t'.d, y8, none] S' ∧ Ne Γ (.base i) t' ∧ kdsT q t' ∧ t'.ht ≤ max (h + P.length) b + (h + P.length) ∧ WS S w S'
  | .base j, P, t, h, S, x8, hP, hr, hd, ht, hk, hh, hw => by
    unfold ways at hP
    split at hP
    · rename_i e
      have : P = [] := by simpa using hP
      subst this
      have : j = i := Fin.ext e
      subst this
      exact ⟨t, x8, S, by simp, ht, hk, by simpa using hh, WS.refl hw⟩
    · cases hP
  | .unit, P, t, h, S, x8, hP, hr, hd, ht, hk, hh, hw => by simp [ways] at hP
  | .frm A B, P, t, h, S, x8, hP, hr, hd, ht, hk, hh, hw => by
    have h8 : sizeLine = 16777216 := rfl
    simp only [ways, List.mem_map] at hP
    obtain ⟨Q, hQ, rfl⟩ := hP
    simp only [Kd.dep] at hd
    obtain ⟨a, S1, ea, na, ka, ha, wa⟩ := hr (by simp) A S (by omega) hw
    obtain ⟨t', y8, S2, e2, n2, k2, h2, w2⟩ := flat_follow (p := p) (x1 := x1) (x4 := x4) (x5 := x5) (x6 := x6) B Q (.app t a) (h + 1) S1 (some A.d) hQ (fun hne => hr (by simp)) (by omega) (.app ht na) ⟨hk, ka⟩ (by simp only [Tm.ht]; omega) wa.well
    refine ⟨t', y8, S2, ?_, n2, k2, by simp only [List.length_cons] at h2 ⊢; omega, wa.trans w2⟩
    have is_ : isiR "str" A.d S = .ok (.bl false) S := by
      obtain ⟨ds, hds⟩ := Kd.d_tup A
      rw [hds]; rfl
    simp only [List.map_cons, Sp.d]
    rw [forL_cons]
    have step : l__law_flat_1 (ev m) [some (.loc w), some x1, some (.lst (Γ.map Kd.d)), some (.int f), x4, x5, x6, some t.d, some A.d, none] S = .nx [some (.loc w), some x1, some (.lst (Γ.map Kd.d)), some (.int f), x4, x5, x6, some (Tm.app t a).d, some A.d, none] S1 := by
      unfold l__law_flat_1
      simp [is_, ea, h8, Tm.d]
    simp [step, e2]
  | .both A B, P, t, h, S, x8, hP, hr, hd, ht, hk, hh, hw => by
    have h8 : sizeLine = 16777216 := rfl
    simp only [ways, List.mem_append, List.mem_map] at hP
    simp only [Kd.dep] at hd
    rcases hP with ⟨Q, hQ, rfl⟩ | ⟨Q, hQ, rfl⟩
    · obtain ⟨t', y8, S2, e2, n2, k2, h2, w2⟩ := flat_follow (p := p) (x1 := x1) (x4 := x4) (x5 := x5) (x6 := x6) A Q (.fst t) (h + 1) S (some (.str "first")) hQ (fun hne => hr (by simp)) (by omega) (.fst ht) hk (by simp only [Tm.ht]; omega) hw
      refine ⟨t', y8, S2, ?_, n2, k2, by simp only [List.length_cons] at h2 ⊢; omega, w2⟩
      simp only [List.map_cons, Sp.d]
      rw [forL_cons]
      have step : l__law_flat_1 (ev m) [some (.loc w), some x1, some (.lst (Γ.map Kd.d)), some (.int f), x4, x5, x6, some t.d, some (.str "first"), none] S = .nx [some (.loc w), some x1, some (.lst (Γ.map Kd.d)), some (.int f), x4, x5, x6, some (Tm.fst t).d, some (.str "first"), none] S := by
        unfold l__law_flat_1
        simp [h8, Tm.d]
      simp [step, e2]
    · obtain ⟨t', y8, S2, e2, n2, k2, h2, w2⟩ := flat_follow (p := p) (x1 := x1) (x4 := x4) (x5 := x5) (x6 := x6) B Q (.snd t) (h + 1) S (some (.str "second")) hQ (fun hne => hr (by simp)) (by omega) (.snd ht) hk (by simp only [Tm.ht]; omega) hw
      refine ⟨t', y8, S2, ?_, n2, k2, by simp only [List.length_cons] at h2 ⊢; omega, w2⟩
      simp only [List.map_cons, Sp.d]
      rw [forL_cons]
      have step : l__law_flat_1 (ev m) [some (.loc w), some x1, some (.lst (Γ.map Kd.d)), some (.int f), x4, x5, x6, some t.d, some (.str "second"), none] S = .nx [some (.loc w), some x1, some (.lst (Γ.map Kd.d)), some (.int f), x4, x5, x6, some (Tm.snd t).d, some (.str "second"), none] S := by
        unfold l__law_flat_1
        simp [h8, Tm.d]
      simp [step, e2]
theorem itR_k {z : Int} {S : Store} (h0 : 0 ≤ z) (h1 : z ≤ 1000000) : itR [.int z] S = .ok (rngD 0 z.toNat, none) S := by
  show (if -(2 ^ 62) ≤ z ∧ z < 2 ^ 62 then RE.ok (rngD 0 z.toNat, none) S else .no) = _
  rw [if_pos ⟨by omega, by omega⟩]
theorem wsL_pos {i : Fin 8} {q : Nat} {Γ : List Kd} (h : Gk q Γ) : ∃ k : Nat, (k, []) ∈ wsL i.val 0 Γ := by
  obtain ⟨k, hk⟩ := h.base i
  have := wsL_base Γ 0 k hk
  exact ⟨k, by simpa using this⟩
theorem draw_nat {n w V : Nat} {S : Store} (hn : 1 ≤ n) (hw : Well S w) (h0 : 0 < V) (h1 : V ≤ 5000000) : ∃ (r : Nat) (S' : Store), r < V ∧ ev n .f__law_draw [.loc w, .int (V : Int)] S = .ok (.int (r : Int)) S' ∧ WS S w S' := by
  obtain ⟨Z, hZ⟩ : ∃ Z : Int, Z = (V : Int) := ⟨_, rfl⟩
  have z0 : 0 < Z := by omega
  have z1 : Z < 1000000000 := by omega
  obtain ⟨r, S', e, r0, r1, w1⟩ := draw_sp (n := n) (S := S) (w := w) (m := Z) hn hw z0 z1
  rw [hZ] at e r1
  refine ⟨r.toNat, S', by omega, ?_, w1⟩
  rw [e]
  have : ((r.toNat : Nat) : Int) = r := by omega
  rw [this]
/-- without fuel: the ways that are none -/
theorem flat_fil {w : Nat} {i : Fin 8} {f : Nat} {Γ : List Kd} {S : Store} {W : List (Nat × List Sp)} {y5 : Option D} (hlw : (wsL i.val 0 Γ).length ≤ 3000000) (hW : (if f = 0 then (wsL i.val 0 Γ).filter (fun x => x.2.isEmpty) else wsL i.val 0 Γ) = W) :
    sIf (fB (f2 (gCmp fun i j => decide (i ≤ j)) (fVar 3) (fC (.int 0)))) (sSet 4 (fLc false (fiL (fVar 4)) (gN 9) (fB (f2 gEq (f2 gIx (fVar 9) (fC (.int 1))) (fArg mkLst fNil))) (fVar 9) [9])) sNil [some (.loc w), some (Kd.base i).d, some (.lst (Γ.map Kd.d)), some (.int (f : Int)), some (.lst ((wsL i.val 0 Γ).map prD)), y5, none, none, none, none] S = .nx [some (.loc w), some (Kd.base i).d, some (.lst (Γ.map Kd.d)), some (.int (f : Int)), some (.lst (W.map prD)), y5, none, none, none, none] S := by
  have h8 : sizeLine = 16777216 := rfl
  by_cases h0 : f = 0
  · subst h0
    rw [if_pos rfl] at hW
    rw [show ((0 : Nat) : Int) = 0 from rfl] at *
    have hc := compL_fil (tg := gN 9) (tt := fB (f2 gEq (f2 gIx (fVar 9) (fC (.int 1))) (fArg mkLst fNil))) (te := fVar 9) (ρ := [some (.loc w), some (Kd.base i).d, some (.lst (Γ.map Kd.d)), some (.int 0), some (.lst ((wsL i.val 0 Γ).map prD)), y5, none, none, none, none]) (S := S) (fun d => match d with | .tup [_, .lst []] => true | _ => false) id ((wsL i.val 0 Γ).map prD) [] (fun d hd => by
      obtain ⟨x, hx, rfl⟩ := List.mem_map.mp hd
      refine ⟨[some (.loc w), some (Kd.base i).d, some (.lst (Γ.map Kd.d)), some (.int 0), some (.lst ((wsL i.val 0 Γ).map prD)), y5, none, none, none, some (prD x)], by simp, ?_, fun _ => by simp⟩
      cases hp : x.2 <;> simp [prD, wayD, hp]) (by simp; omega)
    have em : (((wsL i.val 0 Γ).map prD).filter (fun d => match d with | .tup [_, .lst []] => true | _ => false)).map id = W.map prD := by
      rw [← hW, List.map_id, List.filter_map]
      congr 1
      apply List.filter_congr
      intro x hx
      simp only [Function.comp_apply, prD, wayD]
      cases x.2 <;> rfl
    rw [em, List.nil_append] at hc
    simp [wipeR, hc]
  · rw [if_neg h0] at hW
    have : ¬ (f : Int) ≤ 0 := by omega
    subst hW
    simp [this, h0]
/-- one of the ways is drawn, and gone -/
theorem flat_base {n q b : Nat} {i : Fin 8} {f : Nat} {Γ : List Kd} {S : Store} (hg : Gk q Γ) (hq : q ≤ 8) (hl : Γ.length ≤ 5000) (hn : q + 3 ≤ n + 1) (hr : 0 < f → TeldA n w q Γ ((f : Int) - 1) (q - 1) b) (hb : f = 0 → b = 0) (hw : Well S w) :
    ∃ t S', ev (n + 1) .f__law_flat [.loc w, (Kd.base i).d, .lst (Γ.map Kd.d), .int (f : Int)] S = .ok t.d S' ∧ Nf Γ (.base i) t ∧ kdsT q t ∧ t.ht ≤ (if f = 0 then 0 else max q b + q) ∧ WS S w S' := by
  have h8 : sizeLine = 16777216 := rfl
  have hz : ∀ A ∈ Γ, A.sz ≤ 512 := fun A hA => sz_le8 (hg.dep A hA) hq
  have hlw := wsL_len (i := i.val) Γ 0 hz
  obtain ⟨y5, e1⟩ : ∃ y5, forL (gN 5) (l__law_flat_0 (ev n)) none (rngD 0 Γ.length) [some (.loc w), some (Kd.base i).d, some (.lst (Γ.map Kd.d)), some (.int (f : Int)), some (.lst []), none, none, none, none, none] S = .nx [some (.loc w), some (Kd.base i).d, some (.lst (Γ.map Kd.d)), some (.int (f : Int)), some (.lst ((wsL i.val 0 Γ).map prD)), y5, none, none, none, none] S := by
    obtain ⟨y5, e1⟩ := flat_ways (m := n) (i := i.val) (q := q) (f := (f : Int)) (Γ := Γ) (x0 := .loc w) (x1 := (Kd.base i).d) (x6 := none) (x7 := none) (x8 := none) (x9 := none) (S := S) (by omega) hg.dep hq hl (by simp [Kd.d]) Γ [] [] none rfl (by simp; omega)
    exact ⟨y5, e1⟩
  obtain ⟨k0, hk0⟩ := wsL_pos (i := i) hg
  -- what is left of the ways
  obtain ⟨W, hW, hsub, hne, hnil⟩ : ∃ W : List (Nat × List Sp), (if f = 0 then (wsL i.val 0 Γ).filter (fun x => x.2.isEmpty) else wsL i.val 0 Γ) = W ∧ (∀ x ∈ W, x ∈ wsL i.val 0 Γ) ∧ W ≠ [] ∧ (f = 0 → ∀ x ∈ W, x.2 = []) := by
    refine ⟨_, rfl, fun x hx => ?_, fun h => ?_, fun h0 x hx => ?_⟩
    · split at hx
      · exact (List.mem_filter.mp hx).1
      · exact hx
    · split at h
      · have : (k0, ([] : List Sp)) ∈ (wsL i.val 0 Γ).filter (fun x => x.2.isEmpty) := List.mem_filter.mpr ⟨hk0, rfl⟩
        rw [h] at this; cases this
      · rw [h] at hk0; cases hk0
    · rw [if_pos h0] at hx
      have := (List.mem_filter.mp hx).2
      simpa using this
  have lW : W.length ≤ (wsL i.val 0 Γ).length := by
    rw [← hW]
    split
    · exact List.length_filter_le _ _
    · exact Nat.le_refl _
  have e2 := flat_fil (w := w) (S := S) (y5 := y5) (by omega) hW
  have lW0 : 0 < W.length := List.length_pos_iff.mpr hne
  obtain ⟨r', S1, hr', e3, w1⟩ := draw_nat (n := n) (S := S) (w := w) (V := W.length) (by omega) hw lW0 (by omega)
  obtain ⟨A, hA1, hA2, hA3⟩ := wsL_mem Γ 0 (hsub _ (List.getElem_mem hr'))
  simp only [Nat.sub_zero] at hA2
  have dA : A.dep ≤ q := hg.dep A (List.mem_of_getElem? hA2)
  obtain ⟨t', y8, S2, e4, n4, k4, h4, w4⟩ := flat_follow (m := n) (w := w) (q := q) (i := i) (f := (f : Int)) (Γ := Γ) (p := q - 1) (b := b) (x1 := (Kd.base i).d) (x4 := some (.lst (W.map prD))) (x5 := some (.int ((W[r']).1 : Int))) (x6 := some (wayD (W[r']).2)) A (W[r']).2 (.giv (W[r']).1) 0 S1 none hA3 (fun hne' => hr (by
    rcases Nat.eq_zero_or_pos f with h0 | h0
    · exact absurd (hnil h0 _ (List.getElem_mem hr')) hne'
    · exact h0)) (by omega) (.giv hA2) trivial (by simp [Tm.ht]) w1.well
  have lP : (W[r']).2.length ≤ q := Nat.le_trans (ways_dep i.val A _ hA3) dA
  refine ⟨t', S2, ?_, .base n4, k4, ?_, w1.trans w4⟩
  · rw [ev, b__law_flat]
    have gi : gIx (.lst (W.map prD)) (.int (r' : Int)) S1 = .ok (.tup [.int ((W[r']).1 : Int), wayD (W[r']).2]) S1 := by simp [hr', prD]
    have gl : gLen [.lst (Γ.map Kd.d)] S = .ok (.int (Γ.length : Int)) S := by simp
    have gl2 : gLen [.lst (W.map prD)] S = .ok (.int (W.length : Int)) S := by simp
    have itl : itR [.int (Γ.length : Int)] S = .ok (rngD 0 Γ.length, none) S := by
      rw [itR_k (by omega) (by omega), Int.toNat_natCast]
    simp only [Kd.d] at e1 e2 e4
    generalize sIf (fB (f2 (gCmp fun i j => decide (i ≤ j)) (fVar 3) (fC (.int 0)))) (sSet 4 (fLc false (fiL (fVar 4)) (gN 9) (fB (f2 gEq (f2 gIx (fVar 9) (fC (.int 1))) (fArg mkLst fNil))) (fVar 9) [9])) sNil = st at e2 ⊢
    simp only [Tm.d] at e4
    have tg2 : ∀ (ρ : FEnv) (S : Store), gTu 2 (gsCons (gN 5) (gsCons (gN 6) gsNil)) (.tup [.int ((W[r']).1 : Int), wayD (W[r']).2]) ρ S = some ((ρ.set 5 (some (.int ((W[r']).1 : Int)))).set 6 (some (wayD (W[r']).2)), S) := by intro ρ S; simp
    have itw : ∀ S, itL (wayD (W[r']).2) S = .ok ((W[r']).2.map Sp.d, none) S := fun S => rfl
    generalize wayD (W[r']).2 = Y at *
    generalize ((W[r']).1 : Int) = X at *
    generalize hGd : D.lst (Γ.map Kd.d) = Gd at *
    generalize hWd : D.lst (W.map prD) = Wd at *
    generalize D.lst ((wsL i.val 0 Γ).map prD) = Vd at *
    have eF : sFor (fiR1 (fCons (fArg gLen (fCons (fVar 2) fNil)) fNil)) (gN 5) (l__law_flat_0 (ev n)) [some (.loc w), some (.tup [.str "base", .int ((i.val : Nat) : Int)]), some Gd, some (.int (f : Int)), some (.lst []), none, none, none, none, none] S = .nx [some (.loc w), some (.tup [.str "base", .int ((i.val : Nat) : Int)]), some Gd, some (.int (f : Int)), some Vd, y5, none, none, none, none] S := by
      rw [sFor_ap, fiR1_ap]
      have a1 : fCons (fArg gLen (fCons (fVar 2) fNil)) fNil [some (.loc w), some (.tup [.str "base", .int ((i.val : Nat) : Int)]), some Gd, some (.int (f : Int)), some (.lst []), none, none, none, none, none] S = .ok [.int (Γ.length : Int)] S := by simp [gl, -gLen_lst]
      rw [a1, bnd_ok, itl]
      exact e1
    have eA : sAsg (f2 gIx (fVar 4) (fArg (ev n .f__law_draw) (fCons (fVar 0) (fCons (fArg gLen (fCons (fVar 4) fNil)) fNil)))) (gTu 2 (gsCons (gN 5) (gsCons (gN 6) gsNil))) [some (.loc w), some (.tup [.str "base", .int ((i.val : Nat) : Int)]), some Gd, some (.int (f : Int)), some Wd, y5, none, none, none, none] S = .nx [some (.loc w), some (.tup [.str "base", .int ((i.val : Nat) : Int)]), some Gd, some (.int (f : Int)), some Wd, some (.int X), some Y, none, none, none] S1 := by
      simp [gl2, e3, gi, -gLen_lst]
    have eG : sSet 7 (fArg mkTup (fCons (fC (.str "given")) (fCons (fVar 5) fNil))) [some (.loc w), some (.tup [.str "base", .int ((i.val : Nat) : Int)]), some Gd, some (.int (f : Int)), some Wd, some (.int X), some Y, none, none, none] S1 = .nx [some (.loc w), some (.tup [.str "base", .int ((i.val : Nat) : Int)]), some Gd, some (.int (f : Int)), some Wd, some (.int X), some Y, some (.tup [.str "given", .int X]), none, none] S1 := by
      simp [h8]
    have eH : sFor (fiL (fVar 6)) (gN 8) (l__law_flat_1 (ev n)) [some (.loc w), some (.tup [.str "base", .int ((i.val : Nat) : Int)]), some Gd, some (.int (f : Int)), some Wd, some (.int X), some Y, some (.tup [.str "given", .int X]), none, none] S1 = .nx [some (.loc w), some (.tup [.str "base", .int ((i.val : Nat) : Int)]), some Gd, some (.int (f : Int)), some Wd, some (.int X), some Y, some t'.d, y8, none] S2 := by
      simp [itw, e4]
    generalize sFor (fiR1 (fCons (fArg gLen (fCons (fVar 2) fNil)) fNil)) (gN 5) (l__law_flat_0 (ev n)) = sF at *
    generalize sAsg (f2 gIx (fVar 4) (fArg (ev n .f__law_draw) (fCons (fVar 0) (fCons (fArg gLen (fCons (fVar 4) fNil)) fNil)))) (gTu 2 (gsCons (gN 5) (gsCons (gN 6) gsNil))) = sA at *
    generalize sSet 7 (fArg mkTup (fCons (fC (.str "given")) (fCons (fVar 5) fNil))) = sG at *
    generalize sFor (fiL (fVar 6)) (gN 8) (l__law_flat_1 (ev n)) = sH at *
    have eB : sSet 4 (fArg mkLst fNil) [some (.loc w), some (.tup [.str "base", .int ((i.val : Nat) : Int)]), some Gd, some (.int (f : Int)), none, none, none, none, none, none] S = .nx [some (.loc w), some (.tup [.str "base", .int ((i.val : Nat) : Int)]), some Gd, some (.int (f : Int)), some (.lst []), none, none, none, none, none] S := by
      simp [h8]
    have hno : ∀ (tc : FT) (f' g : FS) (ρ : FEnv), tc ρ S = .ok false S → sIf tc f' g ρ S = g ρ S := fun tc f' g ρ h => by rw [sIf_ap, h]; rfl
    simp only [Kd.d]
    generalize ((i.val : Nat) : Int) = I at *
    generalize (f : Int) = Fi at *
    rw [fnB_4]
    show RS.fin (sSeq _ _ [some (.loc w), some (.tup [.str "base", .int I]), some Gd, some (.int Fi), none, none, none, none, none, none] S) = _
    rw [sSeq_ap, hno _ _ _ _ (by simp), sNil_ap, sb_nx, sSeq_ap, hno _ _ _ _ (by simp), sNil_ap, sb_nx, sSeq_ap, hno _ _ _ _ (by simp), sNil_ap, sb_nx, sSeq_ap, eB, sb_nx, sSeq_ap, eF, sb_nx, sSeq_ap, e2, sb_nx, sSeq_ap, eA, sb_nx, sSeq_ap, eG, sb_nx, sSeq_ap, eH, sb_nx]
    simp
  · by_cases h0 : f = 0
    · rw [if_pos h0]
      have : (W[r']).2 = [] := hnil h0 _ (List.getElem_mem hr')
      rw [this, hb h0] at h4
      simpa using h4
    · rw [if_neg h0]; omega
/-- plain terms of any kind -/
theorem flat_sp : ∀ (f : Nat) (K : Kd) {n q : Nat} {Γ : List Kd} {S : Store}, Gk q Γ → q ≤ 8 → K.dep ≤ q → Γ.length + K.dep + f * q ≤ 5000 → K.dep + f * (q + 1) + q + 3 ≤ n → Well S w → ∃ t S', ev n .f__law_flat [.loc w, K.d, .lst (Γ.map Kd.d), .int (f : Int)] S = .ok t.d S' ∧ Nf Γ K t ∧ kdsT q t ∧ t.ht ≤ K.dep + f * (2 * q) ∧ WS S w S'
  | f, .unit, n, q, Γ, S, hg, hq, hd, hl, hn, hw => by
    have h8 : sizeLine = 16777216 := rfl
    obtain ⟨m, rfl, h'⟩ := up (d := 0) (by omega : 0 + 1 ≤ n)
    refine ⟨.unit, S, ?_, .unit, trivial, by simp [Tm.ht], WS.refl hw⟩
    rw [ev, b__law_flat]
    simp [Kd.d, Tm.d, h8]
  | f, .both A B, n, q, Γ, S, hg, hq, hd, hl, hn, hw => by
    have h8 : sizeLine = 16777216 := rfl
    simp only [Kd.dep] at hd hl hn
    obtain ⟨m, rfl, h'⟩ := up (show (max A.dep B.dep + f * (q + 1) + q + 3) + 1 ≤ n by omega)
    obtain ⟨a, S1, ea, na, ka, ha, wa⟩ := flat_sp f A (n := m) (q := q) (Γ := Γ) (S := S) hg hq (by omega) (by omega) (by omega) hw
    obtain ⟨b, S2, eb, nb, kb, hb, wb⟩ := flat_sp f B (n := m) (q := q) (Γ := Γ) (S := S1) hg hq (by omega) (by omega) (by omega) wa.well
    refine ⟨.both a b, S2, ?_, .both na nb, ⟨ka, kb⟩, by simp only [Tm.ht, Kd.dep]; omega, wa.trans wb⟩
    rw [ev, b__law_flat]
    generalize (f : Int) = F at *
    generalize D.lst (Γ.map Kd.d) = G at *
    simp [Kd.d, Tm.d, h8, ea, eb]
  | f, .frm A B, n, q, Γ, S, hg, hq, hd, hl, hn, hw => by
    have h8 : sizeLine = 16777216 := rfl
    simp only [Kd.dep] at hd hl hn
    obtain ⟨m, rfl, h'⟩ := up (show (max A.dep B.dep + f * (q + 1) + q + 3) + 1 ≤ n by omega)
    obtain ⟨b, S1, eb, nb, kb, hb, wb⟩ := flat_sp f B (n := m) (q := q) (Γ := Γ ++ [A]) (S := S) (hg.snoc (by omega)) hq (by omega) (by simp; omega) (by omega) hw
    have sA := sz_le8 (K := A) (q := q) (by omega) hq
    refine ⟨.mk A b, S1, ?_, .mk nb, ⟨⟨by omega, by omega⟩, kb⟩, by simp only [Tm.ht, Kd.dep]; omega, wb⟩
    have ll : (Γ.map Kd.d).length + 1 ≤ 16777216 := by simp; omega
    simp only [List.map_append, List.map_cons, List.map_nil] at eb
    rw [ev, b__law_flat]
    generalize (f : Int) = F at *
    generalize Γ.map Kd.d = G at *
    simp [Kd.d, Tm.d, h8, eb, ll]
  | f, .base i, n, q, Γ, S, hg, hq, hd, hl, hn, hw => by
    obtain ⟨m, rfl, h'⟩ := up (show (f * (q + 1) + q + 2) + 1 ≤ n by omega)
    have hr : 0 < f → TeldA m w q Γ ((f : Int) - 1) (q - 1) (q - 1 + (f - 1) * (2 * q)) := fun h0 A S hA hw => by
      obtain ⟨f', rfl⟩ : ∃ f', f = f' + 1 := ⟨f - 1, by omega⟩
      have ef : ((f' + 1 : Nat) : Int) - 1 = (f' : Int) := by omega
      have e1 : (f' + 1) * (q + 1) = f' * (q + 1) + q + 1 := by rw [Nat.add_mul]; omega
      have e2 : (f' + 1) * q = f' * q + q := by rw [Nat.add_mul]; omega
      obtain ⟨a, S1, ea, na, ka, ha, wa⟩ := flat_sp f' A (n := m) (q := q) (Γ := Γ) (S := S) hg hq (by omega) (by omega) (by omega) hw
      rw [ef]
      exact ⟨a, S1, ea, na, ka, by simp only [Nat.add_sub_cancel]; omega, wa⟩
    obtain ⟨t, S1, et, nt, kt, ht, wt⟩ := flat_base (n := m) (q := q) (b := if f = 0 then 0 else q - 1 + (f - 1) * (2 * q)) (i := i) (f := f) (Γ := Γ) (S := S) hg hq (by omega) (by omega) (fun h0 => by rw [if_neg (by omega)]; exact hr h0) (fun h0 => by rw [if_pos h0]) hw
    refine ⟨t, S1, et, nt, kt, ?_, wt⟩
    simp only [Kd.dep]
    by_cases h0 : f = 0
    · rw [if_pos h0] at ht; omega
    · rw [if_neg h0, if_neg h0] at ht
      obtain ⟨f', rfl⟩ : ∃ f', f = f' + 1 := ⟨f - 1, by omega⟩
      have e1 : (f' + 1) * (2 * q) = f' * (2 * q) + 2 * q := by rw [Nat.add_mul]; omega
      simp only [Nat.add_sub_cancel] at ht
      omega
termination_by f K => (f, K.sz)
decreasing_by all_goals simp_wf; simp only [Kd.sz]; first | omega | (left; omega) | (right; omega)
end
end Kz

namespace Kz
open PySem PySem.Spec PyProof.Rows L2 Kw
/-! wrapped terms -/
/-- a thing that means what t means -/
inductive Wr (Γ : List Kd) (K : Kd) (t : Tm) : Tm → Prop
  | fst {C : Kd} {f : Tm} : Nf Γ C f → Wr Γ K t (.fst (.both t f))
  | snd {C : Kd} {f : Tm} : Nf Γ C f → Wr Γ K t (.snd (.both f t))
  | app {C : Kd} {f : Tm} : Nf Γ C f → Wr Γ K t (.app (.mk C (t.ups Γ.length)) f)
  | idn : Wr Γ K t (.app (.mk K (.giv Γ.length)) t)
  | same : Wr Γ K t t
theorem Wr.kd {Γ : List Kd} {K : Kd} {t s : Tm} (h : tkd Γ t = some K) (w : Wr Γ K t s) : tkd Γ s = some K := by
  cases w with
  | fst f => simp [tkd, h, f.kd]
  | snd f => simp [tkd, h, f.kd]
  | app f =>
    rename_i C f'
    have := tkd_ups Γ C t []
    rw [List.append_nil, h] at this
    simp [tkd, this, f.kd]
  | idn => simp [tkd, h]
  | same => exact h
theorem lwrap_sp {t : Tm} {K : Kd} {n q : Nat} {Γ : List Kd} {S : Store} {w : Nat} (hk : tkd Γ t = some K) (hg : Gk q Γ) (hq : q ≤ 8) (hq1 : 1 ≤ q) (hl : Γ.length + t.ht + 1 + q ≤ 5000) (hn : max t.ht (2 * q + 4) + 2 ≤ n) (hw : Well S w) :
    ∃ s S', ev n .f__law_wrapped [.loc w, t.d, .lst (Γ.map Kd.d)] S = .ok s.d S' ∧ Wr Γ K t s ∧ (∀ p, kdsT p t → q ≤ p → K.dep ≤ p → K.sz ≤ 2000000 → kdsT p s) ∧ s.ht ≤ max t.ht (2 * q + 1) + 2 ∧ WS S w S' := by
  have h8 : sizeLine = 16777216 := rfl
  obtain ⟨m, rfl, h'⟩ := up (show (max t.ht (2 * q + 4) + 1) + 1 ≤ n by omega)
  obtain ⟨r, S1, e1, r0, r1, w1⟩ := draw_sp (n := m) (S := S) (w := w) (m := 12) (by omega) hw (by omega) (by omega)
  have ek := lkof_ok t (n := m) (S := S1) hk (by omega) (by omega)
  obtain ⟨C, S2, eC, dC, zC, wC⟩ := lkind_sp 1 (n := m) (S := S1) (w := w) (by omega) w1.well
  have eC' : ev m .f__law_kind [.loc w, .int 1] S1 = .ok C.d S2 := eC
  obtain ⟨f, S3, ef, nf, kf, hf, wf⟩ := flat_sp 1 C (n := m) (q := q) (Γ := Γ) (S := S2) (w := w) hg hq (by omega) (by omega) (by omega) wC.well
  have ef' : ev m .f__law_flat [.loc w, C.d, .lst (Γ.map Kd.d), .int 1] S2 = .ok f.d S3 := ef
  have el := llift_ok (q := Γ.length) t (n := m) (S := S2) (by omega)
  have gl : gLen [.lst (Γ.map Kd.d)] S2 = .ok (.int (Γ.length : Int)) S2 := by simp
  have kds : ∀ {p : Nat} {u : Tm}, q ≤ p → kdsT q u → kdsT p u := fun {p u} hp => by
    intro h
    induction u with
    | giv => trivial
    | unit => trivial
    | mk A b ih => exact ⟨⟨by have := h.1.1; omega, h.1.2⟩, ih h.2⟩
    | app a b ia ib => exact ⟨ia h.1, ib h.2⟩
    | both a b ia ib => exact ⟨ia h.1, ib h.2⟩
    | fst a ia => exact ia h
    | snd a ia => exact ia h
  have zC' := sz_le8 (K := C) (q := q) (by omega) hq
  rw [ev, b__law_wrapped]
  generalize D.lst (Γ.map Kd.d) = G at *
  generalize hL : (Γ.length : Int) = L at *
  by_cases h0 : r = 0
  · subst h0
    exact ⟨.fst (.both t f), S3, by simp [e1, ek, eC', ef', Tm.d, h8], .fst nf, fun p a b c d => ⟨a, kds b kf⟩, by simp only [Tm.ht]; omega, (w1.trans wC).trans wf⟩
  by_cases h1 : r = 1
  · subst h1
    exact ⟨.snd (.both f t), S3, by simp [e1, ek, eC', ef', Tm.d, h8], .snd nf, fun p a b c d => ⟨kds b kf, a⟩, by simp only [Tm.ht]; omega, (w1.trans wC).trans wf⟩
  by_cases h2 : r = 2
  · subst h2
    exact ⟨.app (.mk C (t.ups Γ.length)) f, S3, by simp [e1, ek, eC', ef', gl, el, Tm.d, h8], .app nf, fun p a b c d => ⟨⟨⟨by omega, by omega⟩, kdsT_ups a⟩, kds b kf⟩, by simp only [Tm.ht, ht_ups]; omega, (w1.trans wC).trans wf⟩
  by_cases h3 : r = 3
  · subst h3
    exact ⟨.app (.mk K (.giv Γ.length)) t, S2, by simp [e1, ek, eC', gl, Tm.d, h8, hL], .idn, fun p a b c d => ⟨⟨⟨c, d⟩, trivial⟩, a⟩, by simp only [Tm.ht]; omega, w1.trans wC⟩
  · exact ⟨t, S2, by simp [e1, ek, eC', h0, h1, h2, h3], .same, fun p a b c d => a, by omega, w1.trans wC⟩
/-- grown: every part is wrapped -/
inductive Gw : List Kd → Tm → Tm → Prop
  | giv {Γ : List Kd} {k : Nat} {K : Kd} {s : Tm} : tkd Γ (.giv k) = some K → Wr Γ K (.giv k) s → Gw Γ (.giv k) s
  | unit {Γ : List Kd} {s : Tm} : Wr Γ .unit .unit s → Gw Γ .unit s
  | mk {Γ : List Kd} {A K : Kd} {b b' s : Tm} : Gw (Γ ++ [A]) b b' → tkd Γ (.mk A b') = some K → Wr Γ K (.mk A b') s → Gw Γ (.mk A b) s
  | app {Γ : List Kd} {K : Kd} {a b a' b' s : Tm} : Gw Γ a a' → Gw Γ b b' → tkd Γ (.app a' b') = some K → Wr Γ K (.app a' b') s → Gw Γ (.app a b) s
  | both {Γ : List Kd} {K : Kd} {a b a' b' s : Tm} : Gw Γ a a' → Gw Γ b b' → tkd Γ (.both a' b') = some K → Wr Γ K (.both a' b') s → Gw Γ (.both a b) s
  | fst {Γ : List Kd} {K : Kd} {a a' s : Tm} : Gw Γ a a' → tkd Γ (.fst a') = some K → Wr Γ K (.fst a') s → Gw Γ (.fst a) s
  | snd {Γ : List Kd} {K : Kd} {a a' s : Tm} : Gw Γ a a' → tkd Γ (.snd a') = some K → Wr Γ K (.snd a') s → Gw Γ (.snd a) s
theorem Gw.kd {Γ : List Kd} {t s : Tm} (g : Gw Γ t s) : tkd Γ s = tkd Γ t := by
  induction g with
  | giv h w => rw [w.kd h, h]
  | unit w => exact w.kd rfl
  | mk g h w ih => rw [w.kd h, ← h]; simp only [tkd, ih]
  | app g1 g2 h w i1 i2 => rw [w.kd h, ← h]; simp only [tkd, i1, i2]
  | both g1 g2 h w i1 i2 => rw [w.kd h, ← h]; simp only [tkd, i1, i2]
  | fst g h w ih => rw [w.kd h, ← h]; simp only [tkd, ih]
  | snd g h w ih => rw [w.kd h, ← h]; simp only [tkd, ih]
theorem kdsT_le {p q : Nat} (hp : q ≤ p) : ∀ {u : Tm}, kdsT q u → kdsT p u
  | .giv _, _ => trivial
  | .unit, _ => trivial
  | .mk A b, h => ⟨⟨by have := h.1.1; omega, h.1.2⟩, kdsT_le hp h.2⟩
  | .app a b, h => ⟨kdsT_le hp h.1, kdsT_le hp h.2⟩
  | .both a b, h => ⟨kdsT_le hp h.1, kdsT_le hp h.2⟩
  | .fst a, h => kdsT_le (u := a) hp h
  | .snd a, h => kdsT_le (u := a) hp h
/-- what is asked of grown at t -/
def GrOk (q n w : Nat) (Γ : List Kd) (t : Tm) : Prop := ∀ S : Store, Well S w → ∃ s S', ev n .f__law_grown [.loc w, t.d, .lst (Γ.map Kd.d)] S = .ok s.d S' ∧ Gw Γ t s ∧ kdsT (q + 7) s ∧ s.ht ≤ 3 * t.ht + 2 * q + 3 ∧ WS S w S'
section
variable {m q w : Nat} {Γ : List Kd} {S : Store}
/-- the last step: the whole is wrapped -/
theorem grown_wrap {t t' : Tm} {K : Kd} (hk : tkd Γ t = some K) (hk' : tkd Γ t' = some K) (hg : Gk q Γ) (hkd : kdsT q t) (hkd' : kdsT (q + 7) t') (hq : q ≤ 8) (hq1 : 1 ≤ q) (ht : t.ht ≤ 7) (ht' : t'.ht ≤ 3 * t.ht + 2 * q + 1) (hl : Γ.length + t.ht ≤ 200) (hn : 3 * t.ht + 2 * q + 7 ≤ m) (hw : Well S w) :
    ∃ s S', ev m .f__law_wrapped [.loc w, t'.d, .lst (Γ.map Kd.d)] S = .ok s.d S' ∧ Wr Γ K t' s ∧ kdsT (q + 7) s ∧ s.ht ≤ 3 * t.ht + 2 * q + 3 ∧ WS S w S' := by
  obtain ⟨s, S', e, hW, hs, hh, ws⟩ := lwrap_sp (n := m) (q := q) (S := S) (w := w) hk' hg hq hq1 (by omega) (by omega) hw
  have dK := tkd_dep t hg.dep hkd hk
  have zK := sz_le (K := K) (q := 15) (by omega) (Nat.le_refl _)
  exact ⟨s, S', e, hW, hs _ hkd' (by omega) (by omega) (by omega), by omega, ws⟩
theorem gr_two {a b : Tm} {x1 : D} (ga : GrOk q m w Γ a) (gb : GrOk q m w Γ b) (hw : Well S w) : ∃ a' b' S', compL (gN 3) fYes (fArg (ev m .f__law_grown) (fCons (fVar 0) (fCons (fVar 3) (fCons (fVar 2) fNil)))) none [some (.loc w), some x1, some (.lst (Γ.map Kd.d)), none] [a.d, b.d] [] S = .ok [a'.d, b'.d] S' ∧ (Gw Γ a a' ∧ kdsT (q + 7) a' ∧ a'.ht ≤ 3 * a.ht + 2 * q + 3) ∧ (Gw Γ b b' ∧ kdsT (q + 7) b' ∧ b'.ht ≤ 3 * b.ht + 2 * q + 3) ∧ WS S w S' := by
  have h8 : sizeLine = 16777216 := rfl
  obtain ⟨a', S1, ea, h1, h2, h3, wa⟩ := ga S hw
  obtain ⟨b', S2, eb, k1, k2, k3, wb⟩ := gb S1 wa.well
  refine ⟨a', b', S2, ?_, ⟨h1, h2, h3⟩, ⟨k1, k2, k3⟩, wa.trans wb⟩
  generalize D.lst (Γ.map Kd.d) = G at *
  rw [compL_step (ρ1 := [some (.loc w), some x1, some G, some a.d]) (y := a'.d) (S1 := S) (S2 := S) (S3 := S1) (by unfold gd; trivial) (by simp) rfl (by simp [ea]) (by simp [h8]), compL_step (ρ1 := [some (.loc w), some x1, some G, some b.d]) (y := b'.d) (S1 := S1) (S2 := S1) (S3 := S2) (by unfold gd; trivial) (by simp) rfl (by simp [eb]) (by simp [h8]), compL_nil (by unfold gd; trivial)]
  rfl
theorem gr_one {a : Tm} {x1 : D} (ga : GrOk q m w Γ a) (hw : Well S w) : ∃ a' S', compL (gN 3) fYes (fArg (ev m .f__law_grown) (fCons (fVar 0) (fCons (fVar 3) (fCons (fVar 2) fNil)))) none [some (.loc w), some x1, some (.lst (Γ.map Kd.d)), none] [a.d] [] S = .ok [a'.d] S' ∧ (Gw Γ a a' ∧ kdsT (q + 7) a' ∧ a'.ht ≤ 3 * a.ht + 2 * q + 3) ∧ WS S w S' := by
  have h8 : sizeLine = 16777216 := rfl
  obtain ⟨a', S1, ea, h1, h2, h3, wa⟩ := ga S hw
  refine ⟨a', S1, ?_, ⟨h1, h2, h3⟩, wa⟩
  generalize D.lst (Γ.map Kd.d) = G at *
  rw [compL_step (ρ1 := [some (.loc w), some x1, some G, some a.d]) (y := a'.d) (S1 := S) (S2 := S) (S3 := S1) (by unfold gd; trivial) (by simp) rfl (by simp [ea]) (by simp [h8]), compL_nil (by unfold gd; trivial)]
  rfl
end
theorem gin_no {S : Store} {s : String} (h1 : s ≠ "given") (h2 : s ≠ "unit") : gIn true (.str s) (.lst [.str "given", .str "unit"]) S = .ok (.bl true) S := by
  have e1 : (Str.ofString "given" == Str.ofString s) = false := by simp [Ne.symm h1]
  have e2 : (Str.ofString "unit" == Str.ofString s) = false := by simp [Ne.symm h2]
  simp [gIn, pyS, pySL, PyData.canLay0, PyData.canLayAll0, PyData.depth, PyData.depthAll, PyData.eqv, e1, e2]
theorem gin_giv {S : Store} : gIn true (.str "given") (.lst [.str "given", .str "unit"]) S = .ok (.bl false) S := by
  simp [gIn, pyS, pySL, PyData.canLay0, PyData.canLayAll0, PyData.depth, PyData.depthAll, PyData.eqv]
theorem gin_unit {S : Store} : gIn true (.str "unit") (.lst [.str "given", .str "unit"]) S = .ok (.bl false) S := by
  simp [gIn, pyS, pySL, PyData.canLay0, PyData.canLayAll0, PyData.depth, PyData.depthAll, PyData.eqv]
theorem lgrown_sp : ∀ (t : Tm) {K : Kd} {n q w : Nat} {Γ : List Kd}, tkd Γ t = some K → Gk q Γ → kdsT q t → q ≤ 8 → 1 ≤ q → t.ht ≤ 7 → Γ.length + t.ht ≤ 200 → 3 * t.ht + 2 * q + 8 ≤ n → GrOk q n w Γ t
  | .giv k, K, n, q, w, Γ, hk, hg, hkd, hq, hq1, ht, hl, hn, S, hw => by
    obtain ⟨m, rfl, h'⟩ := up (show (3 * (Tm.giv k).ht + 2 * q + 7) + 1 ≤ n by omega)
    obtain ⟨s, S', e, hW, hs, hh, ws⟩ := grown_wrap (m := m) (q := q) (S := S) hk hk hg hkd (kdsT_le (by omega) hkd) hq hq1 ht (by simp [Tm.ht]) hl h' hw
    refine ⟨s, S', ?_, .giv hk hW, hs, hh, ws⟩
    rw [ev, b__law_grown]
    have gi := gin_giv (S := S)
    simp only [Tm.d] at e
    generalize D.lst (Γ.map Kd.d) = G at *
    simp [Tm.d, gi, e]
  | .unit, K, n, q, w, Γ, hk, hg, hkd, hq, hq1, ht, hl, hn, S, hw => by
    obtain ⟨m, rfl, h'⟩ := up (show (3 * (Tm.unit).ht + 2 * q + 7) + 1 ≤ n by omega)
    obtain ⟨s, S', e, hW, hs, hh, ws⟩ := grown_wrap (m := m) (q := q) (S := S) (t := .unit) (t' := .unit) (K := .unit) rfl rfl hg hkd (kdsT_le (by omega) hkd) hq hq1 ht (by simp [Tm.ht]) hl h' hw
    refine ⟨s, S', ?_, .unit hW, hs, hh, ws⟩
    rw [ev, b__law_grown]
    have gi := gin_unit (S := S)
    simp only [Tm.d] at e
    generalize D.lst (Γ.map Kd.d) = G at *
    simp [Tm.d, gi, e]
  | .mk A b, K, n, q, w, Γ, hk, hg, hkd, hq, hq1, ht, hl, hn, S, hw => by
    have h8 : sizeLine = 16777216 := rfl
    simp only [Tm.ht] at ht hl hn
    obtain ⟨m, rfl, h'⟩ := up (show (3 * (b.ht + 1) + 2 * q + 7) + 1 ≤ n by omega)
    have hk0 := hk
    simp only [tkd, Option.bind_eq_some_iff] at hk0
    obtain ⟨B, hB, eK⟩ := hk0
    obtain ⟨b', S1, eb, gb, kb, hb, wb⟩ := lgrown_sp b (n := m) (q := q) (w := w) hB (hg.snoc hkd.1.1) hkd.2 hq hq1 (by omega) (by simp; omega) (by omega) S hw
    have hk' : tkd Γ (.mk A b') = some K := by rw [← hk]; simp only [tkd, gb.kd]
    obtain ⟨s, S', e, hW, hs, hh, ws⟩ := grown_wrap (m := m) (q := q) (S := S1) hk hk' hg hkd (kdsT_le (p := q + 7) (q := q + 7) (Nat.le_refl _) ⟨⟨by have := hkd.1.1; omega, hkd.1.2⟩, kb⟩) hq hq1 (by simp only [Tm.ht]; omega) (by simp only [Tm.ht]; omega) (by simp only [Tm.ht]; omega) (by simp only [Tm.ht]; omega) wb.well
    refine ⟨s, S', ?_, .mk gb hk' hW, hs, hh, wb.trans ws⟩
    have ll : (Γ.map Kd.d).length + 1 ≤ 16777216 := by simp; omega
    simp only [List.map_append, List.map_cons, List.map_nil] at eb
    rw [ev, b__law_grown]
    simp only [Tm.d] at e
    generalize Γ.map Kd.d = G at *
    simp [Tm.d, eb, e, h8, ll]
  | .app a b, K, n, q, w, Γ, hk, hg, hkd, hq, hq1, ht, hl, hn, S, hw => by
    have h8 : sizeLine = 16777216 := rfl
    simp only [Tm.ht] at ht hl hn
    obtain ⟨m, rfl, h'⟩ := up (show (3 * (max a.ht b.ht + 1) + 2 * q + 7) + 1 ≤ n by omega)
    have hk0 := hk
    simp only [tkd, Option.bind_eq_some_iff] at hk0
    obtain ⟨A, hA, B, hB, eK⟩ := hk0
    have ga := lgrown_sp a (n := m) (q := q) (w := w) hA hg hkd.1 hq hq1 (by omega) (by omega) (by omega)
    have gb := lgrown_sp b (n := m) (q := q) (w := w) hB hg hkd.2 hq hq1 (by omega) (by omega) (by omega)
    obtain ⟨a', b', S1, ec, ⟨g1, k1, h1⟩, ⟨g2, k2, h2⟩, w1⟩ := gr_two (S := S) (x1 := .tup [.str "do", a.d, b.d]) ga gb hw
    have hk' : tkd Γ (.app a' b') = some K := by rw [← hk]; simp only [tkd, g1.kd, g2.kd]
    obtain ⟨s, S', e, hW, hs, hh, ws⟩ := grown_wrap (m := m) (q := q) (S := S1) hk hk' hg hkd ⟨k1, k2⟩ hq hq1 (by simp only [Tm.ht]; omega) (by simp only [Tm.ht]; omega) (by simp only [Tm.ht]; omega) (by simp only [Tm.ht]; omega) w1.well
    refine ⟨s, S', ?_, .app g1 g2 hk' hW, hs, hh, w1.trans ws⟩
    have gi := gin_no (S := S) (s := "do") (by decide) (by decide)
    have c2 : cutL [D.str "do", a.d, b.d] (some 1) none = [a.d, b.d] := rfl
    rw [ev, b__law_grown]
    simp only [Tm.d] at e
    generalize D.lst (Γ.map Kd.d) = G at *
    simp [Tm.d, gi, c2, wipeR, ec, e, h8]
  | .both a b, K, n, q, w, Γ, hk, hg, hkd, hq, hq1, ht, hl, hn, S, hw => by
    have h8 : sizeLine = 16777216 := rfl
    simp only [Tm.ht] at ht hl hn
    obtain ⟨m, rfl, h'⟩ := up (show (3 * (max a.ht b.ht + 1) + 2 * q + 7) + 1 ≤ n by omega)
    have hk0 := hk
    simp only [tkd, Option.bind_eq_some_iff] at hk0
    obtain ⟨A, hA, B, hB, eK⟩ := hk0
    have ga := lgrown_sp a (n := m) (q := q) (w := w) hA hg hkd.1 hq hq1 (by omega) (by omega) (by omega)
    have gb := lgrown_sp b (n := m) (q := q) (w := w) hB hg hkd.2 hq hq1 (by omega) (by omega) (by omega)
    obtain ⟨a', b', S1, ec, ⟨g1, k1, h1⟩, ⟨g2, k2, h2⟩, w1⟩ := gr_two (S := S) (x1 := .tup [.str "both", a.d, b.d]) ga gb hw
    have hk' : tkd Γ (.both a' b') = some K := by rw [← hk]; simp only [tkd, g1.kd, g2.kd]
    obtain ⟨s, S', e, hW, hs, hh, ws⟩ := grown_wrap (m := m) (q := q) (S := S1) hk hk' hg hkd ⟨k1, k2⟩ hq hq1 (by simp only [Tm.ht]; omega) (by simp only [Tm.ht]; omega) (by simp only [Tm.ht]; omega) (by simp only [Tm.ht]; omega) w1.well
    refine ⟨s, S', ?_, .both g1 g2 hk' hW, hs, hh, w1.trans ws⟩
    have gi := gin_no (S := S) (s := "both") (by decide) (by decide)
    have c2 : cutL [D.str "both", a.d, b.d] (some 1) none = [a.d, b.d] := rfl
    rw [ev, b__law_grown]
    simp only [Tm.d] at e
    generalize D.lst (Γ.map Kd.d) = G at *
    simp [Tm.d, gi, c2, wipeR, ec, e, h8]
  | .fst a, K, n, q, w, Γ, hk, hg, hkd, hq, hq1, ht, hl, hn, S, hw => by
    have h8 : sizeLine = 16777216 := rfl
    simp only [Tm.ht] at ht hl hn
    obtain ⟨m, rfl, h'⟩ := up (show (3 * (a.ht + 1) + 2 * q + 7) + 1 ≤ n by omega)
    have hk0 := hk
    simp only [tkd, Option.bind_eq_some_iff] at hk0
    obtain ⟨A, hA, eK⟩ := hk0
    have ga := lgrown_sp a (n := m) (q := q) (w := w) hA hg hkd hq hq1 (by omega) (by omega) (by omega)
    obtain ⟨a', S1, ec, ⟨g1, k1, h1⟩, w1⟩ := gr_one (S := S) (x1 := .tup [.str "first", a.d]) ga hw
    have hk' : tkd Γ (.fst a') = some K := by rw [← hk]; simp only [tkd, g1.kd]
    obtain ⟨s, S', e, hW, hs, hh, ws⟩ := grown_wrap (m := m) (q := q) (S := S1) hk hk' hg hkd k1 hq hq1 (by simp only [Tm.ht]; omega) (by simp only [Tm.ht]; omega) (by simp only [Tm.ht]; omega) (by simp only [Tm.ht]; omega) w1.well
    refine ⟨s, S', ?_, .fst g1 hk' hW, hs, hh, w1.trans ws⟩
    have gi := gin_no (S := S) (s := "first") (by decide) (by decide)
    have c2 : cutL [D.str "first", a.d] (some 1) none = [a.d] := rfl
    rw [ev, b__law_grown]
    simp only [Tm.d] at e
    generalize D.lst (Γ.map Kd.d) = G at *
    simp [Tm.d, gi, c2, wipeR, ec, e, h8]
  | .snd a, K, n, q, w, Γ, hk, hg, hkd, hq, hq1, ht, hl, hn, S, hw => by
    have h8 : sizeLine = 16777216 := rfl
    simp only [Tm.ht] at ht hl hn
    obtain ⟨m, rfl, h'⟩ := up (show (3 * (a.ht + 1) + 2 * q + 7) + 1 ≤ n by omega)
    have hk0 := hk
    simp only [tkd, Option.bind_eq_some_iff] at hk0
    obtain ⟨A, hA, eK⟩ := hk0
    have ga := lgrown_sp a (n := m) (q := q) (w := w) hA hg hkd hq hq1 (by omega) (by omega) (by omega)
    obtain ⟨a', S1, ec, ⟨g1, k1, h1⟩, w1⟩ := gr_one (S := S) (x1 := .tup [.str "second", a.d]) ga hw
    have hk' : tkd Γ (.snd a') = some K := by rw [← hk]; simp only [tkd, g1.kd]
    obtain ⟨s, S', e, hW, hs, hh, ws⟩ := grown_wrap (m := m) (q := q) (S := S1) hk hk' hg hkd k1 hq hq1 (by simp only [Tm.ht]; omega) (by simp only [Tm.ht]; omega) (by simp only [Tm.ht]; omega) (by simp only [Tm.ht]; omega) w1.well
    refine ⟨s, S', ?_, .snd g1 hk' hW, hs, hh, w1.trans ws⟩
    have gi := gin_no (S := S) (s := "second") (by decide) (by decide)
    have c2 : cutL [D.str "second", a.d] (some 1) none = [a.d] := rfl
    rw [ev, b__law_grown]
    simp only [Tm.d] at e
    generalize D.lst (Γ.map Kd.d) = G at *
    simp [Tm.d, gi, c2, wipeR, ec, e, h8]
end Kz

namespace Kz
open PySem PySem.Spec PyProof.Rows L2 Kw
/-! some: grown, if not too great; the givens -/
theorem lay_tm : ∀ t : Tm, lay t.d
  | .giv _ => by simp [Tm.d, lay, pl, plL]
  | .unit => by simp [Tm.d, lay, pl, plL]
  | .mk A b => by
    have h1 := lay_kd A
    have h2 := lay_tm b
    simp only [lay] at h1 h2
    simp [Tm.d, lay, pl, plL, h1, h2]
  | .app a b => by
    have h1 := lay_tm a
    have h2 := lay_tm b
    simp only [lay] at h1 h2
    simp [Tm.d, lay, pl, plL, h1, h2]
  | .both a b => by
    have h1 := lay_tm a
    have h2 := lay_tm b
    simp only [lay] at h1 h2
    simp [Tm.d, lay, pl, plL, h1, h2]
  | .fst a => by
    have h1 := lay_tm a
    simp only [lay] at h1
    simp [Tm.d, lay, pl, plL, h1]
  | .snd a => by
    have h1 := lay_tm a
    simp only [lay] at h1
    simp [Tm.d, lay, pl, plL, h1]
theorem nd_tc_kd : ∀ k : Kd, nd k.d ≤ 4 * tc k.d
  | .base _ => by simp [Kd.d, nd, ndL, tc, tcL]
  | .unit => by simp [Kd.d, nd, ndL, tc, tcL]
  | .both a b => by
    have := nd_tc_kd a
    have := nd_tc_kd b
    simp only [Kd.d, nd, ndL, tc, tcL]; omega
  | .frm a b => by
    have := nd_tc_kd a
    have := nd_tc_kd b
    simp only [Kd.d, nd, ndL, tc, tcL]; omega
theorem nd_tc : ∀ t : Tm, nd t.d ≤ 4 * tc t.d
  | .giv _ => by simp [Tm.d, nd, ndL, tc, tcL]
  | .unit => by simp [Tm.d, nd, ndL, tc, tcL]
  | .mk A b => by
    have := nd_tc_kd A
    have := nd_tc b
    simp only [Tm.d, nd, ndL, tc, tcL]; omega
  | .app a b => by
    have := nd_tc a
    have := nd_tc b
    simp only [Tm.d, nd, ndL, tc, tcL]; omega
  | .both a b => by
    have := nd_tc a
    have := nd_tc b
    simp only [Tm.d, nd, ndL, tc, tcL]; omega
  | .fst a => by
    have := nd_tc a
    simp only [Tm.d, nd, ndL, tc, tcL]; omega
  | .snd a => by
    have := nd_tc a
    simp only [Tm.d, nd, ndL, tc, tcL]; omega
theorem nd_ht {q : Nat} (hq : q ≤ 8) : ∀ t : Tm, kdsT q t → nd t.d + 3000 ≤ 3000 * 2 ^ (t.ht + 1)
  | .giv _, _ => by simp [Tm.d, nd, ndL, Tm.ht]
  | .unit, _ => by simp [Tm.d, nd, ndL, Tm.ht]
  | .mk A b, h => by
    have h1 := nd_kd A
    have h2 := sz_le8 h.1.1 hq
    have h3 := nd_ht hq b h.2
    simp only [Tm.d, nd, ndL, Tm.ht]
    rw [Nat.pow_succ _ (b.ht + 1)]; omega
  | .app a b, h => by
    have h1 := nd_ht hq a h.1
    have h2 := nd_ht hq b h.2
    have p1 : 2 ^ (a.ht + 1) ≤ 2 ^ (max a.ht b.ht + 1) := Nat.pow_le_pow_right (by omega) (by omega)
    have p2 : 2 ^ (b.ht + 1) ≤ 2 ^ (max a.ht b.ht + 1) := Nat.pow_le_pow_right (by omega) (by omega)
    simp only [Tm.d, nd, ndL, Tm.ht]
    rw [Nat.pow_succ _ (max a.ht b.ht + 1)]; omega
  | .both a b, h => by
    have h1 := nd_ht hq a h.1
    have h2 := nd_ht hq b h.2
    have p1 : 2 ^ (a.ht + 1) ≤ 2 ^ (max a.ht b.ht + 1) := Nat.pow_le_pow_right (by omega) (by omega)
    have p2 : 2 ^ (b.ht + 1) ≤ 2 ^ (max a.ht b.ht + 1) := Nat.pow_le_pow_right (by omega) (by omega)
    simp only [Tm.d, nd, ndL, Tm.ht]
    rw [Nat.pow_succ _ (max a.ht b.ht + 1)]; omega
  | .fst a, h => by
    have h1 := nd_ht hq a h
    have p0 : 0 < 2 ^ (a.ht + 1) := Nat.two_pow_pos _
    simp only [Tm.d, nd, ndL, Tm.ht]
    rw [Nat.pow_succ _ (a.ht + 1)]; omega
  | .snd a, h => by
    have h1 := nd_ht hq a h
    have p0 : 0 < 2 ^ (a.ht + 1) := Nat.two_pow_pos _
    simp only [Tm.d, nd, ndL, Tm.ht]
    rw [Nat.pow_succ _ (a.ht + 1)]; omega
theorem nd_flat {q : Nat} (hq : q ≤ 8) {t : Tm} (h : kdsT q t) (ht : t.ht ≤ 7) : nd t.d ≤ 1000000 := by
  have h1 := nd_ht hq t h
  have : 2 ^ (t.ht + 1) ≤ 2 ^ 8 := Nat.pow_le_pow_right (by omega) (by omega)
  omega
theorem hD_tm {q : Nat} : ∀ t : Tm, kdsT q t → hD t.d ≤ t.ht + q + 1
  | .giv _, _ => by simp [Tm.d, hD, hDL, Tm.ht]
  | .unit, _ => by simp [Tm.d, hD, hDL, Tm.ht]
  | .mk A b, h => by
    have h1 := hD_kd A
    have h2 := h.1.1
    have h3 := hD_tm b h.2
    simp only [Tm.d, hD, hDL, Tm.ht]; omega
  | .app a b, h => by
    have h1 := hD_tm a h.1
    have h2 := hD_tm b h.2
    simp only [Tm.d, hD, hDL, Tm.ht]; omega
  | .both a b, h => by
    have h1 := hD_tm a h.1
    have h2 := hD_tm b h.2
    simp only [Tm.d, hD, hDL, Tm.ht]; omega
  | .fst a, h => by
    have h1 := hD_tm (q := q) a h
    simp only [Tm.d, hD, hDL, Tm.ht]; omega
  | .snd a, h => by
    have h1 := hD_tm (q := q) a h
    simp only [Tm.d, hD, hDL, Tm.ht]; omega
theorem Tm.d_tup : ∀ t : Tm, ∃ ds, t.d = .tup ds
  | .giv _ => ⟨_, rfl⟩
  | .unit => ⟨_, rfl⟩
  | .mk _ _ => ⟨_, rfl⟩
  | .app _ _ => ⟨_, rfl⟩
  | .both _ _ => ⟨_, rfl⟩
  | .fst _ => ⟨_, rfl⟩
  | .snd _ => ⟨_, rfl⟩
/-- grown, or plain as it was -/
structure So (Γ : List Kd) (most : Nat) (t u : Tm) : Prop where
  or_ : u = t ∨ (Gw Γ t u ∧ tc u.d ≤ most)
theorem So.kd {Γ : List Kd} {most : Nat} {t u : Tm} (h : So Γ most t u) : tkd Γ u = tkd Γ t := by
  rcases h.or_ with rfl | ⟨g, _⟩
  · rfl
  · exact g.kd
theorem So.nd {Γ : List Kd} {most q : Nat} {t u : Tm} (h : So Γ most t u) (hm : most ≤ 2000) (hq : q ≤ 8) (hk : kdsT q t) (ht : t.ht ≤ 7) : Kz.nd u.d ≤ 1000000 := by
  rcases h.or_ with rfl | ⟨g, hc⟩
  · exact nd_flat hq hk ht
  · have := nd_tc u; omega
theorem lsome_sp {t : Tm} {K : Kd} {n q w most : Nat} {Γ : List Kd} {S : Store} (hk : tkd Γ t = some K) (hg : Gk q Γ) (hkd : kdsT q t) (hq : q ≤ 8) (hq1 : 1 ≤ q) (ht : t.ht ≤ 7) (hl : Γ.length + t.ht ≤ 200) (hn : 3 * t.ht + 3 * q + 20 ≤ n) (hw : Well S w) :
    ∃ u S', ev n .f__law_some [.loc w, t.d, .lst (Γ.map Kd.d), .int (most : Int)] S = .ok u.d S' ∧ So Γ most t u ∧ kdsT (q + 7) u ∧ u.ht ≤ 3 * t.ht + 2 * q + 3 ∧ WS S w S' := by
  have h8 : sizeLine = 16777216 := rfl
  obtain ⟨m, rfl, h'⟩ := up (show (3 * t.ht + 3 * q + 19) + 1 ≤ n by omega)
  obtain ⟨s, S1, e, gs, ks, hs, ws⟩ := lgrown_sp t (n := m) (w := w) hk hg hkd hq hq1 ht hl (by omega) S hw
  obtain ⟨ds, hds⟩ := Tm.d_tup s
  have hD1 := hD_tm s ks
  have la := lay_tm s
  have aa := ar_tm s
  rw [hds] at la aa hD1
  have hDs : hD (.tup ds) = hDL ds + 1 := rfl
  have ez := lsize_ok (hDL ds) (ds := ds) (n := m) (S := S1) (Nat.le_refl _) (lay_tup la) aa (by omega)
  have eh := lheight_ok (hDL ds) (ds := ds) (n := m) (S := S1) (Nat.le_refl _) (lay_tup la) aa (by omega)
  rw [← hds] at ez eh
  by_cases hc : tc s.d ≤ most
  · by_cases hh : hD s.d ≤ 90
    · refine ⟨s, S1, ?_, ⟨.inr ⟨gs, hc⟩⟩, ks, hs, ws⟩
      have c1 : ¬ (most : Int) < (tc s.d : Int) := by omega
      have c2 : ¬ (90 : Int) < (hD s.d : Int) := by omega
      rw [ev, b__law_some]
      generalize D.lst (Γ.map Kd.d) = G at *
      generalize (tc s.d : Int) = Z1 at *
      generalize (hD s.d : Int) = Z2 at *
      generalize (most : Int) = Z3 at *
      simp [e, ez, eh, c1, c2, h8]
    · refine ⟨t, S1, ?_, ⟨.inl rfl⟩, kdsT_le (by omega) hkd, by omega, ws⟩
      have c1 : ¬ (most : Int) < (tc s.d : Int) := by omega
      have c2 : (90 : Int) < (hD s.d : Int) := by omega
      rw [ev, b__law_some]
      generalize D.lst (Γ.map Kd.d) = G at *
      generalize (tc s.d : Int) = Z1 at *
      generalize (hD s.d : Int) = Z2 at *
      generalize (most : Int) = Z3 at *
      simp [e, ez, eh, c1, c2, h8]
  · refine ⟨t, S1, ?_, ⟨.inl rfl⟩, kdsT_le (by omega) hkd, by omega, ws⟩
    have c1 : (most : Int) < (tc s.d : Int) := by omega
    rw [ev, b__law_some]
    generalize D.lst (Γ.map Kd.d) = G at *
    generalize (tc s.d : Int) = Z1 at *
    generalize (most : Int) = Z3 at *
    simp [e, ez, c1, h8]
/-- the eight bases, turned -/
def bas (u : Nat) : List Kd := (List.range 8).map fun k => Kd.base ⟨(k + u) % 8, Nat.mod_lt _ (by omega)⟩
theorem bas_has (u : Nat) (i : Fin 8) : ∃ k : Nat, k < 8 ∧ (bas u)[k]? = some (.base i) := by
  have hi := i.isLt
  refine ⟨(i.val + 8 - u % 8) % 8, Nat.mod_lt _ (by omega), ?_⟩
  have h1 : (i.val + 8 - u % 8) % 8 < 8 := Nat.mod_lt _ (by omega)
  unfold bas
  rw [List.getElem?_map, List.getElem?_range h1]
  simp only [Option.map_some, Option.some.injEq, Kd.base.injEq]
  apply Fin.ext
  show ((i.val + 8 - u % 8) % 8 + u) % 8 = i.val
  omega
theorem gk_given {u : Nat} {M : List Kd} {q : Nat} (h : ∀ A ∈ M, A.dep ≤ q) : Gk q (bas u ++ M) :=
  ⟨fun i => by
    obtain ⟨k, hk, e⟩ := bas_has u i
    exact ⟨k, by rw [List.getElem?_append_left (by simp [bas]; exact hk)]; exact e⟩, fun A hA => by
    rcases List.mem_append.mp hA with hA | hA
    · simp only [bas, List.mem_map] at hA
      obtain ⟨k, _, rfl⟩ := hA
      simp [Kd.dep]
    · exact h A hA⟩
theorem lgiven_sp {n w : Nat} {S : Store} (hn : 6 ≤ n) (hw : Well S w) : ∃ (Γ : List Kd) (S' : Store), ev n .f__law_given [.loc w] S = .ok (.lst (Γ.map Kd.d)) S' ∧ Gk 2 Γ ∧ 8 ≤ Γ.length ∧ Γ.length ≤ 10 ∧ WS S w S' := by
  have h8 : sizeLine = 16777216 := rfl
  obtain ⟨m, rfl, h'⟩ := up (show 5 + 1 ≤ n by omega)
  obtain ⟨r, S1, hr, e1, w1⟩ := draw_nat (n := m) (S := S) (w := w) (V := 3) (by omega) hw (by omega) (by omega)
  have e1' : ev m .f__law_draw [.loc w, .int 3] S = .ok (.int (r : Int)) S1 := e1
  obtain ⟨acc, S2, e2, ⟨⟨M, hM, hMd⟩, w2⟩, hlen⟩ := compL_inv (tg := gN 3) (tt := fYes) (te := fArg (ev m .f__law_kind) (fCons (fVar 0) (fCons (fC (.int 2)) fNil))) (ρ := [some (.loc w), none, none, none])
    (fun T acc => (∃ M : List Kd, acc = M.map Kd.d ∧ ∀ A ∈ M, A.dep ≤ 2) ∧ WS S1 w T) (rngD 0 r) [] S1 (fun d hd T acc hI => by
      obtain ⟨⟨M, hM, hMd⟩, wT⟩ := hI
      obtain ⟨K, T', eK, dK, _, wK⟩ := lkind_sp 2 (n := m) (S := T) (w := w) (by omega) wT.well
      have eK' : ev m .f__law_kind [.loc w, .int 2] T = .ok K.d T' := eK
      refine ⟨[some (.loc w), none, none, some d], K.d, T', by simp, rfl, by simp [eK'], ⟨M ++ [K], by rw [hM]; simp, fun A hA => ?_⟩, wT.trans wK⟩
      rcases List.mem_append.mp hA with hA | hA
      · exact hMd A hA
      · have : A = K := by simpa using hA
        rw [this]; exact dK) ⟨⟨[], rfl, fun _ h => nomatch h⟩, WS.refl w1.well⟩ (by
        have : ∀ (k : Nat) (i : Int), (rngD i k).length = k := by
          intro k
          induction k with
          | zero => intro i; rfl
          | succ k ih => intro i; show (rngD (i + 1) k).length + 1 = _; rw [ih]
        rw [this]; simp; omega)
  have lr : ∀ (k : Nat) (i : Int), (rngD i k).length = k := by
    intro k
    induction k with
    | zero => intro i; rfl
    | succ k ih => intro i; show (rngD (i + 1) k).length + 1 = _; rw [ih]
  have lM : M.length = r := by
    rw [hM, lr] at hlen
    simpa using hlen
  obtain ⟨u, S3, hu, e3, w3⟩ := draw_nat (n := m) (S := S2) (w := w) (V := 8) (by omega) w2.well (by omega) (by omega)
  have e3' : ev m .f__law_draw [.loc w, .int 8] S2 = .ok (.int (u : Int)) S3 := e3
  have hr8 : rngD 0 8 = (List.range 8).map fun (k : Nat) => D.int (k : Int) := rfl
  have hc := compL_ls (tg := gN 3) (tt := fYes) (te := fArg mkTup (fCons (fC (.str "base")) (fCons (f2 gMod (f2 (gAdd false) (fVar 3) (fVar 2)) (fC (.int 8))) fNil))) (ρ := [some (.loc w), some (.lst (M.map Kd.d)), some (.int (u : Int)), none]) (S := S3) (fun (k : Nat) => D.int (k : Int)) (fun k => (Kd.base ⟨(k + u) % 8, Nat.mod_lt _ (by omega)⟩).d) (List.range 8) [] (fun k hk => by
    refine ⟨[some (.loc w), some (.lst (M.map Kd.d)), some (.int (u : Int)), some (.int (k : Int))], by simp, rfl, ?_⟩
    have em : (((k + u) % 8 : Nat) : Int) = ((k : Int) + (u : Int)) % 8 := by omega
    have l8 : (8 : Nat).log2 < 9000 := by decide
    simp only [Kd.d, em]
    generalize (k : Int) = Z1 at *
    generalize (u : Int) = Z2 at *
    simp [h8, l8]) (by simp [h8])
  have em : (List.range 8).map (fun k => (Kd.base ⟨(k + u) % 8, Nat.mod_lt _ (by omega)⟩).d) = (bas u).map Kd.d := by
    unfold bas; rw [List.map_map]; rfl
  rw [em, List.nil_append, ← hr8] at hc
  refine ⟨bas u ++ M, S3, ?_, gk_given hMd, by simp [bas], by simp [bas]; omega, (w1.trans w2).trans w3⟩
  rw [hM] at e2
  have it3 : itR [.int (r : Int)] S1 = .ok (rngD 0 r, none) S1 := by
    rw [itR_k (by omega) (by omega), Int.toNat_natCast]
  have it8 : itR [.int 8] S3 = .ok (rngD 0 8, none) S3 := itR_k (by omega) (by omega)
  have ll : ((bas u).map Kd.d).length + (M.map Kd.d).length ≤ 16777216 := by simp [bas]; omega
  rw [List.map_append, ev, b__law_given]
  generalize (r : Int) = Zr at *
  generalize (u : Int) = Zu at *
  generalize (bas u).map Kd.d = P at *
  generalize M.map Kd.d = Q at *
  have hA : fLc false (fiR1 (fCons (fArg (ev m .f__law_draw) (fCons (fVar 0) (fCons (fC (.int 3)) fNil))) fNil)) (gN 3) fYes (fArg (ev m .f__law_kind) (fCons (fVar 0) (fCons (fC (.int 2)) fNil))) [3] [some (.loc w), none, none, none] S = .ok (.lst Q) S2 := by
    rw [fLc_ap, fiR1_ap]
    have a1 : fCons (fArg (ev m .f__law_draw) (fCons (fVar 0) (fCons (fC (.int 3)) fNil))) fNil [some (.loc w), none, none, none] S = .ok [.int Zr] S1 := by simp [e1']
    rw [a1, bnd_ok, it3, bnd_ok]
    show lcR false (compL (gN 3) fYes (fArg (ev m .f__law_kind) (fCons (fVar 0) (fCons (fC (.int 2)) fNil))) none [some (.loc w), none, none, none] (rngD 0 r) [] S1) = _
    rw [e2]
    rfl
  have hB : fLc false (fiR1 (fCons (fC (.int 8)) fNil)) (gN 3) fYes (fArg mkTup (fCons (fC (.str "base")) (fCons (f2 gMod (f2 (gAdd false) (fVar 3) (fVar 2)) (fC (.int 8))) fNil))) [3] [some (.loc w), some (.lst Q), some (.int Zu), none] S3 = .ok (.lst P) S3 := by
    rw [fLc_ap, fiR1_ap]
    have a1 : fCons (fC (.int 8)) fNil [some (.loc w), some (.lst Q), some (.int Zu), none] S3 = .ok [.int 8] S3 := by simp
    rw [a1, bnd_ok, it8, bnd_ok]
    show lcR false (compL (gN 3) fYes (fArg mkTup (fCons (fC (.str "base")) (fCons (f2 gMod (f2 (gAdd false) (fVar 3) (fVar 2)) (fC (.int 8))) fNil))) none [some (.loc w), some (.lst Q), some (.int Zu), none] (rngD 0 8) [] S3) = _
    rw [hc]
    rfl
  have hD' : fArg (ev m .f__law_draw) (fCons (fVar 0) (fCons (fC (.int 8)) fNil)) [some (.loc w), some (.lst Q), none, none] S2 = .ok (.int Zu) S3 := by simp [e3']
  generalize fLc false (fiR1 (fCons (fArg (ev m .f__law_draw) (fCons (fVar 0) (fCons (fC (.int 3)) fNil))) fNil)) (gN 3) fYes (fArg (ev m .f__law_kind) (fCons (fVar 0) (fCons (fC (.int 2)) fNil))) [3] = FA at *
  generalize fLc false (fiR1 (fCons (fC (.int 8)) fNil)) (gN 3) fYes (fArg mkTup (fCons (fC (.str "base")) (fCons (f2 gMod (f2 (gAdd false) (fVar 3) (fVar 2)) (fC (.int 8))) fNil))) [3] = FB at *
  generalize fArg (ev m .f__law_draw) (fCons (fVar 0) (fCons (fC (.int 8)) fNil)) = FD at *
  simp [hA, hB, hD', h8, ll]
end Kz

namespace Kz
open PySem PySem.Spec PyProof.Rows L2 Kw
/-! the law's judge of terms -/
theorem bq (s : Str) (a : String) : (Str.ofString a == s) = decide (s = Str.ofString a) := by
  rw [Bool.eq_iff_iff, beq_iff_eq, decide_eq_true_eq]; exact eq_comm
theorem in_bf {s : Str} {S : Store} (hs : PyData.strOk s = true) : gIn true (.str s) (.lst [.str "both", .str "from"]) S = .ok (.bl (!(decide (s = "both") || decide (s = "from")))) S := by
  simp [gIn, pyS, pySL, PyData.canLay0, PyData.canLayAll0, PyData.depth, PyData.depthAll, PyData.eqv, hs, bq]
theorem in_fs {s : Str} {S : Store} (hs : PyData.strOk s = true) : gIn false (.str s) (.lst [.str "first", .str "second"]) S = .ok (.bl (decide (s = "first") || decide (s = "second"))) S := by
  simp [gIn, pyS, pySL, PyData.canLay0, PyData.canLayAll0, PyData.depth, PyData.depthAll, PyData.eqv, hs, bq]
theorem in_mdb {s : Str} {S : Store} (hs : PyData.strOk s = true) : gIn true (.str s) (.lst [.str "make", .str "do", .str "both"]) S = .ok (.bl (!(decide (s = "make") || (decide (s = "do") || decide (s = "both"))))) S := by
  simp [gIn, pyS, pySL, PyData.canLay0, PyData.canLayAll0, PyData.depth, PyData.depthAll, PyData.eqv, hs, bq]
theorem isi_int_no {d : D} {S : Store} (l : lay d) (h : ∀ i, d ≠ .int i) (hb : ∀ b, d ≠ .bl b) : isiR "int" d S = .ok (.bl false) S := by
  cases d with
  | int i => exact absurd rfl (h i)
  | bl b => exact absurd rfl (hb b)
  | fls b => rfl
  | loc _ => simp [lay, pl] at l
  | ins _ _ _ => simp [lay, pl] at l
  | glo _ => simp [lay, pl] at l
  | exn _ => simp [lay, pl] at l
  | exo _ _ _ => simp [lay, pl] at l
  | _ => simp
theorem goodk_ok : ∀ (N : Nat) {d : D} {n : Nat} {S : Store}, hD d ≤ N → lay d → N + 1 ≤ n → ev n .f__law_good_kind [d] S = .ok (.bl (isK d)) S
  | N, d, n, S, hN, l, hn => by
    obtain ⟨m, rfl, h'⟩ := up (show N + 1 ≤ n by omega)
    have h8 : sizeLine = 16777216 := rfl
    rw [isK_eq, ev, b__law_good_kind]
    by_cases ht : ∃ ds, d = .tup ds
    · obtain ⟨ds, rfl⟩ := ht
      cases ds with
      | nil => simp [innD]
      | cons a r =>
        have la := (layL_cons.mp (lay_tup l)).1
        have lr := (layL_cons.mp (lay_tup l)).2
        by_cases hs : ∃ s, a = .str s
        · obtain ⟨s, rfl⟩ := hs
          have hs : PyData.strOk s = true := la
          have e1 := in_bf (S := S) hs
          simp only [hD, hDL] at hN
          by_cases h1 : s = "base"
          · subst h1
            match r, lr with
            | [], _ => simp [innD, innR]
            | [x], lx =>
              have lx' := (layL_cons.mp lx).1
              by_cases hi : ∃ i, x = .int i
              · obtain ⟨i, rfl⟩ := hi
                by_cases c1 : 0 ≤ i
                · by_cases c2 : i < 8
                  · have c3 : i ≤ 7 := by omega
                    simp [innD, innR, c1, c2, c3]
                  · have c3 : ¬ i ≤ 7 := by omega
                    simp [innD, innR, c1, c2, c3]
                · simp [innD, innR, c1]
              · by_cases hb : ∃ b, x = .bl b
                · obtain ⟨b, rfl⟩ := hb
                  simp [innD, innR]
                · have e := isi_int_no (S := S) lx' (fun i e => hi ⟨i, e⟩) (fun b e => hb ⟨b, e⟩)
                  have ei : innR (Str.ofString "base") [x] = none := by
                    unfold innR
                    rw [if_pos rfl]
                    split
                    · rename_i i q; cases q; exact absurd ⟨_, rfl⟩ hi
                    · rfl
                  simp [innD, ei, e]
            | x :: y :: r, _ =>
              have n2 : ¬ ((r.length : Int) + 1 + 1 + 1 = 2) := by omega
              simp [innD, innR, n2]
          · by_cases h2 : s = "unit"
            · subst h2
              match r, lr with
              | [], _ => simp [innD, innR]
              | x :: r, _ =>
                have n2 : ¬ ((r.length : Int) + 1 + 1 = 1) := by omega
                simp [innD, innR, n2]
            · have s1 : (s == Str.ofString "base") = false := by simpa using h1
              have s2 : (s == Str.ofString "unit") = false := by simpa using h2
              by_cases h3 : s = "both" ∨ s = "from"
              · have hor : (decide (s = "both") || decide (s = "from")) = true := by simpa using h3
                rw [hor] at e1
                match r, lr with
                | [x, y], lx =>
                  have lx' := (layL_cons.mp lx).1
                  have ly' := (layL_cons.mp (layL_cons.mp lx).2).1
                  simp only [hDL] at hN
                  obtain ⟨N', rfl⟩ : ∃ N', N = N' + 1 := ⟨N - 1, by omega⟩
                  have ex := goodk_ok N' (d := x) (n := m) (S := S) (by omega) lx' h'
                  have ey := goodk_ok N' (d := y) (n := m) (S := S) (by omega) ly' h'
                  cases kx : isK x <;> simp [s1, s2, e1, innD, innR, h1, h2, h3, ex, ey, kx]
                | [], _ => simp [s1, s2, e1, innD, innR, h1, h2, h3]
                | [x], _ => simp [s1, s2, e1, innD, innR, h1, h2, h3]
                | x :: y :: z :: r, _ =>
                  have n2 : ¬ ((r.length : Int) + 1 + 1 + 1 + 1 = 3) := by omega
                  simp [s1, s2, e1, innD, innR, h1, h2, h3, n2]
              · have hor : (decide (s = "both") || decide (s = "from")) = false := by simpa using h3
                rw [hor] at e1
                simp [s1, s2, e1, innD, innR, h1, h2, h3]
        · have ea := isi_nostr (S := S) la (fun s e => hs ⟨s, e⟩)
          have ei : innD (.tup (a :: r)) = none := by
            unfold innD
            split
            · rename_i s' r' q; cases q; exact absurd ⟨_, rfl⟩ hs
            · rfl
          simp [ea, ei]
    · have et := isi_notup (S := S) l (fun ds e => ht ⟨ds, e⟩)
      have ei : innD d = none := by
        unfold innD
        split
        · exact absurd ⟨_, rfl⟩ ht
        · rfl
      simp [et, ei]
end Kz

namespace Kz
open PySem PySem.Spec PyProof.Rows L2 Kw
theorem ixm1 {a : D} {S : Store} : ixR [a] (-1) S = .ok a S := rfl
theorem ixm2 {a b : D} {S : Store} : ixR [a, b] (-1) S = .ok b S := rfl
theorem ixm3 {a b c : D} {S : Store} : ixR [a, b, c] (-1) S = .ok c S := rfl
theorem judged_ok : ∀ (f : Nat) {d x : D} {Γ : List Kd} {n q : Nat} {S : Store}, hD d < f → (∀ A ∈ Γ, A.dep ≤ q) → lay d → Gv S x Γ → max q (hD d) + hD d ≤ 200 → hD d + 2 ≤ n → Γ.length + hD d ≤ 10000 → ev n .f__law_judged [d, x] S = .ok (oK (jdf f Γ d)) S
  | 0, d, x, Γ, n, q, S, hf, hΓ, l, hg, hq, hn, hl => absurd hf (by omega)
  | f + 1, d, x, Γ, n, q, S, hf, hΓ, l, hg, hq, hn, hl => by
    obtain ⟨m, rfl, h'⟩ := up (show hD d + 1 + 1 ≤ n by omega)
    have h8 : sizeLine = 16777216 := rfl
    rw [ev, b__law_judged]
    by_cases ht : ∃ ds, d = .tup ds
    · obtain ⟨ds, rfl⟩ := ht
      cases ds with
      | nil => simp [jdf, oK]
      | cons a r =>
        have la := (layL_cons.mp (lay_tup l)).1
        have lr := (layL_cons.mp (lay_tup l)).2
        by_cases hs : ∃ s, a = .str s
        · obtain ⟨s, rfl⟩ := hs
          have hs : PyData.strOk s = true := la
          simp only [hD, hDL] at hf hq h' hl
          by_cases h1 : s = "unit"
          · subst h1
            match r, lr with
            | [], _ => simp [jdf, oK, Kd.d, h8]
            | y :: r, _ =>
              have n2 : ¬ ((r.length : Int) + 1 + 1 = 1) := by omega
              simp [jdf, oK, h8, n2]
          have s1 : (s == Str.ofString "unit") = false := by simpa using h1
          by_cases h2 : s = "given"
          · subst h2
            match r, lr with
            | [], _ => simp [jdf, oK, in_fs hs, in_mdb hs]
            | [y], ly =>
              have ly' := (layL_cons.mp ly).1
              have gl := hg.len
              cases y with
              | int i =>
                by_cases c0 : 0 ≤ i
                · obtain ⟨k, rfl⟩ : ∃ k : Nat, i = (k : Int) := ⟨i.toNat, by omega⟩
                  by_cases c1 : k < Γ.length
                  · have gi := hg.ix c1
                    have c1' : (k : Int) < ((Γ.length : Nat) : Int) := by omega
                    have ej : jdf (f + 1) Γ (.tup [.str "given", .int (k : Int)]) = some Γ[k] := by
                      simp [jdf, c1]
                    rw [ej]
                    generalize ((Γ.length : Nat) : Int) = V at *
                    generalize (k : Int) = Z at *
                    simp [gl, c0, c1', gi, oK]
                  · have c1' : ¬ (k : Int) < ((Γ.length : Nat) : Int) := by omega
                    have ej : jdf (f + 1) Γ (.tup [.str "given", .int (k : Int)]) = none := by
                      simp [jdf]; omega
                    rw [ej]
                    generalize ((Γ.length : Nat) : Int) = V at *
                    generalize (k : Int) = Z at *
                    simp [gl, c0, c1', oK]
                · simp [jdf, c0, oK]
              | bl b => simp [jdf, oK]
              | fls ds => simp [jdf, oK]; rfl
              | loc _ => simp [lay, pl] at ly'
              | ins _ _ _ => simp [lay, pl] at ly'
              | glo _ => simp [lay, pl] at ly'
              | exn _ => simp [lay, pl] at ly'
              | exo _ _ _ => simp [lay, pl] at ly'
              | _ => simp [jdf, oK]
            | y :: z :: r, _ =>
              have n2 : ¬ ((r.length : Int) + 1 + 1 + 1 = 2) := by omega
              simp [jdf, oK, n2, in_fs hs, in_mdb hs]
          have s2 : (s == Str.ofString "given") = false := by simpa using h2
          by_cases h3 : s = "first"
          · subst h3
            match r, lr with
            | [], _ => simp [jdf, oK, in_fs hs, in_mdb hs]
            | [y], ly =>
              have ly' := (layL_cons.mp ly).1
              simp only [hDL] at hf hq h' hl
              have ey := judged_ok f (d := y) (x := x) (Γ := Γ) (n := m) (q := q) (S := S) (by omega) hΓ ly' hg (by omega) (by omega) (by omega)
              cases hj : jdf f Γ y with
              | none => rw [hj] at ey; simp [jdf, hj, ey, oK, in_fs hs]
              | some u =>
                rw [hj] at ey
                have nu := is_non_kd (k := u) (S := S)
                simp only [oK] at ey
                cases u <;> simp only [Kd.d] at nu ey <;> simp [jdf, hj, ey, oK, in_fs hs, nu, fstK, Kd.d]
            | y :: z :: r, _ =>
              have n2 : ¬ ((r.length : Int) + 1 + 1 + 1 = 2) := by omega
              simp [jdf, oK, n2, in_fs hs, in_mdb hs]
          have s3 : (s == Str.ofString "first") = false := by simpa using h3
          by_cases h4 : s = "second"
          · subst h4
            match r, lr with
            | [], _ => simp [jdf, oK, in_fs hs, in_mdb hs]
            | [y], ly =>
              have ly' := (layL_cons.mp ly).1
              simp only [hDL] at hf hq h' hl
              have ey := judged_ok f (d := y) (x := x) (Γ := Γ) (n := m) (q := q) (S := S) (by omega) hΓ ly' hg (by omega) (by omega) (by omega)
              cases hj : jdf f Γ y with
              | none => rw [hj] at ey; simp [jdf, hj, ey, oK, in_fs hs]
              | some u =>
                rw [hj] at ey
                have nu := is_non_kd (k := u) (S := S)
                simp only [oK] at ey
                cases u <;> simp only [Kd.d] at nu ey <;> simp [jdf, hj, ey, oK, in_fs hs, nu, sndK, Kd.d]
            | y :: z :: r, _ =>
              have n2 : ¬ ((r.length : Int) + 1 + 1 + 1 = 2) := by omega
              simp [jdf, oK, n2, in_fs hs, in_mdb hs]
          have s4 : (s == Str.ofString "second") = false := by simpa using h4
          have efs := in_fs (S := S) hs
          have emd := in_mdb (S := S) hs
          rw [decide_eq_false h3, decide_eq_false h4] at efs
          by_cases h5 : s = "make"
          · subst h5
            match r, lr with
            | [], _ => simp [jdf, oK, efs, emd]
            | [y], _ => simp [jdf, oK, efs, emd]
            | [y, z], ly =>
              have ly' := (layL_cons.mp ly).1
              have lz' := (layL_cons.mp (layL_cons.mp ly).2).1
              simp only [hDL] at hf hq h' hl
              have ek := goodk_ok (hD y) (d := y) (n := m) (S := S) (Nat.le_refl _) ly' (by omega)
              cases hk : toK y with
              | none =>
                rw [toK_no hk] at ek
                simp [jdf, hk, oK, efs, emd, ek]
              | some A =>
                rw [toK_is hk] at ek
                have ea := toK_some hk
                subst ea
                have eh := hD_kd A
                have ga := hg.add A (by omega)
                have ei := judged_ok f (d := z) (x := .lst ((Γ ++ [A]).map Kd.d)) (Γ := Γ ++ [A]) (n := m) (q := max q A.dep) (S := S) (by omega) (fun X hX => by
                  rcases List.mem_append.mp hX with hX | hX
                  · have := hΓ X hX; omega
                  · have : X = A := by simpa using hX
                    rw [this]; omega) lz' .lst (by omega) (by omega) (by simp; omega)
                simp only [List.map_append, List.map_cons, List.map_nil] at ei ga
                cases hb : jdf f (Γ ++ [A]) z with
                | none =>
                  rw [hb] at ei
                  simp [jdf, hk, hb, oK, efs, emd, ek, ga, ei, h8]
                | some B =>
                  rw [hb] at ei
                  have nb := is_non_kd (k := B) (S := S)
                  have nb' : gIs true B.d .non S = .ok (.bl true) S := by
                    obtain ⟨ds, hds⟩ := Kd.d_tup B
                    rw [hds]; rfl
                  simp only [oK] at ei
                  simp [jdf, hk, hb, oK, efs, emd, ek, ga, ei, h8, nb', Kd.d]
            | y :: z :: u :: r, _ =>
              have n2 : ¬ ((r.length : Int) + 1 + 1 + 1 + 1 = 3) := by omega
              simp [jdf, oK, n2, efs, emd]
          have s5 : (s == Str.ofString "make") = false := by simpa using h5
          by_cases h6 : s = "do"
          · subst h6
            match r, lr with
            | [], _ => simp [jdf, oK, efs, emd]
            | [y], _ => simp [jdf, oK, efs, emd]
            | [y, z], ly =>
              have ly' := (layL_cons.mp ly).1
              have lz' := (layL_cons.mp (layL_cons.mp ly).2).1
              simp only [hDL] at hf hq h' hl
              have e1 := judged_ok f (d := y) (x := x) (Γ := Γ) (n := m) (q := q) (S := S) (by omega) hΓ ly' hg (by omega) (by omega) (by omega)
              have e2 := judged_ok f (d := z) (x := x) (Γ := Γ) (n := m) (q := q) (S := S) (by omega) hΓ lz' hg (by omega) (by omega) (by omega)
              cases hj : jdf f Γ y with
              | none =>
                rw [hj] at e1
                simp [jdf, hj, e1, e2, oK, efs, emd]
              | some u =>
                rw [hj] at e1
                have nu := is_non_kd (k := u) (S := S)
                have du := jdf_dep f hΓ hj
                cases hj2 : jdf f Γ z with
                | none =>
                  rw [hj2] at e2
                  simp only [oK] at e1 e2
                  simp [jdf, hj, hj2, e1, e2, oK, efs, emd, nu]
                | some v =>
                  rw [hj2] at e2
                  have nv := is_non_kd (k := v) (S := S)
                  simp only [oK] at e1 e2
                  cases u with
                  | base i => simp only [Kd.d] at nu e1; simp [jdf, hj, hj2, e1, e2, oK, efs, emd, nu, nv, appK, h8, ixm1, ixm2, ixm3]
                  | unit => simp only [Kd.d] at nu e1; simp [jdf, hj, hj2, e1, e2, oK, efs, emd, nu, nv, appK, h8, ixm1, ixm2, ixm3]
                  | both A B => simp only [Kd.d] at nu e1; simp [jdf, hj, hj2, e1, e2, oK, efs, emd, nu, nv, appK, h8, ixm1, ixm2, ixm3]
                  | frm A B =>
                    simp only [Kd.dep] at du
                    have ee := Kd.gEq_d (a := A) (b := v) (S := S) (by omega)
                    simp only [Kd.d] at nu e1
                    by_cases hA : A = v
                    · subst hA
                      simp only [decide_true] at ee
                      simp [jdf, hj, hj2, e1, e2, oK, efs, emd, nu, nv, appK, h8, ee, ixm3]
                    · rw [decide_eq_false hA] at ee
                      simp [jdf, hj, hj2, e1, e2, oK, efs, emd, nu, nv, appK, h8, ee, hA, ixm3]
            | y :: z :: u :: r, _ =>
              have n2 : ¬ ((r.length : Int) + 1 + 1 + 1 + 1 = 3) := by omega
              simp [jdf, oK, n2, efs, emd]
          have s6 : (s == Str.ofString "do") = false := by simpa using h6
          by_cases h7 : s = "both"
          · subst h7
            match r, lr with
            | [], _ => simp [jdf, oK, efs, emd]
            | [y], _ => simp [jdf, oK, efs, emd]
            | [y, z], ly =>
              have ly' := (layL_cons.mp ly).1
              have lz' := (layL_cons.mp (layL_cons.mp ly).2).1
              simp only [hDL] at hf hq h' hl
              have e1 := judged_ok f (d := y) (x := x) (Γ := Γ) (n := m) (q := q) (S := S) (by omega) hΓ ly' hg (by omega) (by omega) (by omega)
              have e2 := judged_ok f (d := z) (x := x) (Γ := Γ) (n := m) (q := q) (S := S) (by omega) hΓ lz' hg (by omega) (by omega) (by omega)
              cases hj : jdf f Γ y with
              | none =>
                rw [hj] at e1
                simp [jdf, hj, e1, e2, oK, efs, emd]
              | some u =>
                rw [hj] at e1
                have nu := is_non_kd (k := u) (S := S)
                cases hj2 : jdf f Γ z with
                | none =>
                  rw [hj2] at e2
                  simp only [oK] at e1 e2
                  simp [jdf, hj, hj2, e1, e2, oK, efs, emd, nu]
                | some v =>
                  rw [hj2] at e2
                  have nv := is_non_kd (k := v) (S := S)
                  simp only [oK] at e1 e2
                  simp [jdf, hj, hj2, e1, e2, oK, efs, emd, nu, nv, h8, Kd.d]
            | y :: z :: u :: r, _ =>
              have n2 : ¬ ((r.length : Int) + 1 + 1 + 1 + 1 = 3) := by omega
              simp [jdf, oK, n2, efs, emd]
          have s7 : (s == Str.ofString "both") = false := by simpa using h7
          rw [decide_eq_false h5, decide_eq_false h6, decide_eq_false h7] at emd
          have ej : jdf (f + 1) Γ (.tup (.str s :: r)) = none := by
            unfold jdf
            rw [if_neg h1, if_neg h2, if_neg h5, if_neg h6, if_neg h7, if_neg h3, if_neg h4]
          rw [ej]
          generalize ((r.length : Nat) : Int) = V at *
          by_cases hL : ((List.length r : Int) + 1 = 3) <;> simp [oK, s1, s2, efs, emd, hL]
        · have ea := isi_nostr (S := S) la (fun s e => hs ⟨s, e⟩)
          have ej : jdf (f + 1) Γ (.tup (a :: r)) = none := by
            unfold jdf
            split
            · rename_i q; cases q
            · rename_i q1 q2; cases q2; exact absurd ⟨_, rfl⟩ hs
            · rfl
          simp [ea, ej, oK]
    · have et := isi_notup (S := S) l (fun ds e => ht ⟨ds, e⟩)
      have ej : jdf (f + 1) Γ d = none := by
        unfold jdf
        split
        · rename_i q; cases q
        · exact absurd ⟨_, rfl⟩ ht
        · rfl
      simp [et, ej, oK]
end Kz

namespace Kz
open PySem PySem.Spec PyProof.Rows L2 Kw
/-! the givens looked at, the kind told, what is due -/
/-- a list, made or under way -/
def Ls (S : Store) (x : D) (ds : List D) : Prop := x = .lst ds ∨ ∃ c, x = .loc c ∧ S[c]? = some (.lst ds)
theorem Gv.ls {S : Store} {x : D} {Γ : List Kd} (h : Gv S x Γ) : Ls S x (Γ.map Kd.d) := h
theorem Ls.it {S : Store} {x : D} {ds : List D} (h : Ls S x ds) : ∃ gg, itL x S = .ok (ds, gg) S ∧ gd gg S := by
  rcases h with rfl | ⟨c, rfl, h⟩
  · exact ⟨none, rfl, by unfold gd; trivial⟩
  · refine ⟨some (c, ds), ?_, ?_⟩
    · simp [itL, iSeq, Kw.cellOf, h]
    · simp [gd, Kw.cellOf, h]
theorem Ls.isi {S : Store} {x : D} {ds : List D} (h : Ls S x ds) : isiR "list" x S = .ok (.bl true) S := by
  rcases h with rfl | ⟨c, rfl, h⟩
  · rfl
  · simp [isiR, tyD, Kw.cellOf, h, isiB]
theorem sgiven_gen {n : Nat} {ds : List D} {x : D} {S : Store} (hx : Ls S x ds) (l : layL ds) (hd : ∀ d ∈ ds, nd d ≤ 8000000) (hl : ds.length ≤ 10000) (hn : 5 ≤ n) : ev n .f_sure_given [x] S = if ds.all isK then .ok .non S else .ex ⟨"NoKind", [], []⟩ S := by
  obtain ⟨m, rfl, h'⟩ := up (show 4 + 1 ≤ n by omega)
  obtain ⟨gg, eit, hgd⟩ := hx.it
  have eis := hx.isi
  have hc := compL_map (tg := gN 1) (tt := fYes) (te := fArg (ev m .f_is_kind) (fCons (fVar 1) fNil)) (ρ := [some x, none]) (S := S) (gg := gg) (fun d => .bl (isK d)) hgd ds [] (fun d hd' => by
    refine ⟨[some x, some d], by simp, rfl, ?_⟩
    simp [is_kind_gen (n := m) (d := d) (S := S) (by omega) (hd d hd') (mem_lay' l hd')]) (by have h8 : sizeLine = 16777216 := rfl; simp; omega)
  have e1 : ds.map (fun d => D.bl (isK d)) = (ds.map isK).map D.bl := by simp
  have e2 : gAll [.lst ((ds.map isK).map D.bl)] S = .ok (.bl (ds.all isK)) S := by
    rw [gAll_lst]
    congr 2
    rw [List.all_map]; rfl
  rw [e1, List.nil_append] at hc
  generalize (ds.map isK).map D.bl = Q at *
  rw [ev, b_sure_given]
  cases hk : ds.all isK with
  | true =>
    rw [hk] at e2
    simp [eis, eit, wipeR, hc, e2]
  | false =>
    rw [hk] at e2
    simp [eis, eit, wipeR, hc, e2]
theorem sgiven_no {n : Nat} {x : D} {S : Store} (hx : isiR "list" x S = .ok (.bl false) S) (hn : 1 ≤ n) : ev n .f_sure_given [x] S = .ex ⟨"NoKind", [], []⟩ S := by
  obtain ⟨m, rfl, h'⟩ := up (show 0 + 1 ≤ n by omega)
  rw [ev, b_sure_given]
  simp [hx]
theorem mthR_ls {g : D → List D → Store → RE D} {a : FA} {ρ : FEnv} {ds : List D} {S : Store} : mthR g a ρ (.lst ds) S = (a ρ S).bnd fun es S2 => g (.lst ds) es S2 := rfl
theorem cnt_t {S : Store} : gCnt (.lst [.bl true, .bl false, .bl false]) [.bl true] S = .ok (.int 1) S := by
  simp [gCnt, pyS, pySL, PyData.canLayAll0, PyData.canLay0, PyData.depthAll, PyData.depth, PyData.eqv]
theorem cnt_k {S : Store} : gCnt (.lst [.bl false, .bl true, .bl false]) [.bl true] S = .ok (.int 1) S := by
  simp [gCnt, pyS, pySL, PyData.canLayAll0, PyData.canLay0, PyData.depthAll, PyData.depth, PyData.eqv]
theorem idx_t {S : Store} : gIdx (.lst [.bl true, .bl false, .bl false]) [.bl true] S = .ok (.int 0) S := by
  simp [gIdx, pyS, pySL, SeqAt.shaped, PyData.eqv, List.findIdx?, List.findIdx?.go]
  decide +kernel
theorem idx_k {S : Store} : gIdx (.lst [.bl false, .bl true, .bl false]) [.bl true] S = .ok (.int 1) S := by
  simp [gIdx, pyS, pySL, SeqAt.shaped, PyData.eqv, List.findIdx?, List.findIdx?.go]
  decide +kernel
/-- what is told -/
def toldD : Option Kd → D
  | some k => k.d
  | none => .str "term"
theorem all_kd (Γ : List Kd) : (Γ.map Kd.d).all isK = true := by
  rw [List.all_eq_true]
  intro d hd
  obtain ⟨k, _, rfl⟩ := List.mem_map.mp hd
  exact isK_kd k
theorem layL_kds (Γ : List Kd) : layL (Γ.map Kd.d) := by
  induction Γ with
  | nil => rfl
  | cons k Γ ih => exact layL_cons.mpr ⟨lay_kd k, ih⟩
theorem told_ok {f : Nat} {d x : D} {Γ : List Kd} {n q : Nat} {S : Store} (hf : hD d < f) (hΓ : ∀ A ∈ Γ, A.dep ≤ q) (hz : ∀ A ∈ Γ, A.sz ≤ 2000000) (l : lay d) (hnd : nd d ≤ 8000000) (hg : Gv S x Γ) (hq : max q (hD d) + hD d ≤ 200) (hn : hD d + 8 ≤ n) (hl : Γ.length + hD d ≤ 10000) :
    ev n .f__law_told [d, x] S = .ok (toldD (jdf f Γ d)) S := by
  have h8 : sizeLine = 16777216 := rfl
  obtain ⟨m, rfl, h'⟩ := up (show (hD d + 7) + 1 ≤ n by omega)
  obtain ⟨m, rfl, h2⟩ := up (show (hD d + 6) + 1 ≤ m by omega)
  have es := sure_in_gen (f := f) (n := m) (S := S) hf hΓ l hnd hg hq (by omega) hl
  have eg := sgiven_gen (n := m) (S := S) hg.ls (layL_kds Γ) (fun d hd => by
    obtain ⟨k, hk, rfl⟩ := List.mem_map.mp hd
    have := nd_kd k
    have := hz k hk
    omega) (by simp; omega) (by omega)
  rw [all_kd, if_pos rfl] at eg
  rw [ev, b__law_told]
  cases hj : jdf f Γ d with
  | some k =>
    rw [hj] at es
    have et : ev (m + 1) .f_term_kind [d, x] S = .ok k.d S := by
      rw [ev, b_term_kind]
      simp [eg, es]
    simp [sTryAs_ap, et, toldD]
  | none =>
    rw [hj] at es
    have et : ev (m + 1) .f_term_kind [d, x] S = .ex ⟨"NoTerm", [], []⟩ S := by
      rw [ev, b_term_kind]
      simp [eg, es]
    have ht := tryR_ex (es := excs) (sub := fun y => isx y "SwapError") (i := 3) (y := "NoTerm") (ρ := [some d, some x, none, none, none]) (S := S) (r := .rt (.str "term") S) (c := fun y a => (sSeq (sSet 4 (fArg mkLst (fCons (fIsE a (isx y "NoTerm") (fVar 3)) (fCons (fIsE a (isx y "NoKind") (fVar 3)) (fCons (fIsE a (isx y "NoWorth") (fVar 3)) fNil))))) (sSeq (sIf (fB (f2 gNe (fMth gCnt (fVar 4) (fCons (fC (.bl true)) fNil)) (fC (.int 1)))) (sRet (fC (.str "other"))) sNil) (sRet (f2 gIx (fArg mkLst (fCons (fC (.str "term")) (fCons (fC (.str "kind")) (fCons (fC (.str "other")) fNil)))) (fMth gIdx (fVar 4) (fCons (fC (.bl true)) fNil))))))) (by decide) (by decide) (fun a => by
      have i1 : isx "NoTerm" "NoTerm" = true := by decide
      have i2 : isx "NoTerm" "NoKind" = false := by decide
      have i3 : isx "NoTerm" "NoWorth" = false := by decide
      simp [i1, i2, i3, h8, mthR_ls, cnt_t, idx_t])
    simp [sTryAs_ap, et, ht, toldD]
theorem told_bad {d x : D} {n : Nat} {S : Store} (he : ∀ m, 5 ≤ m → ev m .f_sure_given [x] S = .ex ⟨"NoKind", [], []⟩ S) (hn : 8 ≤ n) : ev n .f__law_told [d, x] S = .ok (.str "kind") S := by
  have h8 : sizeLine = 16777216 := rfl
  obtain ⟨m, rfl, h'⟩ := up (show 7 + 1 ≤ n by omega)
  obtain ⟨m, rfl, h2⟩ := up (show 6 + 1 ≤ m by omega)
  have eg := he m (by omega)
  rw [ev, b__law_told]
  have et : ev (m + 1) .f_term_kind [d, x] S = .ex ⟨"NoKind", [], []⟩ S := by
    rw [ev, b_term_kind]
    simp [eg]
  have ht := tryR_ex (es := excs) (sub := fun y => isx y "SwapError") (i := 3) (y := "NoKind") (ρ := [some d, some x, none, none, none]) (S := S) (r := .rt (.str "kind") S) (c := fun y a => (sSeq (sSet 4 (fArg mkLst (fCons (fIsE a (isx y "NoTerm") (fVar 3)) (fCons (fIsE a (isx y "NoKind") (fVar 3)) (fCons (fIsE a (isx y "NoWorth") (fVar 3)) fNil))))) (sSeq (sIf (fB (f2 gNe (fMth gCnt (fVar 4) (fCons (fC (.bl true)) fNil)) (fC (.int 1)))) (sRet (fC (.str "other"))) sNil) (sRet (f2 gIx (fArg mkLst (fCons (fC (.str "term")) (fCons (fC (.str "kind")) (fCons (fC (.str "other")) fNil)))) (fMth gIdx (fVar 4) (fCons (fC (.bl true)) fNil))))))) (by decide) (by decide) (fun a => by
    have i1 : isx "NoKind" "NoTerm" = false := by decide
    have i2 : isx "NoKind" "NoKind" = true := by decide
    have i3 : isx "NoKind" "NoWorth" = false := by decide
    simp [i1, i2, i3, h8, mthR_ls, cnt_k, idx_k])
  simp [sTryAs_ap, et, ht]
theorem due_ok {f : Nat} {d x : D} {Γ : List Kd} {n q : Nat} {S : Store} (hf : hD d < f) (hΓ : ∀ A ∈ Γ, A.dep ≤ q) (l : lay d) (hg : Gv S x Γ) (hq : max q (hD d) + hD d ≤ 200) (hn : hD d + 4 ≤ n) (hl : Γ.length + hD d ≤ 10000) :
    ev n .f__law_due [d, x] S = .ok (toldD (jdf f Γ d)) S := by
  have h8 : sizeLine = 16777216 := rfl
  obtain ⟨m, rfl, h'⟩ := up (show (hD d + 3) + 1 ≤ n by omega)
  have ej := judged_ok f (n := m) (S := S) hf hΓ l hg hq (by omega) hl
  rw [ev, b__law_due]
  cases hj : jdf f Γ d with
  | none =>
    rw [hj] at ej
    simp [ej, oK, toldD, h8]
  | some k =>
    rw [hj] at ej
    have nk : gIs true k.d .non S = .ok (.bl true) S := by
      obtain ⟨ds, hds⟩ := Kd.d_tup k
      rw [hds]; rfl
    simp only [oK] at ej
    simp [ej, toldD, h8, nk]
end Kz

namespace Kz
open PySem PySem.Spec PyProof.Rows L2 Kw
/-! one thing in it otherwise -/
theorem fiR2_k {f : FA} {ρ : FEnv} {S : Store} {i j : Int} (e : f ρ S = .ok [.int i, .int j] S) (h0 : 0 ≤ i) (h1 : i ≤ 1000000) (h2 : 0 ≤ j) (h3 : j ≤ 1000000) : fiR2 f ρ S = .ok (rngD i (j - i).toNat, none) S := by
  unfold fiR2
  rw [e]
  simp only [bnd_ok]
  rw [if_pos ⟨by omega, by omega, by omega, by omega⟩]
theorem layL_take {k : Nat} : ∀ {ds : List D}, layL ds → layL (ds.take k) := by
  intro ds h
  have h0 : layL (ds.take k ++ ds.drop k) := by rw [List.take_append_drop]; exact h
  exact (layL_app.mp h0).1
theorem layL_drop {k : Nat} : ∀ {ds : List D}, layL ds → layL (ds.drop k) := by
  intro ds h
  have h0 : layL (ds.take k ++ ds.drop k) := by rw [List.take_append_drop]; exact h
  exact (layL_app.mp h0).2
theorem hDL_app (as bs : List D) : hDL (as ++ bs) = max (hDL as) (hDL bs) := by
  induction as with
  | nil => simp [hDL]
  | cons a as ih => simp only [List.cons_append, hDL, ih]; omega
theorem hDL_take (k : Nat) (ds : List D) : hDL (ds.take k) ≤ hDL ds := by
  have h := hDL_app (ds.take k) (ds.drop k)
  rw [List.take_append_drop] at h; omega
theorem hDL_drop (k : Nat) (ds : List D) : hDL (ds.drop k) ≤ hDL ds := by
  have h := hDL_app (ds.take k) (ds.drop k)
  rw [List.take_append_drop] at h; omega
theorem ndL_take (k : Nat) (ds : List D) : ndL (ds.take k) + ndL (ds.drop k) = ndL ds := by
  have h := ndL_app (ds.take k) (ds.drop k)
  rw [List.take_append_drop] at h; omega
theorem arL_app {as bs : List D} : arL (as ++ bs) ↔ arL as ∧ arL bs := by
  induction as with
  | nil => simp [arL]
  | cons a as ih => simp only [List.cons_append, arL, ih, and_assoc]
theorem cut_to (ds : List D) (k : Nat) (h : k ≤ ds.length) : cutL ds none (some (k : Int)) = ds.take k := by
  unfold cutL
  rw [HT.sIx_none, HT.sIx_nat]
  simp [Nat.min_eq_left h]
theorem cut_from (ds : List D) (k : Nat) (h : k ≤ ds.length) : cutL ds (some (k : Int)) none = ds.drop k := by
  unfold cutL
  rw [HT.sIx_none, HT.sIx_nat, Nat.min_eq_left h]
  have e : (ds.drop k).length ≤ ds.length - k := by simp
  exact List.take_of_length_le e
theorem cut_m1 (ds : List D) : ∃ k, cutL ds none (some (-1)) = ds.take k := by
  unfold cutL
  rw [HT.sIx_none]
  exact ⟨_, by simp; rfl⟩
/-- what is known of an odd thing made of T -/
structure Od (T d : D) : Prop where
  lay : Kz.lay d
  dp : hD d ≤ hD T + 2
  nd : Kz.nd d ≤ 3 * Kz.nd T + 20
theorem odd_list {ds : List D} (l : layL ds) (g r : Int) (x : D) (hx : ∃ k, x = .tup (ds.take k)) : ∀ d ∈ ([.tup [.str "given", .int g], .tup [.str "given", .bl true], .tup [.str "given", .int (-1)], .tup [.str "given", .int r], .tup [.str "given"], .tup [],
    .non, .lst ds, .tup (ds ++ [.int 0]), x, .tup [.str "first", .tup ds], .tup [.str "second", .tup ds], .tup [.str "do", .tup ds, .tup ds],
    .tup [.str "do", .tup ds, .tup [.str "unit"]], .tup [.str "make", .tup [.str "base", .int 8], .tup ds], .tup [.str "make", .non, .tup ds], .tup [.str "unit", .int 0], .str "given", .int 0,
    .tup [.str "make", .tup [.str "unit"], .tup ds], .tup [.str "both", .tup ds, .tup ds], .tup [.str "base", .int 0], .tup [.tup ds], .tup [.str "given", .str "0"]] : List D), Od (.tup ds) d := by
  obtain ⟨k, rfl⟩ := hx
  have lt : layL (ds.take k) := layL_take l
  have ht := hDL_take k ds
  have nt := ndL_take k ds
  have la : layL (ds ++ [.int 0]) := layL_app.mpr ⟨l, rfl⟩
  have ha := hDL_app ds [.int 0]
  have na := ndL_app ds [.int 0]
  simp only [layL] at l lt la
  simp only [hDL, hD] at ha
  simp only [ndL, nd] at na
  intro d hd
  simp only [List.mem_cons, List.not_mem_nil, or_false] at hd
  rcases hd with rfl | rfl | rfl | rfl | rfl | rfl | rfl | rfl | rfl | rfl | rfl | rfl | rfl | rfl | rfl | rfl | rfl | rfl | rfl | rfl | rfl | rfl | rfl | rfl
  all_goals (refine ⟨by simp [lay, pl, plL, l, lt, la], ?_, ?_⟩ <;> simp only [hD, hDL, nd, ndL] <;> omega)
/-- the places of the tuples in it -/
def tpl (ds : List D) : List D := (rngD 1 (ds.length - 1)).filter fun d => match d with
  | .int i => isTp ((ds[i.toNat]?).getD .non)
  | _ => false
theorem tpl_mem {ds : List D} {d : D} (h : d ∈ tpl ds) : ∃ (k : Nat) (es : List D), d = .int (k : Int) ∧ 1 ≤ k ∧ k < ds.length ∧ ds[k]? = some (.tup es) := by
  unfold tpl at h
  obtain ⟨h1, h2⟩ := List.mem_filter.mp h
  obtain ⟨i, hi⟩ := List.getElem?_of_mem h1
  obtain ⟨l1, rfl⟩ := rngD_get _ _ _ _ hi
  have e : ((1 : Int) + (i : Int)) = ((i + 1 : Nat) : Int) := by omega
  rw [e] at h2 ⊢
  simp only [Int.toNat_natCast] at h2
  cases hd : ds[i + 1]? with
  | none => rw [hd] at h2; simp [isTp] at h2
  | some x =>
    rw [hd] at h2
    simp only [Option.getD_some] at h2
    match x, h2 with
    | .tup es, _ => exact ⟨i + 1, es, rfl, by omega, by omega, hd⟩
theorem odd_tuples {w r : Nat} {ds : List D} {Γ : List Kd} {S1 : Store} (l : layL ds) (hlen : ds.length ≤ 1000) : fLc false (fiR2 (fCons (fC (.int 1)) (fCons (fArg gLen (fCons (fVar 1) fNil)) fNil))) (gN 6) (fTru (fIsi "tuple" (f2 gIx (fVar 1) (fVar 6)))) (fVar 6) [6] [some (.loc w), some (.tup ds), some (.lst (Γ.map Kd.d)), some (.int (r : Int)), none, none, none] S1 = .ok (.lst (tpl ds)) S1 := by
  have hc := compL_fil (tg := gN 6) (tt := fTru (fIsi "tuple" (f2 gIx (fVar 1) (fVar 6)))) (te := fVar 6) (ρ := [some (.loc w), some (.tup ds), some (.lst (Γ.map Kd.d)), some (.int (r : Int)), none, none, none]) (S := S1) (fun d => match d with
    | .int i => isTp ((ds[i.toNat]?).getD .non)
    | _ => false) id (rngD 1 (ds.length - 1)) [] (fun d hd => by
    obtain ⟨i, hi⟩ := List.getElem?_of_mem hd
    obtain ⟨l1, rfl⟩ := rngD_get _ _ _ _ hi
    have e : ((1 : Int) + (i : Int)) = ((i + 1 : Nat) : Int) := by omega
    rw [e]
    have hlt : i + 1 < ds.length := by omega
    have hl1 : lay ds[i + 1] := mem_lay' l (List.getElem_mem hlt)
    have ei := isi_tp (S := S1) hl1
    have gi : gIx (.tup ds) (.int ((i + 1 : Nat) : Int)) S1 = .ok ds[i + 1] S1 := by
      show ixR ds ((i + 1 : Nat) : Int) S1 = _
      rw [ixR_nat, List.getElem?_eq_getElem hlt]
    refine ⟨[some (.loc w), some (.tup ds), some (.lst (Γ.map Kd.d)), some (.int (r : Int)), none, none, some (.int ((i + 1 : Nat) : Int))], by simp, ?_, fun _ => by simp⟩
    simp only [Int.toNat_natCast, List.getElem?_eq_getElem hlt, Option.getD_some]
    generalize ((i + 1 : Nat) : Int) = Z at *
    generalize D.lst (Γ.map Kd.d) = G at *
    simp [gi, ei]) (by have h8 : sizeLine = 16777216 := rfl; rw [rngD_len]; simp; omega)
  have etp : ((rngD 1 (ds.length - 1)).filter fun d => match d with
    | .int i => isTp ((ds[i.toNat]?).getD .non)
    | _ => false).map id = tpl ds := by rw [List.map_id]; rfl
  rw [etp, List.nil_append] at hc
  have hsrc : fiR2 (fCons (fC (.int 1)) (fCons (fArg gLen (fCons (fVar 1) fNil)) fNil)) [some (.loc w), some (.tup ds), some (.lst (Γ.map Kd.d)), some (.int (r : Int)), none, none, none] S1 = .ok (rngD 1 (ds.length - 1), none) S1 := by
    have e0 : fCons (fC (.int 1)) (fCons (fArg gLen (fCons (fVar 1) fNil)) fNil) [some (.loc w), some (.tup ds), some (.lst (Γ.map Kd.d)), some (.int (r : Int)), none, none, none] S1 = .ok [.int 1, .int (ds.length : Int)] S1 := by simp
    rw [fiR2_k e0 (by omega) (by omega) (by omega) (by omega)]
    have : ((ds.length : Int) - 1).toNat = ds.length - 1 := by omega
    rw [this]
  rw [fLc_ap, hsrc, bnd_ok]
  show lcR false (compL (gN 6) (fTru (fIsi "tuple" (f2 gIx (fVar 1) (fVar 6)))) (fVar 6) none [some (.loc w), some (.tup ds), some (.lst (Γ.map Kd.d)), some (.int (r : Int)), none, none, none] (rngD 1 (ds.length - 1)) [] S1) = _
  rw [hc]
  rfl
theorem odd_in {m w r : Nat} {ds : List D} {Γ : List Kd} {S S1 : Store} (hm : 2 ≤ m) (l : layL ds) (hlen : ds.length ≤ 1000) (e1' : ev m .f__law_draw [.loc w, .int 10] S = .ok (.int (r : Int)) S1) (w1 : WS S w S1) (hI : fLc false (fiR2 (fCons (fC (.int 1)) (fCons (fArg gLen (fCons (fVar 1) fNil)) fNil))) (gN 6) (fTru (fIsi "tuple" (f2 gIx (fVar 1) (fVar 6)))) (fVar 6) [6] [some (.loc w), some (.tup ds), some (.lst (Γ.map Kd.d)), some (.int (r : Int)), none, none, none] S1 = .ok (.lst (tpl ds)) S1) (hin : r < 6 ∧ tpl ds ≠ []) (ih : ∀ (es : List D) (S : Store), D.tup es ∈ ds → Well S w → ∃ d S', ev m .f__law_odd [.loc w, .tup es, .lst (Γ.map Kd.d)] S = .ok d S' ∧ Od (.tup es) d ∧ WS S w S') :
    ∃ d S', ev (m + 1) .f__law_odd [.loc w, .tup ds, .lst (Γ.map Kd.d)] S = .ok d S' ∧ Od (.tup ds) d ∧ WS S w S' := by
  have h8 : sizeLine = 16777216 := rfl
  have s1 : 1 ≤ sizeLine := by omega
  have lT : (tpl ds).length ≤ ds.length := by
    unfold tpl
    exact Nat.le_trans (List.length_filter_le _ _) (by rw [rngD_len]; omega)
  obtain ⟨i, S2, hi, e2, w2⟩ := draw_nat (n := m) (S := S1) (w := w) (V := (tpl ds).length) (by omega) w1.well (List.length_pos_iff.mpr hin.2) (by omega)
  obtain ⟨k, es, ek, k1, k2, k3⟩ := tpl_mem (List.getElem_mem hi)
  have hmem : D.tup es ∈ ds := List.mem_of_getElem? k3
  have hD1 := mem_hDL hmem
  simp only [hD] at hD1
  obtain ⟨d, S3, e3, od, w3⟩ := ih es S2 hmem w2.well
  have hdec : ds = ds.take k ++ .tup es :: ds.drop (k + 1) := by
    have h := (List.take_append_drop k ds).symm
    have h2 : ds.drop k = .tup es :: ds.drop (k + 1) := by
      rw [List.drop_eq_getElem_cons k2]
      have := List.getElem?_eq_getElem k2
      rw [k3] at this
      rw [← Option.some.inj this]
    rw [h2] at h; exact h
  have l1 : layL (ds.take k) := layL_take l
  have l2 : layL (ds.drop (k + 1)) := layL_drop l
  have c1 := cut_to ds k (by omega)
  have c2 := cut_from ds (k + 1) (by omega)
  have ek1 : ((k + 1 : Nat) : Int) = (k : Int) + 1 := by omega
  rw [ek1] at c2
  have gi1 : gIx (.lst (tpl ds)) (.int (i : Int)) S2 = .ok (.int (k : Int)) S2 := by
    show ixR (tpl ds) (i : Int) S2 = _
    rw [ixR_nat, List.getElem?_eq_getElem hi, ek]
  have gi2 : ixR ds (k : Int) S2 = .ok (.tup es) S2 := by
    rw [ixR_nat, k3]
  have gne : gNe (.lst (tpl ds)) (.lst []) S1 = .ok (.bl true) S1 := by
    rw [gNe_le]
    cases ht : tpl ds with
    | nil => exact absurd ht hin.2
    | cons a b => rfl
  have gl2 : gLen [.lst (tpl ds)] S1 = .ok (.int ((tpl ds).length : Int)) S1 := by simp
  have lr6 : (r : Int) < 6 := by omega
  have hz : (ds.take k).length + 1 ≤ sizeLine := by rw [h8]; simp; omega
  have hz2 : (ds.take k).length + 1 + (ds.drop (k + 1)).length ≤ sizeLine := by rw [h8]; simp; omega
  refine ⟨.tup (ds.take k ++ [d] ++ ds.drop (k + 1)), S3, ?_, ⟨?_, ?_, ?_⟩, (w1.trans w2).trans w3⟩
  · have hcond : (fAnd (fB (f2 (gCmp fun i j => decide (i < j)) (fVar 3) (fC (.int 6)))) (fB (f2 gNe (fVar 4) (fArg mkLst fNil)))) [some (.loc w), some (.tup ds), some (.lst (Γ.map Kd.d)), some (.int (r : Int)), some (.lst (tpl ds)), none, none] S1 = .ok true S1 := by
      generalize D.lst (Γ.map Kd.d) = G at *
      generalize D.lst (tpl ds) = TL at *
      generalize (r : Int) = Zr at *
      simp [lr6, gne]
    rw [ev, b__law_odd]
    generalize fLc false (fiR2 (fCons (fC (.int 1)) (fCons (fArg gLen (fCons (fVar 1) fNil)) fNil))) (gN 6) (fTru (fIsi "tuple" (f2 gIx (fVar 1) (fVar 6)))) (fVar 6) [6] = FI0 at *
    generalize D.lst (Γ.map Kd.d) = G at *
    generalize D.lst (tpl ds) = TL at *
    generalize ((tpl ds).length : Int) = ZL at *
    generalize (r : Int) = Zr at *
    generalize (i : Int) = Zi at *
    generalize (k : Int) = Zk at *
    generalize ds.take k = P at *
    generalize ds.drop (k + 1) = Q at *
    have hz3 : P.length + (Q.length + 1) ≤ sizeLine := by omega
    have q0 : (sSet 3 (fArg (ev m .f__law_draw) (fCons (fVar 0) (fCons (fC (.int 10)) fNil)))) [some (.loc w), some (.tup ds), some G, none, none, none, none] S = .nx [some (.loc w), some (.tup ds), some G, some (.int Zr), none, none, none] S1 := by simp [e1']
    have q1 : (sSet 4 FI0) [some (.loc w), some (.tup ds), some G, some (.int Zr), none, none, none] S1 = .nx [some (.loc w), some (.tup ds), some G, some (.int Zr), some TL, none, none] S1 := by simp [hI]
    have q2 : (sSeq (sSet 6 (f2 gIx (fVar 4) (fArg (ev m .f__law_draw) (fCons (fVar 0) (fCons (fArg gLen (fCons (fVar 4) fNil)) fNil))))) (sRet (f2 (gAdd false) (f2 (gAdd false) (fSl (gSl false) (fVar 1) fNone (fSome (fVar 6))) (fArg mkTup (fCons (fArg (ev m .f__law_odd) (fCons (fVar 0) (fCons (f2 gIx (fVar 1) (fVar 6)) (fCons (fVar 2) fNil)))) fNil))) (fSl (gSl false) (fVar 1) (fSome (f2 (gAdd false) (fVar 6) (fC (.int 1)))) fNone)))) [some (.loc w), some (.tup ds), some G, some (.int Zr), some TL, none, none] S1 = .rt (.tup (P ++ [d] ++ Q)) S3 := by
      simp [gl2, e2, gi1, gi2, e3, c1, c2, s1, hz, hz3]
    have hyes : ∀ (tc : FT) (f' g : FS) (ρ : FEnv), tc ρ S1 = .ok true S1 → sIf tc f' g ρ S1 = f' ρ S1 := fun tc f' g ρ h => by rw [sIf_ap, h]; rfl
    rw [fnB_3]
    show RS.fin (sSeq _ _ [some (.loc w), some (.tup ds), some G, none, none, none, none] S) = _
    rw [sSeq_ap, q0, sb_nx, sSeq_ap, q1, sb_nx, sSeq_ap, hyes _ _ _ _ hcond, q2, sb_rt, fin_rt]
  · show layL _
    exact layL_app.mpr ⟨layL_app.mpr ⟨l1, layL_cons.mpr ⟨od.lay, rfl⟩⟩, l2⟩
  · have q1 := od.dp
    have q2 := hDL_take k ds
    have q3 := hDL_drop (k + 1) ds
    simp only [hD, hDL_app, hDL] at q1 ⊢
    omega
  · have q1 := od.nd
    have q2 := congrArg ndL hdec
    rw [ndL_app] at q2
    simp only [ndL] at q2
    simp only [nd, ndL_app, ndL] at q1 q2 ⊢
    omega
theorem odd_out {m w r : Nat} {ds : List D} {Γ : List Kd} {S S1 : Store} (hm : 2 ≤ m) (l : layL ds) (hlen : ds.length ≤ 1000) (e1' : ev m .f__law_draw [.loc w, .int 10] S = .ok (.int (r : Int)) S1) (w1 : WS S w S1) (hI : fLc false (fiR2 (fCons (fC (.int 1)) (fCons (fArg gLen (fCons (fVar 1) fNil)) fNil))) (gN 6) (fTru (fIsi "tuple" (f2 gIx (fVar 1) (fVar 6)))) (fVar 6) [6] [some (.loc w), some (.tup ds), some (.lst (Γ.map Kd.d)), some (.int (r : Int)), none, none, none] S1 = .ok (.lst (tpl ds)) S1) (hin : ¬ (r < 6 ∧ tpl ds ≠ [])) :
    ∃ d S', ev (m + 1) .f__law_odd [.loc w, .tup ds, .lst (Γ.map Kd.d)] S = .ok d S' ∧ Od (.tup ds) d ∧ WS S w S' := by
  have h8 : sizeLine = 16777216 := rfl
  have s0 : 0 ≤ sizeLine := by omega
  have s1 : 1 ≤ sizeLine := by omega
  have s2 : 2 ≤ sizeLine := by omega
  have s3 : 3 ≤ sizeLine := by omega
  have s5 : 5 ≤ sizeLine := by omega
  have s6 : 6 ≤ sizeLine := by omega
  have s7 : 7 ≤ sizeLine := by omega
  have s13 : 13 ≤ sizeLine := by omega
  have s19 : 19 ≤ sizeLine := by omega
  have s24 : 24 ≤ sizeLine := by omega
  obtain ⟨v, S2, hv, e2, w2⟩ := draw_nat (n := m) (S := S1) (w := w) (V := 5) (by omega) w1.well (by omega) (by omega)
  have e2' : ev m .f__law_draw [.loc w, .int 5] S1 = .ok (.int (v : Int)) S2 := e2
  obtain ⟨i, S3, hi, e3, w3⟩ := draw_nat (n := m) (S := S2) (w := w) (V := 24) (by omega) w2.well (by omega) (by omega)
  have e3' : ev m .f__law_draw [.loc w, .int 24] S2 = .ok (.int (i : Int)) S3 := e3
  obtain ⟨k, hk⟩ := cut_m1 ds
  have ho := odd_list l ((Γ.length : Int) + 3) (v : Int) (.tup (cutL ds none (some (-1)))) ⟨k, by rw [hk]⟩
  have gl : gLen [.lst (Γ.map Kd.d)] S1 = .ok (.int (Γ.length : Int)) S1 := by simp
  have hcond : fAnd (fB (f2 (gCmp fun i j => decide (i < j)) (fVar 3) (fC (.int 6)))) (fB (f2 gNe (fVar 4) (fArg mkLst fNil))) [some (.loc w), some (.tup ds), some (.lst (Γ.map Kd.d)), some (.int (r : Int)), some (.lst (tpl ds)), none, none] S1 = .ok false S1 := by
    by_cases h6 : r < 6
    · have ht : tpl ds = [] := by
        cases ht : tpl ds with
        | nil => rfl
        | cons a b => exact absurd ⟨h6, by rw [ht]; simp⟩ hin
      have h6' : (r : Int) < 6 := by omega
      rw [ht]
      generalize (r : Int) = Zr at *
      generalize D.lst (Γ.map Kd.d) = G at *
      simp [h6', s0]
    · have h6' : ¬ (r : Int) < 6 := by omega
      generalize (r : Int) = Zr at *
      generalize D.lst (Γ.map Kd.d) = G at *
      simp [h6']
  have hlt : i < ([D.tup [.str "given", .int ((Γ.length : Int) + 3)], .tup [.str "given", .bl true], .tup [.str "given", .int (-1)], .tup [.str "given", .int (v : Int)], .tup [.str "given"], .tup [],
.non, .lst ds, .tup (ds ++ [.int 0]), .tup (cutL ds none (some (-1))), .tup [.str "first", .tup ds], .tup [.str "second", .tup ds], .tup [.str "do", .tup ds, .tup ds],
.tup [.str "do", .tup ds, .tup [.str "unit"]], .tup [.str "make", .tup [.str "base", .int 8], .tup ds], .tup [.str "make", .non, .tup ds], .tup [.str "unit", .int 0], .str "given", .int 0,
.tup [.str "make", .tup [.str "unit"], .tup ds], .tup [.str "both", .tup ds, .tup ds], .tup [.str "base", .int 0], .tup [.tup ds], .tup [.str "given", .str "0"]] : List D).length := hi
  refine ⟨_, S3, ?_, ho _ (List.getElem_mem hlt), (w1.trans w2).trans w3⟩
  have gix := ixR_nat (S := S3) (ds := ([D.tup [.str "given", .int ((Γ.length : Int) + 3)], .tup [.str "given", .bl true], .tup [.str "given", .int (-1)], .tup [.str "given", .int (v : Int)], .tup [.str "given"], .tup [],
.non, .lst ds, .tup (ds ++ [.int 0]), .tup (cutL ds none (some (-1))), .tup [.str "first", .tup ds], .tup [.str "second", .tup ds], .tup [.str "do", .tup ds, .tup ds],
.tup [.str "do", .tup ds, .tup [.str "unit"]], .tup [.str "make", .tup [.str "base", .int 8], .tup ds], .tup [.str "make", .non, .tup ds], .tup [.str "unit", .int 0], .str "given", .int 0,
.tup [.str "make", .tup [.str "unit"], .tup ds], .tup [.str "both", .tup ds, .tup ds], .tup [.str "base", .int 0], .tup [.tup ds], .tup [.str "given", .str "0"]] : List D)) (n := i)
  rw [List.getElem?_eq_getElem hlt] at gix
  have hz : ds.length + 1 ≤ sizeLine := by omega
  generalize hR : ([D.tup [.str "given", .int ((Γ.length : Int) + 3)], .tup [.str "given", .bl true], .tup [.str "given", .int (-1)], .tup [.str "given", .int (v : Int)], .tup [.str "given"], .tup [],
.non, .lst ds, .tup (ds ++ [.int 0]), .tup (cutL ds none (some (-1))), .tup [.str "first", .tup ds], .tup [.str "second", .tup ds], .tup [.str "do", .tup ds, .tup ds],
.tup [.str "do", .tup ds, .tup [.str "unit"]], .tup [.str "make", .tup [.str "base", .int 8], .tup ds], .tup [.str "make", .non, .tup ds], .tup [.str "unit", .int 0], .str "given", .int 0,
.tup [.str "make", .tup [.str "unit"], .tup ds], .tup [.str "both", .tup ds, .tup ds], .tup [.str "base", .int 0], .tup [.tup ds], .tup [.str "given", .str "0"]] : List D)[i] = R at *
  rw [ev, b__law_odd]
  generalize fLc false (fiR2 (fCons (fC (.int 1)) (fCons (fArg gLen (fCons (fVar 1) fNil)) fNil))) (gN 6) (fTru (fIsi "tuple" (f2 gIx (fVar 1) (fVar 6)))) (fVar 6) [6] = FI0 at *
  generalize fAnd (fB (f2 (gCmp fun i j => decide (i < j)) (fVar 3) (fC (.int 6)))) (fB (f2 gNe (fVar 4) (fArg mkLst fNil))) = FA0 at *
  generalize D.lst (Γ.map Kd.d) = G at *
  generalize D.lst (tpl ds) = TL at *
  generalize (Γ.length : Int) = ZL at *
  generalize (r : Int) = Zr at *
  generalize (i : Int) = Zi at *
  generalize (v : Int) = Zv at *
  have q0 : (sSet 3 (fArg (ev m .f__law_draw) (fCons (fVar 0) (fCons (fC (.int 10)) fNil)))) [some (.loc w), some (.tup ds), some G, none, none, none, none] S = .nx [some (.loc w), some (.tup ds), some G, some (.int Zr), none, none, none] S1 := by simp [e1']
  have q1 : (sSet 4 FI0) [some (.loc w), some (.tup ds), some G, some (.int Zr), none, none, none] S1 = .nx [some (.loc w), some (.tup ds), some G, some (.int Zr), some TL, none, none] S1 := by simp [hI]
  have q3 : (sSet 5 (fArg mkLst (fCons (fArg mkTup (fCons (fC (.str "given")) (fCons (f2 (gAdd false) (fArg gLen (fCons (fVar 2) fNil)) (fC (.int 3))) fNil))) (fCons (fArg mkTup (fCons (fC (.str "given")) (fCons (fC (.bl true)) fNil))) (fCons (fArg mkTup (fCons (fC (.str "given")) (fCons (f1 gNeg (fC (.int 1))) fNil))) (fCons (fArg mkTup (fCons (fC (.str "given")) (fCons (fArg (ev m .f__law_draw) (fCons (fVar 0) (fCons (fC (.int 5)) fNil))) fNil))) (fCons (fArg mkTup (fCons (fC (.str "given")) fNil)) (fCons (fArg mkTup fNil) fNil)))))))) [some (.loc w), some (.tup ds), some G, some (.int Zr), some TL, none, none] S1 = .nx [some (.loc w), some (.tup ds), some G, some (.int Zr), some TL, some (.lst [D.tup [.str "given", .int (ZL + 3)], D.tup [.str "given", .bl true], D.tup [.str "given", .int (-1)], D.tup [.str "given", .int Zv], D.tup [.str "given"], D.tup []]), none] S2 := by simp [gl, e2', s0, s1, s2, s3, s5, s6, s7, s13, s19, s24]
  have q4 : (sSet 5 (f2 (gAdd false) (fVar 5) (fArg mkLst (fCons (fC .non) (fCons (fArg (gList false) (fCons (fVar 1) fNil)) (fCons (f2 (gAdd false) (fVar 1) (fArg mkTup (fCons (fC (.int 0)) fNil))) (fCons (fSl (gSl false) (fVar 1) fNone (fSome (f1 gNeg (fC (.int 1))))) (fCons (fArg mkTup (fCons (fC (.str "first")) (fCons (fVar 1) fNil))) (fCons (fArg mkTup (fCons (fC (.str "second")) (fCons (fVar 1) fNil))) (fCons (fArg mkTup (fCons (fC (.str "do")) (fCons (fVar 1) (fCons (fVar 1) fNil)))) fNil)))))))))) [some (.loc w), some (.tup ds), some G, some (.int Zr), some TL, some (.lst [D.tup [.str "given", .int (ZL + 3)], D.tup [.str "given", .bl true], D.tup [.str "given", .int (-1)], D.tup [.str "given", .int Zv], D.tup [.str "given"], D.tup []]), none] S2 = .nx [some (.loc w), some (.tup ds), some G, some (.int Zr), some TL, some (.lst [D.tup [.str "given", .int (ZL + 3)], D.tup [.str "given", .bl true], D.tup [.str "given", .int (-1)], D.tup [.str "given", .int Zv], D.tup [.str "given"], D.tup [], D.non, D.lst ds, D.tup (ds ++ [.int 0]), D.tup (cutL ds none (some (-1))), D.tup [.str "first", .tup ds], D.tup [.str "second", .tup ds], D.tup [.str "do", .tup ds, .tup ds]]), none] S2 := by simp [s0, s1, s2, s3, s5, s6, s7, s13, s19, s24, hz]
  have q5 : (sSet 5 (f2 (gAdd false) (fVar 5) (fArg mkLst (fCons (fArg mkTup (fCons (fC (.str "do")) (fCons (fVar 1) (fCons (fArg mkTup (fCons (fC (.str "unit")) fNil)) fNil)))) (fCons (fArg mkTup (fCons (fC (.str "make")) (fCons (fArg mkTup (fCons (fC (.str "base")) (fCons (fC (.int 8)) fNil))) (fCons (fVar 1) fNil)))) (fCons (fArg mkTup (fCons (fC (.str "make")) (fCons (fC .non) (fCons (fVar 1) fNil)))) (fCons (fArg mkTup (fCons (fC (.str "unit")) (fCons (fC (.int 0)) fNil))) (fCons (fC (.str "given")) (fCons (fC (.int 0)) fNil))))))))) [some (.loc w), some (.tup ds), some G, some (.int Zr), some TL, some (.lst [D.tup [.str "given", .int (ZL + 3)], D.tup [.str "given", .bl true], D.tup [.str "given", .int (-1)], D.tup [.str "given", .int Zv], D.tup [.str "given"], D.tup [], D.non, D.lst ds, D.tup (ds ++ [.int 0]), D.tup (cutL ds none (some (-1))), D.tup [.str "first", .tup ds], D.tup [.str "second", .tup ds], D.tup [.str "do", .tup ds, .tup ds]]), none] S2 = .nx [some (.loc w), some (.tup ds), some G, some (.int Zr), some TL, some (.lst [D.tup [.str "given", .int (ZL + 3)], D.tup [.str "given", .bl true], D.tup [.str "given", .int (-1)], D.tup [.str "given", .int Zv], D.tup [.str "given"], D.tup [], D.non, D.lst ds, D.tup (ds ++ [.int 0]), D.tup (cutL ds none (some (-1))), D.tup [.str "first", .tup ds], D.tup [.str "second", .tup ds], D.tup [.str "do", .tup ds, .tup ds], D.tup [.str "do", .tup ds, .tup [.str "unit"]], D.tup [.str "make", .tup [.str "base", .int 8], .tup ds], D.tup [.str "make", .non, .tup ds], D.tup [.str "unit", .int 0], D.str "given", D.int 0]), none] S2 := by simp [s0, s1, s2, s3, s5, s6, s7, s13, s19, s24]
  have q6 : (sSet 5 (f2 (gAdd false) (fVar 5) (fArg mkLst (fCons (fArg mkTup (fCons (fC (.str "make")) (fCons (fArg mkTup (fCons (fC (.str "unit")) fNil)) (fCons (fVar 1) fNil)))) (fCons (fArg mkTup (fCons (fC (.str "both")) (fCons (fVar 1) (fCons (fVar 1) fNil)))) (fCons (fArg mkTup (fCons (fC (.str "base")) (fCons (fC (.int 0)) fNil))) (fCons (fArg mkTup (fCons (fVar 1) fNil)) (fCons (fArg mkTup (fCons (fC (.str "given")) (fCons (fC (.str "0")) fNil))) fNil)))))))) [some (.loc w), some (.tup ds), some G, some (.int Zr), some TL, some (.lst [D.tup [.str "given", .int (ZL + 3)], D.tup [.str "given", .bl true], D.tup [.str "given", .int (-1)], D.tup [.str "given", .int Zv], D.tup [.str "given"], D.tup [], D.non, D.lst ds, D.tup (ds ++ [.int 0]), D.tup (cutL ds none (some (-1))), D.tup [.str "first", .tup ds], D.tup [.str "second", .tup ds], D.tup [.str "do", .tup ds, .tup ds], D.tup [.str "do", .tup ds, .tup [.str "unit"]], D.tup [.str "make", .tup [.str "base", .int 8], .tup ds], D.tup [.str "make", .non, .tup ds], D.tup [.str "unit", .int 0], D.str "given", D.int 0]), none] S2 = .nx [some (.loc w), some (.tup ds), some G, some (.int Zr), some TL, some (.lst [D.tup [.str "given", .int (ZL + 3)], D.tup [.str "given", .bl true], D.tup [.str "given", .int (-1)], D.tup [.str "given", .int Zv], D.tup [.str "given"], D.tup [], D.non, D.lst ds, D.tup (ds ++ [.int 0]), D.tup (cutL ds none (some (-1))), D.tup [.str "first", .tup ds], D.tup [.str "second", .tup ds], D.tup [.str "do", .tup ds, .tup ds], D.tup [.str "do", .tup ds, .tup [.str "unit"]], D.tup [.str "make", .tup [.str "base", .int 8], .tup ds], D.tup [.str "make", .non, .tup ds], D.tup [.str "unit", .int 0], D.str "given", D.int 0, D.tup [.str "make", .tup [.str "unit"], .tup ds], D.tup [.str "both", .tup ds, .tup ds], D.tup [.str "base", .int 0], D.tup [.tup ds], D.tup [.str "given", .str "0"]]), none] S2 := by simp [s0, s1, s2, s3, s5, s6, s7, s13, s19, s24]
  have q7 : (sRet (f2 gIx (fVar 5) (fArg (ev m .f__law_draw) (fCons (fVar 0) (fCons (fArg gLen (fCons (fVar 5) fNil)) fNil))))) [some (.loc w), some (.tup ds), some G, some (.int Zr), some TL, some (.lst [D.tup [.str "given", .int (ZL + 3)], D.tup [.str "given", .bl true], D.tup [.str "given", .int (-1)], D.tup [.str "given", .int Zv], D.tup [.str "given"], D.tup [], D.non, D.lst ds, D.tup (ds ++ [.int 0]), D.tup (cutL ds none (some (-1))), D.tup [.str "first", .tup ds], D.tup [.str "second", .tup ds], D.tup [.str "do", .tup ds, .tup ds], D.tup [.str "do", .tup ds, .tup [.str "unit"]], D.tup [.str "make", .tup [.str "base", .int 8], .tup ds], D.tup [.str "make", .non, .tup ds], D.tup [.str "unit", .int 0], D.str "given", D.int 0, D.tup [.str "make", .tup [.str "unit"], .tup ds], D.tup [.str "both", .tup ds, .tup ds], D.tup [.str "base", .int 0], D.tup [.tup ds], D.tup [.str "given", .str "0"]]), none] S2 = .rt R S3 := by simp [e3', gix]
  have hno : ∀ (tc : FT) (f' g : FS) (ρ : FEnv), tc ρ S1 = .ok false S1 → sIf tc f' g ρ S1 = g ρ S1 := fun tc f' g ρ h => by rw [sIf_ap, h]; rfl
  rw [fnB_3]
  show RS.fin (sSeq _ _ [some (.loc w), some (.tup ds), some G, none, none, none, none] S) = _
  rw [sSeq_ap, q0, sb_nx, sSeq_ap, q1, sb_nx, sSeq_ap, hno _ _ _ _ hcond, sNil_ap, sb_nx, sSeq_ap, q3, sb_nx, sSeq_ap, q4, sb_nx, sSeq_ap, q5, sb_nx, sSeq_ap, q6, sb_nx, q7, fin_rt]
theorem odd_sp : ∀ (N : Nat) {ds : List D} {n w : Nat} {Γ : List Kd} {S : Store}, hDL ds ≤ N → layL ds → ar (.tup ds) → Γ.length ≤ 5000 → N + 3 ≤ n → Well S w → ∃ d S', ev n .f__law_odd [.loc w, .tup ds, .lst (Γ.map Kd.d)] S = .ok d S' ∧ Od (.tup ds) d ∧ WS S w S'
  | N, ds, n, w, Γ, S, hN, l, ha, hl, hn, hw => by
    obtain ⟨m, rfl, h'⟩ := up (show N + 2 + 1 ≤ n by omega)
    obtain ⟨r, S1, hr, e1, w1⟩ := draw_nat (n := m) (S := S) (w := w) (V := 10) (by omega) hw (by omega) (by omega)
    have hI := odd_tuples (w := w) (r := r) (Γ := Γ) (S1 := S1) l ha.1
    by_cases hin : r < 6 ∧ tpl ds ≠ []
    · refine odd_in (by omega) l ha.1 e1 w1 hI hin fun es S' hm hw' => ?_
      have hD1 := mem_hDL hm
      simp only [hD] at hD1
      have hlt : N - 1 < N := by omega
      exact odd_sp (N - 1) (by omega) (lay_tup (mem_lay' l hm)) (mem_ar ha.2 hm) hl (by omega) hw'
    · exact odd_out (by omega) l ha.1 e1 w1 hI hin
termination_by N => N
end Kz

namespace Kz
open PySem PySem.Spec PyProof.Rows L2 Kw
/-! deep terms, long terms -/
theorem jdf_tm : ∀ (t : Tm) {f : Nat} {Γ : List Kd}, t.ht < f → jdf f Γ t.d = tkd Γ t
  | .giv k, f, Γ, h => by
    obtain ⟨g, rfl⟩ : ∃ g, f = g + 1 := ⟨f - 1, by omega⟩
    simp [jdf, Tm.d, tkd]
  | .unit, f, Γ, h => by
    obtain ⟨g, rfl⟩ : ∃ g, f = g + 1 := ⟨f - 1, by omega⟩
    simp [jdf, Tm.d, tkd]
  | .mk A b, f, Γ, h => by
    obtain ⟨g, rfl⟩ : ∃ g, f = g + 1 := ⟨f - 1, by omega⟩
    simp only [Tm.ht] at h
    have ib := jdf_tm b (f := g) (Γ := Γ ++ [A]) (by omega)
    simp [jdf, Tm.d, tkd, toK_kd, ib]
  | .app a b, f, Γ, h => by
    obtain ⟨g, rfl⟩ : ∃ g, f = g + 1 := ⟨f - 1, by omega⟩
    simp only [Tm.ht] at h
    have ia := jdf_tm a (f := g) (Γ := Γ) (by omega)
    have ib := jdf_tm b (f := g) (Γ := Γ) (by omega)
    simp [jdf, Tm.d, tkd, ia, ib]
    rfl
  | .both a b, f, Γ, h => by
    obtain ⟨g, rfl⟩ : ∃ g, f = g + 1 := ⟨f - 1, by omega⟩
    simp only [Tm.ht] at h
    have ia := jdf_tm a (f := g) (Γ := Γ) (by omega)
    have ib := jdf_tm b (f := g) (Γ := Γ) (by omega)
    simp [jdf, Tm.d, tkd, ia, ib]
  | .fst a, f, Γ, h => by
    obtain ⟨g, rfl⟩ : ∃ g, f = g + 1 := ⟨f - 1, by omega⟩
    simp only [Tm.ht] at h
    have ia := jdf_tm a (f := g) (Γ := Γ) (by omega)
    simp [jdf, Tm.d, tkd, ia]
    rfl
  | .snd a, f, Γ, h => by
    obtain ⟨g, rfl⟩ : ∃ g, f = g + 1 := ⟨f - 1, by omega⟩
    simp only [Tm.ht] at h
    have ia := jdf_tm a (f := g) (Γ := Γ) (by omega)
    simp [jdf, Tm.d, tkd, ia]
    rfl
theorem nd_ups (p : Nat) : ∀ t : Tm, nd (t.ups p).d = nd t.d
  | .giv k => by simp [Tm.ups, Tm.d, nd, ndL]
  | .unit => rfl
  | .mk A b => by simp [Tm.ups, Tm.d, nd, ndL, nd_ups p b]
  | .app a b => by simp [Tm.ups, Tm.d, nd, ndL, nd_ups p a, nd_ups p b]
  | .both a b => by simp [Tm.ups, Tm.d, nd, ndL, nd_ups p a, nd_ups p b]
  | .fst a => by simp [Tm.ups, Tm.d, nd, ndL, nd_ups p a]
  | .snd a => by simp [Tm.ups, Tm.d, nd, ndL, nd_ups p a]
theorem deep_loop {m w : Nat} {Γ : List Kd} {i : Fin 8} (hl : Γ.length ≤ 100) : ∀ (j : Nat) (lo : Int) (t : Tm) (S : Store) (x4 x5 : Option D), tkd Γ t = some (.base i) → kdsT 2 t → t.ht + 2 * j + 2 ≤ m → Well S w → ∃ (t' : Tm) (y4 y5 : Option D) (S' : Store), forL (gN 4) (l__law_deep_0 (ev m)) none (rngD lo j) [some (.loc w), some t.d, some (Kd.base i).d, some (.lst (Γ.map Kd.d)), x4, x5] S = .nx [some (.loc w), some t'.d, some (Kd.base i).d, some (.lst (Γ.map Kd.d)), y4, y5] S' ∧ tkd Γ t' = some (.base i) ∧ kdsT 2 t' ∧ t'.ht ≤ t.ht + 2 * j ∧ nd t'.d ≤ nd t.d + 10 * j ∧ WS S w S'
  | 0, lo, t, S, x4, x5, hk, hkd, hm, hw => ⟨t, x4, x5, S, by simp [rngD], hk, hkd, by omega, by omega, WS.refl hw⟩
  | j + 1, lo, t, S, x4, x5, hk, hkd, hm, hw => by
    have h8 : sizeLine = 16777216 := rfl
    have s1 : 1 ≤ sizeLine := by omega
    have s2 : 2 ≤ sizeLine := by omega
    have s3 : 3 ≤ sizeLine := by omega
    obtain ⟨r, S1, hr, e1, w1⟩ := draw_nat (n := m) (S := S) (w := w) (V := 4) (by omega) hw (by omega) (by omega)
    have e1' : ev m .f__law_draw [.loc w, .int 4] S = .ok (.int (r : Int)) S1 := e1
    have el := llift_ok (q := Γ.length) t (n := m) (S := S1) (by omega)
    have gl : gLen [.lst (Γ.map Kd.d)] S1 = .ok (.int (Γ.length : Int)) S1 := by simp
    have hup := tkd_ups Γ .unit t []
    rw [List.append_nil, hk] at hup
    obtain ⟨t1, q1, q2, q3, q4, q5⟩ : ∃ t1 : Tm, l__law_deep_0 (ev m) [some (.loc w), some t.d, some (Kd.base i).d, some (.lst (Γ.map Kd.d)), some (.int lo), x5] S = .nx [some (.loc w), some t1.d, some (Kd.base i).d, some (.lst (Γ.map Kd.d)), some (.int lo), some (.int (r : Int))] S1 ∧ tkd Γ t1 = some (.base i) ∧ kdsT 2 t1 ∧ t1.ht ≤ t.ht + 2 ∧ nd t1.d ≤ nd t.d + 10 := by
      have hr4 : r = 0 ∨ r = 1 ∨ r = 2 ∨ r = 3 := by omega
      have hL : ((Γ.length : Nat) : Int) = (Γ.length : Int) := rfl
      rcases hr4 with rfl | rfl | rfl | rfl
      · refine ⟨.fst (.both t .unit), ?_, by simp [tkd, hk], ⟨hkd, trivial⟩, by simp [Tm.ht], by simp [Tm.d, nd, ndL]; omega⟩
        unfold l__law_deep_0
        generalize D.lst (Γ.map Kd.d) = G at *
        generalize (Kd.base i).d = KB at *
        simp [e1', s1, s2, s3, Tm.d]
      · refine ⟨.snd (.both .unit t), ?_, by simp [tkd, hk], ⟨trivial, hkd⟩, by simp [Tm.ht], by simp [Tm.d, nd, ndL]; omega⟩
        unfold l__law_deep_0
        generalize D.lst (Γ.map Kd.d) = G at *
        generalize (Kd.base i).d = KB at *
        simp [e1', s1, s2, s3, Tm.d]
      · refine ⟨.app (.mk .unit (t.ups Γ.length)) .unit, ?_, by simp [tkd, hup], ⟨⟨⟨by simp [Kd.dep], by simp [Kd.sz]⟩, kdsT_ups hkd⟩, trivial⟩, by simp [Tm.ht, ht_ups], by simp [Tm.d, nd, ndL, nd_ups, Kd.d]; omega⟩
        unfold l__law_deep_0
        generalize D.lst (Γ.map Kd.d) = G at *
        generalize (Kd.base i).d = KB at *
        generalize (Γ.length : Int) = ZL at *
        simp [e1', gl, el, s1, s2, s3, Tm.d, Kd.d]
      · refine ⟨.app (.mk (.base i) (.giv Γ.length)) t, ?_, by simp [tkd, hk], ⟨⟨⟨by simp [Kd.dep], by simp [Kd.sz]⟩, trivial⟩, hkd⟩, by simp [Tm.ht]; omega, by simp [Tm.d, nd, ndL, Kd.d]; omega⟩
        unfold l__law_deep_0
        simp only [Tm.d]
        generalize D.lst (Γ.map Kd.d) = G at *
        generalize (Kd.base i).d = KB at *
        generalize (Γ.length : Int) = ZL at *
        simp [e1', gl, s1, s2, s3]
    obtain ⟨t', y4, y5, S2, e2, k2, d2, h2, n2, w2⟩ := deep_loop (m := m) (w := w) hl j (lo + 1) t1 S1 (some (.int lo)) (some (.int (r : Int))) q2 q3 (by omega) w1.well
    refine ⟨t', y4, y5, S2, ?_, k2, d2, by omega, by omega, w1.trans w2⟩
    show forL _ _ none (.int lo :: rngD (lo + 1) j) _ _ = _
    rw [forL_cons, gN_ap, tgR_some]
    show loopR _ (l__law_deep_0 (ev m) [some (.loc w), some t.d, some (Kd.base i).d, some (.lst (Γ.map Kd.d)), some (.int lo), x5] S) = _
    rw [q1, loopR_nx, e2]
/-- made of the unit, so many times -/
def mkN : Nat → Tm → Tm
  | 0, t => t
  | j + 1, t => .mk .unit (mkN j t)
theorem mkN_succ (j : Nat) (t : Tm) : mkN (j + 1) t = mkN j (.mk .unit t) := by
  induction j with
  | zero => rfl
  | succ j ih => show Tm.mk .unit (mkN (j + 1) t) = Tm.mk .unit (mkN j (.mk .unit t)); rw [ih]
theorem mkN_ht (j : Nat) (t : Tm) : (mkN j t).ht = t.ht + j := by
  induction j with
  | zero => rfl
  | succ j ih => simp only [mkN, Tm.ht, ih]; omega
theorem mkN_nd (j : Nat) (t : Tm) : nd (mkN j t).d = nd t.d + 4 * j := by
  induction j with
  | zero => rfl
  | succ j ih => simp only [mkN, Tm.d, Kd.d, nd, ndL, ih]; omega
theorem mkN_kds (j : Nat) {t : Tm} (h : kdsT 2 t) : kdsT 2 (mkN j t) := by
  induction j with
  | zero => exact h
  | succ j ih => exact ⟨⟨by simp [Kd.dep], by simp [Kd.sz]⟩, ih⟩
theorem mkN_kd (r : Nat) : ∀ (j : Nat) (Γ : List Kd), r < Γ.length → ∃ K, tkd Γ (mkN j (.both .unit (.giv r))) = some K
  | 0, Γ, h => ⟨.both .unit Γ[r], by simp [mkN, tkd, h]⟩
  | j + 1, Γ, h => by
    obtain ⟨K, hK⟩ := mkN_kd r j (Γ ++ [.unit]) (by simp; omega)
    exact ⟨.frm .unit K, by simp [mkN, tkd, hK]⟩
theorem long_loop {m w : Nat} {G : D} : ∀ (j : Nat) (lo : Int) (t : Tm) (S : Store) (x3 : Option D), ∃ y3, forL (gN 3) (l__law_long_0 (ev m)) none (rngD lo j) [some (.loc w), some G, some t.d, x3] S = .nx [some (.loc w), some G, some (mkN j t).d, y3] S
  | 0, lo, t, S, x3 => ⟨x3, by simp [rngD, mkN]⟩
  | j + 1, lo, t, S, x3 => by
    have h8 : sizeLine = 16777216 := rfl
    have s1 : 1 ≤ sizeLine := by omega
    have s3 : 3 ≤ sizeLine := by omega
    obtain ⟨y3, e⟩ := long_loop (m := m) (w := w) (G := G) j (lo + 1) (.mk .unit t) S (some (.int lo))
    refine ⟨y3, ?_⟩
    have st : l__law_long_0 (ev m) [some (.loc w), some G, some t.d, some (.int lo)] S = .nx [some (.loc w), some G, some (Tm.mk .unit t).d, some (.int lo)] S := by
      unfold l__law_long_0
      simp [s1, s3, Tm.d, Kd.d]
    show forL _ _ none (.int lo :: rngD (lo + 1) j) _ _ = _
    rw [forL_cons, gN_ap, tgR_some]
    show loopR _ (l__law_long_0 (ev m) [some (.loc w), some G, some t.d, some (.int lo)] S) = _
    rw [st, loopR_nx, e, mkN_succ]
end Kz

namespace Kz
open PySem PySem.Spec PyProof.Rows L2 Kw
structure WX (S : Store) (w : Nat) (S' : Store) : Prop where
  le : S.length ≤ S'.length
  same : ∀ i, i < S.length → i ≠ w → S'[i]? = S[i]?
  well : Well S' w
theorem WS.wx {S S' : Store} {w : Nat} (h : WS S w S') : WX S w S' := ⟨by rw [h.len]; exact Nat.le_refl _, fun i _ hi => h.same i hi, h.well⟩
theorem WX.trans {S S1 S2 : Store} {w : Nat} (h : WX S w S1) (k : WX S1 w S2) : WX S w S2 := ⟨Nat.le_trans h.le k.le, fun i hl hi => (k.same i (Nat.lt_of_lt_of_le hl h.le) hi).trans (h.same i hl hi), k.well⟩
theorem well_app {S T : Store} {w : Nat} (h : Well S w) : Well (S ++ T) w := by
  obtain ⟨a, b, c, h1, h2, at_⟩ := h
  exact ⟨a, b, c, h1, h2, by rw [List.getElem?_append_left (lt_of_at at_)]; exact at_⟩
theorem WX.app {S S1 T : Store} {w : Nat} (h : WX S w S1) : WX S w (S1 ++ T) :=
  ⟨by simp; have := h.le; omega, fun i hl hi => by rw [List.getElem?_append_left (by have := h.le; omega)]; exact h.same i hl hi, well_app h.well⟩
theorem WX.set {S S1 : Store} {w v : Nat} {c : Cell} (h : WX S w S1) (hv : S.length ≤ v) (hw : w < S.length) : WX S w (S1.set v c) := by
  have ne : w ≠ v := by omega
  refine ⟨by simp; exact h.le, fun i hl hi => ?_, ?_⟩
  · rw [List.getElem?_set_ne (by omega)]; exact h.same i hl hi
  · obtain ⟨a, b, d, h1, h2, at_⟩ := h.well
    exact ⟨a, b, d, h1, h2, by rw [List.getElem?_set_ne (Ne.symm ne)]; exact at_⟩
theorem WX.cut {S S' : Store} {w : Nat} {d : D} (h : WX S w S') (hw : w < S.length) (hd : d.under S.length = true) : ∃ S'', cutR S (.ok d S') = .ok d S'' ∧ WS S w S'' := by
  have hc : CutOk S S' := by
    refine ⟨h.le, fun i c hi e => ?_⟩
    by_cases hiw : i = w
    · subst hiw
      obtain ⟨a, b, f, _, _, at_⟩ := h.well
      rw [at_] at e
      cases e
      right
      simp [Cell.under, underL, D.under]
    · left; rw [← h.same i hi hiw]; exact e
  refine ⟨S'.take S.length, by unfold cutR; simp only; rw [if_pos ⟨hd, hc⟩], ?_, fun i hi => ?_, ?_⟩
  · rw [List.length_take]; exact Nat.min_eq_left h.le
  · by_cases hl : i < S.length
    · rw [List.getElem?_take_of_lt hl]; exact h.same i hl hi
    · rw [List.getElem?_eq_none (by rw [List.length_take]; omega), List.getElem?_eq_none (by omega)]
  · obtain ⟨a, b, f, h1, h2, at_⟩ := h.well
    exact ⟨a, b, f, h1, h2, by rw [List.getElem?_take_of_lt hw]; exact at_⟩
theorem gSb_loc {i j v p : Nat} {ρ : FEnv} {S : Store} {ds : List D} {d : D} (h1 : ρ[i]? = some (some (.loc v))) (h2 : ρ[j]? = some (some (.int (p : Int)))) (at_ : S[v]? = some (.lst ds)) (hp : p < ds.length) :
    gSb (fVar i) (fVar j) d ρ S = some (ρ, S.set v (.lst (ds.set p d))) := by
  have e1 : fVar i ρ S = .ok (.loc v) S := by unfold fVar; rw [h1]
  have e2 : fVar j ρ S = .ok (.int (p : Int)) S := by unfold fVar; rw [h2]
  have e3 : L2.ixN ds.length (p : Int) = some p := by
    unfold L2.ixN
    rw [if_pos (by omega), if_pos (by omega)]
    rw [Int.toNat_natCast]
  unfold gSb
  rw [e1]
  simp only
  rw [e2]
  simp only [gSetI]
  rw [cellM_of at_]
  simp only
  rw [e3]
theorem gAdd_ll {xs ys : List D} {S : Store} (h : xs.length + ys.length ≤ sizeLine) : gAdd false (.lst xs) (.lst ys) S = .ok (.lst (xs ++ ys)) S := by
  show catL false (some xs) (some ys) S = _
  simp [catL, h]
end Kz

namespace Kz
open PySem PySem.Spec PyProof.Rows L2 Kw
/-! the law's rounds -/
theorem depAll_map {q : Nat} : ∀ {ks : List Kd}, (∀ k ∈ ks, k.dep ≤ q) → PyData.depthAll (ks.map Kd.p) ≤ q + 1
  | [], _ => by simp [PyData.depthAll]
  | k :: ks, h => by
    have h1 := h k List.mem_cons_self
    have h2 := depAll_map fun e he => h e (List.mem_cons_of_mem k he)
    simp only [List.map_cons, PyData.depthAll, Kd.depth_p]; omega
theorem eqvAll_map : ∀ ks : List Kd, PyData.eqvAll (ks.map Kd.p) (ks.map Kd.p) = true
  | [] => by simp only [List.map_nil, PyData.eqvAll]
  | k :: ks => by
    simp only [List.map_cons]
    rw [Kd.eqvAll_c, eqvAll_map ks, Kd.eqv_p]; simp
theorem pySL_kds (S : Store) : ∀ ks : List Kd, pySL S (ks.map Kd.d) = some (ks.map Kd.p)
  | [] => rfl
  | k :: ks => by
    show (pyS S k.d).bind (fun a => (pySL S (ks.map Kd.d)).map (a :: ·)) = _
    rw [pySL_kds S ks, Kd.pyS_d]; rfl
theorem ne_kds {Γ : List Kd} {T : Store} {v : Nat} (h0 : 0 < Γ.length) (hd : ∀ A ∈ Γ, A.dep ≤ 100) (at_ : T[v]? = some (.lst (Γ.map Kd.d))) : gNe (.loc v) (.lst (Γ.map Kd.d)) T = .ok (.bl false) T := by
  have h1 : pyS T (.loc v) = some (.list (Γ.map Kd.p)) := by
    show ((cellOf T v).bind py0L).map PyData.list = _
    rw [cellOf_of at_]
    show (py0L (Γ.map Kd.d)).map PyData.list = _
    rw [Kd.py0L_map]; rfl
  have h2 : pyS T (.lst (Γ.map Kd.d)) = some (.list (Γ.map Kd.p)) := by
    show (pySL T (Γ.map Kd.d)).map PyData.list = _
    rw [pySL_kds]; rfl
  have hda := depAll_map hd
  have ok : okPy (.list (Γ.map Kd.p)) (.list (Γ.map Kd.p)) = true := by
    simp [okPy, PyData.canLay0, Kd.lay_map, PyData.depth]; omega
  have ev1 : PyData.eqv (.list (Γ.map Kd.p)) (.list (Γ.map Kd.p)) = true := by
    show PyData.eqvAll (Γ.map Kd.p) (Γ.map Kd.p) = true
    exact eqvAll_map Γ
  have h3 : eqE T (.loc v) (.lst (Γ.map Kd.d)) = none := by
    cases Γ with
    | nil => simp at h0
    | cons n ns => rfl
  unfold gNe
  rw [h3, h1, h2]
  show (if okPy _ _ then RE.ok (D.bl (!PyData.eqv _ _)) T else .no) = _
  rw [if_pos ok, ev1]; rfl
theorem ne_told {o : Option Kd} {S : Store} (h : ∀ k, o = some k → k.dep < 200) : gNe (toldD o) (toldD o) S = .ok (.bl false) S := by
  cases o with
  | none => simp [toldD]
  | some k =>
    have := h k rfl
    simp only [toldD]
    rw [Kd.gNe_d (by omega)]; simp
/-- a list of givens and a thing: told is due -/
theorem told_due {d x y : D} {Γ : List Kd} {m : Nat} {S : Store} (hm : 100 ≤ m) (hΓ : ∀ A ∈ Γ, A.dep ≤ 2) (l : lay d) (hnd : nd d ≤ 8000000) (hD1 : hD d ≤ 60) (hl : Γ.length ≤ 100) (hx : Gv S x Γ) (hy : Gv S y Γ) :
    ∃ R, ev m .f__law_told [d, x] S = .ok R S ∧ ev m .f__law_due [d, y] S = .ok R S ∧ gNe R R S = .ok (.bl false) S := by
  refine ⟨toldD (jdf 61 Γ d), told_ok (q := 2) (by omega) hΓ (fun A hA => by have := sz_le8 (hΓ A hA) (by omega); omega) l hnd hx (by omega) (by omega) (by omega), due_ok (q := 2) (by omega) hΓ l hy (by omega) (by omega) (by omega), ne_told fun k hk => ?_⟩
  have := jdf_dep 61 hΓ hk
  omega
theorem round_go {m w : Nat} {Γ : List Kd} {ds : List D} {S : Store} {x0 x1 x4 x6 x7 x8 x9 x10 x11 x12 x13 : Option D} (hm : 200 ≤ m) (hΓ : ∀ A ∈ Γ, A.dep ≤ 2) (hl0 : 0 < Γ.length) (hl : Γ.length ≤ 20) (l : layL ds) (ha : ar (.tup ds)) (hD1 : hD (.tup ds) ≤ 50) (hnd : nd (.tup ds) ≤ 1000000) (hw : Well S w) :
    ∃ y11 y12 y13 S', l_law_0 (ev m) [x0, x1, some (.loc w), some (.lst (Γ.map Kd.d)), x4, some (.tup ds), x6, x7, x8, x9, x10, x11, x12, x13] S = .nx [x0, x1, some (.loc w), some (.lst (Γ.map Kd.d)), x4, some (.tup ds), x6, x7, x8, x9, x10, y11, y12, y13] S' ∧ WX S w S' := by
  have hds : hD (.tup ds) = hDL ds + 1 := rfl
  obtain ⟨d, S1, e1, od, w1⟩ := odd_sp (hDL ds) (n := m) (Γ := Γ) (S := S) (Nat.le_refl _) l ha (by omega) (by omega) hw
  have o1 := od.dp
  have o2 := od.nd
  have hwl : w < S.length := lt_of_at hw.choose_spec.choose_spec.choose_spec.2.2
  have hlen := w1.len
  obtain ⟨Γ0, A, rfl⟩ : ∃ Γ0 A, Γ = Γ0 ++ [A] := ⟨Γ.dropLast, Γ.getLast (List.length_pos_iff.mp hl0), (List.dropLast_concat_getLast _).symm⟩
  have hc : S1.length < (S1 ++ [Cell.lst ((Γ0 ++ [A]).map Kd.d)]).length := by simp
  have a2 : (S1 ++ [Cell.lst ((Γ0 ++ [A]).map Kd.d)])[S1.length]? = some (.lst ((Γ0 ++ [A]).map Kd.d)) := by simp
  generalize hS2 : S1 ++ [Cell.lst ((Γ0 ++ [A]).map Kd.d)] = S2 at *
  have a3 : (S2.set S1.length (.lst (Γ0.map Kd.d)))[S1.length]? = some (.lst (Γ0.map Kd.d)) := List.getElem?_set_self hc
  have w3 : WX S w (S2.set S1.length (.lst (Γ0.map Kd.d))) := by
    rw [← hS2]; exact (w1.wx.app).set (by omega) hwl
  have c3 : S1.length < (S2.set S1.length (.lst (Γ0.map Kd.d))).length := by simpa using hc
  generalize hS3 : S2.set S1.length (.lst (Γ0.map Kd.d)) = S3 at *
  have a4 : (S3.set S1.length (.lst ((A :: Γ0).map Kd.d)))[S1.length]? = some (.lst ((A :: Γ0).map Kd.d)) := List.getElem?_set_self c3
  have w4 : WX S w (S3.set S1.length (.lst ((A :: Γ0).map Kd.d))) := w3.set (by omega) hwl
  generalize hS4 : S3.set S1.length (.lst ((A :: Γ0).map Kd.d)) = S4 at *
  have hΓ0 : ∀ X ∈ Γ0, X.dep ≤ 2 := fun X hX => hΓ X (List.mem_append_left _ hX)
  have hΓ4 : ∀ X ∈ A :: Γ0, X.dep ≤ 2 := fun X hX => by
    rcases List.mem_cons.mp hX with rfl | hX
    · exact hΓ X (by simp)
    · exact hΓ0 X hX
  have hl0' : Γ0.length + 1 ≤ 20 := by simpa using hl
  obtain ⟨R2, t2, u2, n2⟩ := told_due (m := m) (S := S2) (x := .loc S1.length) (y := .lst ((Γ0 ++ [A]).map Kd.d)) (by omega) hΓ od.lay (by omega) (by omega) (by omega) (.inr ⟨_, rfl, a2⟩) .lst
  obtain ⟨R3, t3, u3, n3⟩ := told_due (m := m) (S := S3) (x := .loc S1.length) (y := .loc S1.length) (by omega) hΓ0 od.lay (by omega) (by omega) (by omega) (.inr ⟨_, rfl, a3⟩) (.inr ⟨_, rfl, a3⟩)
  obtain ⟨R4, t4, u4, n4⟩ := told_due (m := m) (S := S4) (x := .loc S1.length) (y := .loc S1.length) (by omega) hΓ4 od.lay (by omega) (by omega) (by simp; omega) (.inr ⟨_, rfl, a4⟩) (.inr ⟨_, rfl, a4⟩)
  have ng := ne_kds (T := S2) (v := S1.length) hl0 (fun X hX => by have := hΓ X hX; omega) a2
  have gl : gList true [.lst ((Γ0 ++ [A]).map Kd.d)] S1 = .ok (.loc S1.length) S2 := by rw [← hS2]; rfl
  have gp : gPop0 (.loc S1.length) [] S2 = .ok A.d S3 := by
    rw [← hS3]
    exact gPop0_loc (by rw [cellM_of a2]; simp)
  have gi : gIns (.loc S1.length) [.int 0, A.d] S3 = .ok .non S4 := by
    have h8 : sizeLine = 16777216 := rfl
    have := gIns_loc (n := S1.length) (S := S3) (xs := Γ0.map Kd.d) (y := A.d) (i := 0) (cellM_of a3) (by simp; omega) (by omega)
    rw [← hS4]
    simpa using this
  have m2 : ∀ {g : D → List D → Store → RE D} {a : FA} {ρ : FEnv}, mthR g a ρ (.loc S1.length) S2 = (a ρ S2).bnd fun es S' => g (.loc S1.length) es S' := fun {g a ρ} => mthR_loc (cellOf_of a2)
  have m3 : ∀ {g : D → List D → Store → RE D} {a : FA} {ρ : FEnv}, mthR g a ρ (.loc S1.length) S3 = (a ρ S3).bnd fun es S' => g (.loc S1.length) es S' := fun {g a ρ} => mthR_loc (cellOf_of a3)
  refine ⟨some d, some (.loc S1.length), some A.d, S4, ?_, w4⟩
  have hno : ∀ (tc : FT) (f' g : FS) (ρ : FEnv) (S : Store), tc ρ S = .ok false S → sIf tc f' g ρ S = g ρ S := fun tc f' g ρ S h => by rw [sIf_ap, h]; rfl
  generalize D.lst ((Γ0 ++ [A]).map Kd.d) = G at *
  generalize D.tup ds = T at *
  generalize A.d = Ad at *
  generalize hV : S1.length = V at *
  have q0 : (sSet 11 (fArg (ev m .f__law_odd) (fCons (fVar 2) (fCons (fVar 5) (fCons (fVar 3) fNil))))) [x0, x1, some (.loc w), some G, x4, some T, x6, x7, x8, x9, x10, x11, x12, x13] S = .nx [x0, x1, some (.loc w), some G, x4, some T, x6, x7, x8, x9, x10, some d, x12, x13] S1 := by simp [e1]
  have q1 : (sSet 12 (fArg (gList true) (fCons (fVar 3) fNil))) [x0, x1, some (.loc w), some G, x4, some T, x6, x7, x8, x9, x10, some d, x12, x13] S1 = .nx [x0, x1, some (.loc w), some G, x4, some T, x6, x7, x8, x9, x10, some d, some (.loc V), x13] S2 := by simp [gl]
  have q2 : (sIf (fOr (fB (f2 gNe (fArg (ev m .f__law_told) (fCons (fVar 11) (fCons (fVar 12) fNil))) (fArg (ev m .f__law_due) (fCons (fVar 11) (fCons (fVar 3) fNil))))) (fB (f2 gNe (fVar 12) (fVar 3)))) (sRet (fC (.bl false))) sNil) [x0, x1, some (.loc w), some G, x4, some T, x6, x7, x8, x9, x10, some d, some (.loc V), x13] S2 = .nx [x0, x1, some (.loc w), some G, x4, some T, x6, x7, x8, x9, x10, some d, some (.loc V), x13] S2 := by simp [t2, u2, n2, ng]
  have q3 : (sSet 13 (fMth gPop0 (fVar 12) fNil)) [x0, x1, some (.loc w), some G, x4, some T, x6, x7, x8, x9, x10, some d, some (.loc V), x13] S2 = .nx [x0, x1, some (.loc w), some G, x4, some T, x6, x7, x8, x9, x10, some d, some (.loc V), some Ad] S3 := by simp [m2, gp]
  have q4 : (sIf (fB (f2 gNe (fArg (ev m .f__law_told) (fCons (fVar 11) (fCons (fVar 12) fNil))) (fArg (ev m .f__law_due) (fCons (fVar 11) (fCons (fVar 12) fNil))))) (sRet (fC (.bl false))) sNil) [x0, x1, some (.loc w), some G, x4, some T, x6, x7, x8, x9, x10, some d, some (.loc V), some Ad] S3 = .nx [x0, x1, some (.loc w), some G, x4, some T, x6, x7, x8, x9, x10, some d, some (.loc V), some Ad] S3 := by simp [t3, u3, n3]
  have q5 : (sExp (fMth gIns (fVar 12) (fCons (fC (.int 0)) (fCons (fVar 13) fNil)))) [x0, x1, some (.loc w), some G, x4, some T, x6, x7, x8, x9, x10, some d, some (.loc V), some Ad] S3 = .nx [x0, x1, some (.loc w), some G, x4, some T, x6, x7, x8, x9, x10, some d, some (.loc V), some Ad] S4 := by simp [m3, gi]
  have q6 : (sIf (fB (f2 gNe (fArg (ev m .f__law_told) (fCons (fVar 11) (fCons (fVar 12) fNil))) (fArg (ev m .f__law_due) (fCons (fVar 11) (fCons (fVar 12) fNil))))) (sRet (fC (.bl false))) sNil) [x0, x1, some (.loc w), some G, x4, some T, x6, x7, x8, x9, x10, some d, some (.loc V), some Ad] S4 = .nx [x0, x1, some (.loc w), some G, x4, some T, x6, x7, x8, x9, x10, some d, some (.loc V), some Ad] S4 := by simp [t4, u4, n4]
  unfold l_law_0
  rw [sSeq_ap, q0, sb_nx, sSeq_ap, q1, sb_nx, sSeq_ap, q2, sb_nx, sSeq_ap, q3, sb_nx, sSeq_ap, q4, sb_nx, sSeq_ap, q5, sb_nx, q6]
end Kz

namespace Kz
open PySem PySem.Spec PyProof.Rows L2 Kw
/-! the law -/
theorem well_lt {S : Store} {w : Nat} (h : Well S w) : w < S.length := lt_of_at h.choose_spec.choose_spec.choose_spec.2.2
theorem rounds {m w : Nat} {Γ : List Kd} {ds : List D} {x0 x1 x4 x7 x8 x9 x10 : Option D} (hm : 200 ≤ m) (hΓ : ∀ A ∈ Γ, A.dep ≤ 2) (hl0 : 0 < Γ.length) (hl : Γ.length ≤ 20) (l : layL ds) (ha : ar (.tup ds)) (hD1 : hD (.tup ds) ≤ 50) (hnd : nd (.tup ds) ≤ 1000000) : ∀ (j : Nat) (lo : Int) (S : Store) (x6 x11 x12 x13 : Option D), Well S w →
    ∃ y6 y11 y12 y13 S', forL (gN 6) (l_law_0 (ev m)) none (rngD lo j) [x0, x1, some (.loc w), some (.lst (Γ.map Kd.d)), x4, some (.tup ds), x6, x7, x8, x9, x10, x11, x12, x13] S = .nx [x0, x1, some (.loc w), some (.lst (Γ.map Kd.d)), x4, some (.tup ds), y6, x7, x8, x9, x10, y11, y12, y13] S' ∧ Well S' w
  | 0, lo, S, x6, x11, x12, x13, hw => ⟨x6, x11, x12, x13, S, by simp [rngD], hw⟩
  | j + 1, lo, S, x6, x11, x12, x13, hw => by
    obtain ⟨z11, z12, z13, S1, e1, w1⟩ := round_go (m := m) (x0 := x0) (x1 := x1) (x4 := x4) (x6 := some (.int lo)) (x7 := x7) (x8 := x8) (x9 := x9) (x10 := x10) (x11 := x11) (x12 := x12) (x13 := x13) hm hΓ hl0 hl l ha hD1 hnd hw
    obtain ⟨y6, y11, y12, y13, S2, e2, w2⟩ := rounds hm hΓ hl0 hl l ha hD1 hnd j (lo + 1) S1 (some (.int lo)) z11 z12 z13 w1.well
    refine ⟨y6, y11, y12, y13, S2, ?_, w2⟩
    show forL _ _ none (.int lo :: rngD (lo + 1) j) _ _ = _
    rw [forL_cons, gN_ap, tgR_some]
    show loopR _ (l_law_0 (ev m) [x0, x1, some (.loc w), some (.lst (Γ.map Kd.d)), x4, some (.tup ds), some (.int lo), x7, x8, x9, x10, x11, x12, x13] S) = _
    rw [e1, loopR_nx, e2]
theorem ldeep_sp {n w : Nat} {Γ : List Kd} {i : Fin 8} {t : Tm} {S : Store} (hl : Γ.length ≤ 100) (hk : tkd Γ t = some (.base i)) (hkd : kdsT 2 t) (hn : t.ht + 80 ≤ n) (hw : Well S w) :
    ∃ t' S', ev n .f__law_deep [.loc w, t.d, (Kd.base i).d, .lst (Γ.map Kd.d)] S = .ok (Tm.d t') S' ∧ tkd Γ t' = some (.base i) ∧ kdsT 2 t' ∧ t'.ht ≤ t.ht + 76 ∧ nd t'.d ≤ nd t.d + 380 ∧ WS S w S' := by
  obtain ⟨m, rfl, h'⟩ := up (show t.ht + 79 + 1 ≤ n by omega)
  obtain ⟨t', y4, y5, S', e, k, d, h, n, ws⟩ := deep_loop (m := m) (w := w) (Γ := Γ) (i := i) hl 38 0 t S none none hk hkd (by omega) hw
  refine ⟨t', S', ?_, k, d, by omega, by omega, ws⟩
  have it : itR [.int 38] S = .ok (rngD 0 38, none) S := itR_k (by omega) (by omega)
  rw [ev, b__law_deep, fnB_4]
  generalize D.lst (Γ.map Kd.d) = G at *
  generalize (Kd.base i).d = KB at *
  have q0 : sFor (fiR1 (fCons (fC (.int 38)) fNil)) (gN 4) (l__law_deep_0 (ev m)) [some (.loc w), some t.d, some KB, some G, none, none] S = .nx [some (.loc w), some t'.d, some KB, some G, y4, y5] S' := by
    rw [sFor_ap, fiR1_ap]
    have a1 : fCons (fC (.int 38)) fNil [some (.loc w), some t.d, some KB, some G, none, none] S = .ok [.int 38] S := by simp
    rw [a1, bnd_ok, it]
    exact e
  show RS.fin (sSeq _ _ [some (.loc w), some t.d, some KB, some G, none, none] S) = _
  rw [sSeq_ap, q0, sb_nx]
  simp
theorem llong_sp {n w : Nat} {G : D} {S : Store} (hn : 3 ≤ n) (hw : Well S w) :
    ∃ r S', ev n .f__law_long [.loc w, G] S = .ok (mkN 80 (.both .unit (.giv r))).d S' ∧ r < 8 ∧ WS S w S' := by
  have h8 : sizeLine = 16777216 := rfl
  have s1 : 1 ≤ sizeLine := by omega
  have s2 : 2 ≤ sizeLine := by omega
  have s3 : 3 ≤ sizeLine := by omega
  obtain ⟨m, rfl, h'⟩ := up (show 2 + 1 ≤ n by omega)
  obtain ⟨r, S1, hr, e1, w1⟩ := draw_nat (n := m) (S := S) (w := w) (V := 8) (by omega) hw (by omega) (by omega)
  have e1' : ev m .f__law_draw [.loc w, .int 8] S = .ok (.int (r : Int)) S1 := e1
  obtain ⟨y3, e2⟩ := long_loop (m := m) (w := w) (G := G) 80 0 (.both .unit (.giv r)) S1 none
  refine ⟨r, S1, ?_, hr, w1⟩
  have it : itR [.int 80] S1 = .ok (rngD 0 80, none) S1 := itR_k (by omega) (by omega)
  have q0 : sSet 2 (fArg mkTup (fCons (fC (.str "both")) (fCons (fArg mkTup (fCons (fC (.str "unit")) fNil)) (fCons (fArg mkTup (fCons (fC (.str "given")) (fCons (fArg (ev m .f__law_draw) (fCons (fVar 0) (fCons (fC (.int 8)) fNil))) fNil))) fNil)))) [some (.loc w), some G, none, none] S = .nx [some (.loc w), some G, some (Tm.both .unit (.giv r)).d, none] S1 := by
    simp only [Tm.d]
    generalize (r : Int) = Zr at *
    simp [e1', s1, s2, s3]
  have q1 : sFor (fiR1 (fCons (fC (.int 80)) fNil)) (gN 3) (l__law_long_0 (ev m)) [some (.loc w), some G, some (Tm.both .unit (.giv r)).d, none] S1 = .nx [some (.loc w), some G, some (mkN 80 (.both .unit (.giv r))).d, y3] S1 := by
    rw [sFor_ap, fiR1_ap]
    have a1 : fCons (fC (.int 80)) fNil [some (.loc w), some G, some (Tm.both .unit (.giv r)).d, none] S1 = .ok [.int 80] S1 := by simp
    rw [a1, bnd_ok, it]
    exact e2
  rw [ev, b__law_long, fnB_2]
  show RS.fin (sSeq _ _ [some (.loc w), some G, none, none] S) = _
  rw [sSeq_ap, q0, sb_nx, sSeq_ap, q1, sb_nx]
  simp
theorem strange_bad {Γ : List Kd} {S : Store} (hΓ : ∀ A ∈ Γ, A.dep ≤ 2) (hl : Γ.length ≤ 100) : ∀ x ∈ ([.non, .tup (Γ.map Kd.d), .lst (Γ.map Kd.d ++ [.non]), .lst (Γ.map Kd.d ++ [.tup [.str "base", .int 8]]), .lst (Γ.map Kd.d ++ [.tup [.str "base", .bl true]]), .str "given", .dic [] [], .int 3] : List D), ∀ m, 5 ≤ m → ev m .f_sure_given [x] S = .ex ⟨"NoKind", [], []⟩ S := by
  have hb : ∀ (y : D), lay y → nd y ≤ 8000000 → isK y = false → ∀ m, 5 ≤ m → ev m .f_sure_given [.lst (Γ.map Kd.d ++ [y])] S = .ex ⟨"NoKind", [], []⟩ S := fun y ly ny ky m hm => by
    have h := sgiven_gen (n := m) (S := S) (x := .lst (Γ.map Kd.d ++ [y])) (ds := Γ.map Kd.d ++ [y]) (.inl rfl) (layL_app.mpr ⟨layL_kds Γ, layL_cons.mpr ⟨ly, rfl⟩⟩) (fun d hd => by
      rcases List.mem_append.mp hd with hd | hd
      · obtain ⟨k, hk, rfl⟩ := List.mem_map.mp hd
        have h1 := nd_kd k
        have h2 := sz_le8 (hΓ k hk) (by omega)
        omega
      · have : d = y := by simpa using hd
        rw [this]; exact ny) (by simp; omega) hm
    have hf : (Γ.map Kd.d ++ [y]).all isK = false := by simp [ky]
    rw [hf] at h
    exact h
  intro x hx m hm
  simp only [List.mem_cons, List.not_mem_nil, or_false] at hx
  rcases hx with rfl | rfl | rfl | rfl | rfl | rfl | rfl | rfl
  · exact sgiven_no rfl (by omega)
  · exact sgiven_no rfl (by omega)
  · exact hb _ rfl (by simp [nd]) (by rw [isK_eq]; rfl) m hm
  · exact hb _ (by simp [lay, pl, plL]) (by simp [nd, ndL]) (by rw [isK_eq]; simp [innD, innR]) m hm
  · exact hb _ (by simp [lay, pl, plL]) (by simp [nd, ndL]) (by rw [isK_eq]; simp [innD, innR]) m hm
  · exact sgiven_no rfl (by omega)
  · exact sgiven_no rfl (by omega)
  · exact sgiven_no rfl (by omega)
theorem told_tm {t : Tm} {Γ : List Kd} {m q : Nat} {S : Store} {o : Option Kd} (hq : q ≤ 9) (ht : t.ht ≤ 85) (hkd : kdsT q t) (hs : t.ht + q ≤ 90) (hnd : nd t.d ≤ 8000000) (hΓ : ∀ A ∈ Γ, A.dep ≤ 2) (hl : Γ.length ≤ 100) (hm : 200 ≤ m) (hk : tkd Γ t = o) :
    ev m .f__law_told [t.d, .lst (Γ.map Kd.d)] S = .ok (toldD o) S ∧ ev m .f__law_judged [t.d, .lst (Γ.map Kd.d)] S = .ok (oK o) S := by
  have h1 := hD_tm t hkd
  have e := jdf_tm t (f := 95) (Γ := Γ) (by omega)
  have a := told_ok (f := 95) (d := t.d) (x := .lst (Γ.map Kd.d)) (n := m) (q := 2) (S := S) (by omega) hΓ (fun A hA => by have := sz_le8 (hΓ A hA) (by omega); omega) (lay_tm t) hnd .lst (by omega) (by omega) (by omega)
  have b := judged_ok 95 (d := t.d) (x := .lst (Γ.map Kd.d)) (n := m) (q := 2) (S := S) (by omega) hΓ (lay_tm t) .lst (by omega) (by omega) (by omega)
  rw [e, hk] at a b
  exact ⟨a, b⟩
theorem iter_go {m : Nat} (hm : 200 ≤ m) {S : Store} {z : Int} {x0 x2 x3 x4 x5 x6 x7 x8 x9 x10 x11 x12 x13 : Option D} : ∃ y2 y3 y4 y5 y6 y7 y8 y9 y10 y11 y12 y13 S', l_law_1 (ev m) [x0, some (.int z), x2, x3, x4, x5, x6, x7, x8, x9, x10, x11, x12, x13] S = .nx [x0, some (.int z), y2, y3, y4, y5, y6, y7, y8, y9, y10, y11, y12, y13] S' := by
  have h8 : sizeLine = 16777216 := rfl
  have s1 : 1 ≤ sizeLine := by omega
  have s2 : 2 ≤ sizeLine := by omega
  have s8 : 8 ≤ sizeLine := by omega
  obtain ⟨c, e1, hw1⟩ := well_new (n := m) (S := S) (i := z) (by omega)
  generalize hW : S.length = W at *
  generalize S ++ [c] = S1 at *
  obtain ⟨Γ, S2, e2, hg, g0, g1, w2⟩ := lgiven_sp (n := m) (S := S1) (by omega) hw1
  obtain ⟨K, S3, e3, dK, zK, w3⟩ := lkind_sp 2 (n := m) (S := S2) (by omega) w2.well
  have e3' : ev m .f__law_kind [.loc W, .int 2] S2 = .ok K.d S3 := e3
  obtain ⟨t, S4, e4, nt, kt, ht, w4⟩ := flat_sp 1 K (n := m) (q := 2) (Γ := Γ) (S := S3) hg (by omega) (by omega) (by omega) (by omega) w3.well
  have e4' : ev m .f__law_flat [.loc W, K.d, .lst (Γ.map Kd.d), .int 1] S3 = .ok t.d S4 := e4
  obtain ⟨u, S5, e5, su, ku, hu, w5⟩ := lsome_sp (n := m) (q := 2) (most := 900) (S := S4) nt.kd hg kt (by omega) (by omega) (by omega) (by omega) (by omega) w4.well
  have e5' : ev m .f__law_some [.loc W, t.d, .lst (Γ.map Kd.d), .int 900] S4 = .ok u.d S5 := e5
  have nu := su.nd (by omega) (q := 2) (by omega) kt (by omega)
  have hk : tkd Γ u = some K := by rw [su.kd, nt.kd]
  obtain ⟨tu, ju⟩ := told_tm (m := m) (S := S5) (q := 9) (by omega) (by omega) ku (by omega) (by omega) hg.dep (by omega) hm hk
  have nK : ∀ S, gNe K.d K.d S = .ok (.bl false) S := fun S => by rw [Kd.gNe_d (by omega)]; simp
  obtain ⟨ds, hds⟩ := Tm.d_tup u
  have hDu := hD_tm u ku
  have lu := lay_tm u
  have au := ar_tm u
  rw [hds] at lu au hDu nu
  obtain ⟨y6, y11, y12, y13, S6, e6, w6⟩ := rounds (m := m) (w := W) (Γ := Γ) (x0 := x0) (x1 := some (.int z)) (x4 := some K.d) (x7 := x7) (x8 := x8) (x9 := x9) (x10 := x10) hm hg.dep (by omega) (by omega) (lay_tup lu) au (by omega) nu 6 0 S5 x6 x11 x12 x13 w5.well
  rw [← hds] at e6
  obtain ⟨b, S7, hb, e7, w7⟩ := draw_nat (n := m) (S := S6) (w := W) (V := 8) (by omega) w6 (by omega) (by omega)
  have e7' : ev m .f__law_draw [.loc W, .int 8] S6 = .ok (.int (b : Int)) S7 := e7
  have hsm : (Kd.base ⟨b, hb⟩).d = .tup [.str "base", .int (b : Int)] := rfl
  obtain ⟨t2, S8, e8, nt2, kt2, ht2, w8⟩ := flat_sp 1 (.base ⟨b, hb⟩) (n := m) (q := 2) (Γ := Γ) (S := S7) hg (by omega) (by simp [Kd.dep]) (by simp [Kd.dep]; omega) (by simp [Kd.dep]; omega) w7.well
  have e8' : ev m .f__law_flat [.loc W, (Kd.base ⟨b, hb⟩).d, .lst (Γ.map Kd.d), .int 1] S7 = .ok t2.d S8 := e8
  simp only [Kd.dep] at ht2
  obtain ⟨dp, S9, e9, kdp, ddp, hdp, ndp, w9⟩ := ldeep_sp (n := m) (S := S8) (t := t2) (by omega) nt2.kd kt2 (by omega) w8.well
  have nf := nd_flat (q := 2) (by omega) kt2 (by omega)
  obtain ⟨tdp, jdp⟩ := told_tm (m := m) (S := S9) (q := 2) (by omega) (by omega) ddp (by omega) (by omega) hg.dep (by omega) hm kdp
  obtain ⟨tfd, jfd⟩ := told_tm (m := m) (S := S9) (t := .fst dp) (o := none) (q := 2) (by omega) (by simp only [Tm.ht]; omega) ddp (by simp only [Tm.ht]; omega) (by simp only [Tm.d, nd, ndL]; omega) hg.dep (by omega) hm (by simp [tkd, kdp])
  have nS : ∀ S, gNe (Kd.base ⟨b, hb⟩).d (Kd.base ⟨b, hb⟩).d S = .ok (.bl false) S := fun S => by rw [Kd.gNe_d (by simp [Kd.dep])]; simp
  obtain ⟨r, S10, e10, hr, w10⟩ := llong_sp (n := m) (G := .lst (Γ.map Kd.d)) (S := S9) (by omega) w9.well
  obtain ⟨KL, hKL⟩ := mkN_kd r 80 Γ (by omega)
  have k80 : kdsT 2 (mkN 80 (.both .unit (.giv r))) := mkN_kds 80 ⟨trivial, trivial⟩
  have h80 := mkN_ht 80 (.both .unit (.giv r))
  have n80 := mkN_nd 80 (.both .unit (.giv r))
  simp only [Tm.ht] at h80
  simp only [Tm.d, nd, ndL] at n80
  have dKL := tkd_dep _ hg.dep k80 hKL
  obtain ⟨tlo, jlo⟩ := told_tm (m := m) (S := S10) (q := 2) (by omega) (by omega) k80 (by omega) (by omega) hg.dep (by omega) hm hKL
  have nL : ∀ S, gNe KL.d KL.d S = .ok (.bl false) S := fun S => by rw [Kd.gNe_d (by omega)]; simp
  obtain ⟨p, S11, hp, e11, w11⟩ := draw_nat (n := m) (S := S10) (w := W) (V := 8) (by omega) w10.well (by omega) (by omega)
  have e11' : ev m .f__law_draw [.loc W, .int 8] S10 = .ok (.int (p : Int)) S11 := e11
  have hsb := strange_bad (S := S11) hg.dep (show Γ.length ≤ 100 by omega)
  have hlt : p < ([.non, .tup (Γ.map Kd.d), .lst (Γ.map Kd.d ++ [.non]), .lst (Γ.map Kd.d ++ [.tup [.str "base", .int 8]]), .lst (Γ.map Kd.d ++ [.tup [.str "base", .bl true]]), .str "given", .dic [] [], .int 3] : List D).length := hp
  have hmem := List.getElem_mem hlt
  have hbad := hsb _ hmem
  have gix := ixR_nat (S := S11) (ds := ([.non, .tup (Γ.map Kd.d), .lst (Γ.map Kd.d ++ [.non]), .lst (Γ.map Kd.d ++ [.tup [.str "base", .int 8]]), .lst (Γ.map Kd.d ++ [.tup [.str "base", .bl true]]), .str "given", .dic [] [], .int 3] : List D)) (n := p)
  rw [List.getElem?_eq_getElem hlt] at gix
  generalize hR : ([.non, .tup (Γ.map Kd.d), .lst (Γ.map Kd.d ++ [.non]), .lst (Γ.map Kd.d ++ [.tup [.str "base", .int 8]]), .lst (Γ.map Kd.d ++ [.tup [.str "base", .bl true]]), .str "given", .dic [] [], .int 3] : List D)[p] = R at *
  have tb1 := told_bad (d := u.d) (n := m) (S := S11) hbad (by omega)
  have tb2 := told_bad (d := .non) (n := m) (S := S11) hbad (by omega)
  have it6 : itR [.int 6] S5 = .ok (rngD 0 6, none) S5 := itR_k (by omega) (by omega)
  have ll : (Γ.map Kd.d).length + 1 ≤ sizeLine := by simp; omega
  have gtu : gTuple [.lst (Γ.map Kd.d)] S10 = .ok (.tup (Γ.map Kd.d)) S10 := rfl
  simp only [toldD, oK] at tu ju tdp tfd tlo jlo
  rw [show (Tm.fst dp).d = .tup [.str "first", dp.d] from rfl] at tfd
  rw [hsm] at e8' e9 tdp
  simp only [hsm] at nS
  have hno : ∀ (tc : FT) (f' g : FS) (ρ : FEnv) (S : Store), tc ρ S = .ok false S → sIf tc f' g ρ S = g ρ S := fun tc f' g ρ S h => by rw [sIf_ap, h]; rfl
  generalize Γ.map Kd.d = Gl at *
  generalize K.d = Kd0 at *
  generalize KL.d = KL0 at *
  generalize u.d = ud at *
  generalize t.d = td at *
  generalize t2.d = td2 at *
  generalize dp.d = dd at *
  generalize (mkN 80 (.both .unit (.giv r))).d = ld at *
  generalize (b : Int) = Zb at *
  generalize (p : Int) = Zp at *
  have q0 : (sSet 2 (fArg (ev m .f__law_well) (fCons (fVar 1) fNil))) [x0, some (.int z), x2, x3, x4, x5, x6, x7, x8, x9, x10, x11, x12, x13] S = .nx [x0, some (.int z), some (.loc W), x3, x4, x5, x6, x7, x8, x9, x10, x11, x12, x13] S1 := by simp [e1]
  have q1 : (sSet 3 (fArg (ev m .f__law_given) (fCons (fVar 2) fNil))) [x0, some (.int z), some (.loc W), x3, x4, x5, x6, x7, x8, x9, x10, x11, x12, x13] S1 = .nx [x0, some (.int z), some (.loc W), some (.lst Gl), x4, x5, x6, x7, x8, x9, x10, x11, x12, x13] S2 := by simp [e2]
  have q2 : (sSet 4 (fArg (ev m .f__law_kind) (fCons (fVar 2) (fCons (fC (.int 2)) fNil)))) [x0, some (.int z), some (.loc W), some (.lst Gl), x4, x5, x6, x7, x8, x9, x10, x11, x12, x13] S2 = .nx [x0, some (.int z), some (.loc W), some (.lst Gl), some Kd0, x5, x6, x7, x8, x9, x10, x11, x12, x13] S3 := by simp [e3']
  have q3 : (sSet 5 (fArg (ev m .f__law_some) (fCons (fVar 2) (fCons (fArg (ev m .f__law_flat) (fCons (fVar 2) (fCons (fVar 4) (fCons (fVar 3) (fCons (fC (.int 1)) fNil))))) (fCons (fVar 3) (fCons (fC (.int 900)) fNil)))))) [x0, some (.int z), some (.loc W), some (.lst Gl), some Kd0, x5, x6, x7, x8, x9, x10, x11, x12, x13] S3 = .nx [x0, some (.int z), some (.loc W), some (.lst Gl), some Kd0, some ud, x6, x7, x8, x9, x10, x11, x12, x13] S5 := by simp [e4', e5']
  have q4 : (sIf (fOr (fB (f2 gNe (fArg (ev m .f__law_told) (fCons (fVar 5) (fCons (fVar 3) fNil))) (fVar 4))) (fB (f2 gNe (fArg (ev m .f__law_judged) (fCons (fVar 5) (fCons (fVar 3) fNil))) (fVar 4)))) (sRet (fC (.bl false))) sNil) [x0, some (.int z), some (.loc W), some (.lst Gl), some Kd0, some ud, x6, x7, x8, x9, x10, x11, x12, x13] S5 = .nx [x0, some (.int z), some (.loc W), some (.lst Gl), some Kd0, some ud, x6, x7, x8, x9, x10, x11, x12, x13] S5 := by simp [tu, ju, nK]
  have q5 : (sFor (fiR1 (fCons (fC (.int 6)) fNil)) (gN 6) (l_law_0 (ev m))) [x0, some (.int z), some (.loc W), some (.lst Gl), some Kd0, some ud, x6, x7, x8, x9, x10, x11, x12, x13] S5 = .nx [x0, some (.int z), some (.loc W), some (.lst Gl), some Kd0, some ud, y6, x7, x8, x9, x10, y11, y12, y13] S6 := by
    rw [sFor_ap, fiR1_ap]
    have a1 : fCons (fC (.int 6)) fNil [x0, some (.int z), some (.loc W), some (.lst Gl), some Kd0, some ud, x6, x7, x8, x9, x10, x11, x12, x13] S5 = .ok [.int 6] S5 := by simp
    rw [a1, bnd_ok, it6]
    exact e6
  have q6 : (sSet 7 (fArg mkTup (fCons (fC (.str "base")) (fCons (fArg (ev m .f__law_draw) (fCons (fVar 2) (fCons (fC (.int 8)) fNil))) fNil)))) [x0, some (.int z), some (.loc W), some (.lst Gl), some Kd0, some ud, y6, x7, x8, x9, x10, y11, y12, y13] S6 = .nx [x0, some (.int z), some (.loc W), some (.lst Gl), some Kd0, some ud, y6, some (.tup [.str "base", .int Zb]), x8, x9, x10, y11, y12, y13] S7 := by simp [e7', s2]
  have q7 : (sSet 8 (fArg (ev m .f__law_deep) (fCons (fVar 2) (fCons (fArg (ev m .f__law_flat) (fCons (fVar 2) (fCons (fVar 7) (fCons (fVar 3) (fCons (fC (.int 1)) fNil))))) (fCons (fVar 7) (fCons (fVar 3) fNil)))))) [x0, some (.int z), some (.loc W), some (.lst Gl), some Kd0, some ud, y6, some (.tup [.str "base", .int Zb]), x8, x9, x10, y11, y12, y13] S7 = .nx [x0, some (.int z), some (.loc W), some (.lst Gl), some Kd0, some ud, y6, some (.tup [.str "base", .int Zb]), some dd, x9, x10, y11, y12, y13] S9 := by simp [e8', e9]
  have q8 : (sIf (fOr (fB (f2 gNe (fArg (ev m .f__law_told) (fCons (fVar 8) (fCons (fVar 3) fNil))) (fVar 7))) (fB (f2 gNe (fArg (ev m .f__law_told) (fCons (fArg mkTup (fCons (fC (.str "first")) (fCons (fVar 8) fNil))) (fCons (fVar 3) fNil))) (fC (.str "term"))))) (sRet (fC (.bl false))) sNil) [x0, some (.int z), some (.loc W), some (.lst Gl), some Kd0, some ud, y6, some (.tup [.str "base", .int Zb]), some dd, x9, x10, y11, y12, y13] S9 = .nx [x0, some (.int z), some (.loc W), some (.lst Gl), some Kd0, some ud, y6, some (.tup [.str "base", .int Zb]), some dd, x9, x10, y11, y12, y13] S9 := by simp [tdp, tfd, nS, s2]
  have q9 : (sSet 9 (fArg (ev m .f__law_long) (fCons (fVar 2) (fCons (fVar 3) fNil)))) [x0, some (.int z), some (.loc W), some (.lst Gl), some Kd0, some ud, y6, some (.tup [.str "base", .int Zb]), some dd, x9, x10, y11, y12, y13] S9 = .nx [x0, some (.int z), some (.loc W), some (.lst Gl), some Kd0, some ud, y6, some (.tup [.str "base", .int Zb]), some dd, some ld, x10, y11, y12, y13] S10 := by simp [e10]
  have q10 : (sIf (fB (f2 gNe (fArg (ev m .f__law_told) (fCons (fVar 9) (fCons (fVar 3) fNil))) (fArg (ev m .f__law_judged) (fCons (fVar 9) (fCons (fVar 3) fNil))))) (sRet (fC (.bl false))) sNil) [x0, some (.int z), some (.loc W), some (.lst Gl), some Kd0, some ud, y6, some (.tup [.str "base", .int Zb]), some dd, some ld, x10, y11, y12, y13] S10 = .nx [x0, some (.int z), some (.loc W), some (.lst Gl), some Kd0, some ud, y6, some (.tup [.str "base", .int Zb]), some dd, some ld, x10, y11, y12, y13] S10 := by simp [tlo, jlo, nL]
  have q11 : (sSet 10 (fArg mkLst (fCons (fC .non) (fCons (fArg gTuple (fCons (fVar 3) fNil)) (fCons (f2 (gAdd false) (fVar 3) (fArg mkLst (fCons (fC .non) fNil))) (fCons (f2 (gAdd false) (fVar 3) (fArg mkLst (fCons (fArg mkTup (fCons (fC (.str "base")) (fCons (fC (.int 8)) fNil))) fNil))) (fCons (f2 (gAdd false) (fVar 3) (fArg mkLst (fCons (fArg mkTup (fCons (fC (.str "base")) (fCons (fC (.bl true)) fNil))) fNil))) (fCons (fC (.str "given")) (fCons (fDic [] []) (fCons (fC (.int 3)) fNil)))))))))) [x0, some (.int z), some (.loc W), some (.lst Gl), some Kd0, some ud, y6, some (.tup [.str "base", .int Zb]), some dd, some ld, x10, y11, y12, y13] S10 = .nx [x0, some (.int z), some (.loc W), some (.lst Gl), some Kd0, some ud, y6, some (.tup [.str "base", .int Zb]), some dd, some ld, some (.lst [.non, .tup Gl, .lst (Gl ++ [.non]), .lst (Gl ++ [.tup [.str "base", .int 8]]), .lst (Gl ++ [.tup [.str "base", .bl true]]), .str "given", .dic [] [], .int 3]), y11, y12, y13] S10 := by simp [gtu, ll, s1, s2, s8]
  have q12 : (sSet 10 (f2 gIx (fVar 10) (fArg (ev m .f__law_draw) (fCons (fVar 2) (fCons (fC (.int 8)) fNil))))) [x0, some (.int z), some (.loc W), some (.lst Gl), some Kd0, some ud, y6, some (.tup [.str "base", .int Zb]), some dd, some ld, some (.lst [.non, .tup Gl, .lst (Gl ++ [.non]), .lst (Gl ++ [.tup [.str "base", .int 8]]), .lst (Gl ++ [.tup [.str "base", .bl true]]), .str "given", .dic [] [], .int 3]), y11, y12, y13] S10 = .nx [x0, some (.int z), some (.loc W), some (.lst Gl), some Kd0, some ud, y6, some (.tup [.str "base", .int Zb]), some dd, some ld, some R, y11, y12, y13] S11 := by simp [e11', gix]
  have q13 : (sIf (fOr (fB (f2 gNe (fArg (ev m .f__law_told) (fCons (fVar 5) (fCons (fVar 10) fNil))) (fC (.str "kind")))) (fB (f2 gNe (fArg (ev m .f__law_told) (fCons (fC .non) (fCons (fVar 10) fNil))) (fC (.str "kind"))))) (sRet (fC (.bl false))) sNil) [x0, some (.int z), some (.loc W), some (.lst Gl), some Kd0, some ud, y6, some (.tup [.str "base", .int Zb]), some dd, some ld, some R, y11, y12, y13] S11 = .nx [x0, some (.int z), some (.loc W), some (.lst Gl), some Kd0, some ud, y6, some (.tup [.str "base", .int Zb]), some dd, some ld, some R, y11, y12, y13] S11 := by simp [tb1, tb2]
  refine ⟨some (.loc W), some (.lst Gl), some Kd0, some ud, y6, some (.tup [.str "base", .int Zb]), some dd, some ld, some R, y11, y12, y13, S11, ?_⟩
  unfold l_law_1
  rw [sSeq_ap, q0, sb_nx, sSeq_ap, q1, sb_nx, sSeq_ap, q2, sb_nx, sSeq_ap, q3, sb_nx, sSeq_ap, q4, sb_nx, sSeq_ap, q5, sb_nx, sSeq_ap, q6, sb_nx, sSeq_ap, q7, sb_nx, sSeq_ap, q8, sb_nx, sSeq_ap, q9, sb_nx, sSeq_ap, q10, sb_nx, sSeq_ap, q11, sb_nx, sSeq_ap, q12, sb_nx, q13]
theorem law_loop {m : Nat} (h : 200 ≤ m) {x0 : Option D} : ∀ (ns : List Int) {S : Store} {x1 x2 x3 x4 x5 x6 x7 x8 x9 x10 x11 x12 x13 : Option D}, ∃ y1 y2 y3 y4 y5 y6 y7 y8 y9 y10 y11 y12 y13 S', forL (gN 1) (l_law_1 (ev m)) none (ns.map D.int) [x0, x1, x2, x3, x4, x5, x6, x7, x8, x9, x10, x11, x12, x13] S = .nx [x0, y1, y2, y3, y4, y5, y6, y7, y8, y9, y10, y11, y12, y13] S'
  | [], S, x1, x2, x3, x4, x5, x6, x7, x8, x9, x10, x11, x12, x13 => ⟨x1, x2, x3, x4, x5, x6, x7, x8, x9, x10, x11, x12, x13, S, by simp⟩
  | i :: ns, S, x1, x2, x3, x4, x5, x6, x7, x8, x9, x10, x11, x12, x13 => by
    obtain ⟨z2, z3, z4, z5, z6, z7, z8, z9, z10, z11, z12, z13, S1, e1⟩ := iter_go (m := m) h (S := S) (z := i) (x0 := x0) (x2 := x2) (x3 := x3) (x4 := x4) (x5 := x5) (x6 := x6) (x7 := x7) (x8 := x8) (x9 := x9) (x10 := x10) (x11 := x11) (x12 := x12) (x13 := x13)
    obtain ⟨y1, y2, y3, y4, y5, y6, y7, y8, y9, y10, y11, y12, y13, S', e2⟩ := law_loop h ns (S := S1) (x1 := some (.int i)) (x2 := z2) (x3 := z3) (x4 := z4) (x5 := z5) (x6 := z6) (x7 := z7) (x8 := z8) (x9 := z9) (x10 := z10) (x11 := z11) (x12 := z12) (x13 := z13)
    refine ⟨y1, y2, y3, y4, y5, y6, y7, y8, y9, y10, y11, y12, y13, S', ?_⟩
    rw [← e2, List.map_cons, forL_cons, gN_ap, tgR_some]
    show loopR _ (l_law_1 (ev m) [x0, some (.int i), x2, x3, x4, x5, x6, x7, x8, x9, x10, x11, x12, x13] S) = _
    rw [e1, loopR_nx]
theorem cutL_map {α β : Type} (f : α → β) (xs : List α) (lo hi : Option Int) : cutL (xs.map f) lo hi = (cutL xs lo hi).map f := by
  simp [cutL]
theorem cutL_len {α : Type} (xs : List α) (lo hi : Option Int) : (cutL xs lo hi).length ≤ xs.length := by
  simp [cutL]; omega
theorem law_true (ns : List Int) (hl : ns.length ≤ 63) : ∃ S', Kw.fnB 1 14 (b_law (ev 230)) [.fls (ns.map .int)] [] = .ok (.bl true) S' := by
  obtain ⟨y1, y2, y3, y4, y5, y6, y7, y8, y9, y10, y11, y12, y13, S', e⟩ := law_loop (m := 230) (by omega) (x0 := some (.fls (ns.map .int))) (0 :: 3 :: cutL ns none (some 8)) (S := []) (x1 := none) (x2 := none) (x3 := none) (x4 := none) (x5 := none) (x6 := none) (x7 := none) (x8 := none) (x9 := none) (x10 := none) (x11 := none) (x12 := none) (x13 := none)
  refine ⟨S', ?_⟩
  have hc := cutL_len ns none (some 8)
  have h9 : (cutL ns none (some 8)).length + 1 + 1 ≤ sizeLine := by
    have : sizeLine = 16777216 := rfl
    omega
  simp at e
  rw [b_law]
  simp [cutL_map, h9, e]
end Kz

open PySem PySem.W PyProof.Rows
set_option maxRecDepth 100000 in
set_option maxHeartbeats 0 in
theorem PySem.Challenge.cw_kindswap_k51_kinds_of_terms_holds : PySem.Challenge.rw_kindswap_k51_kinds_of_terms.Holds := by
  w_on; o_law; k_head; (case hw => w_witness2)
  k_fill
  refine Kw.walk_g (l := PySem.Challenge.rw_kindswap_k51_kinds_of_terms) (k := 230 + 1) (x := "_law_script") rfl rfl ⟨⟨by decide, by decide, by decide⟩, rfl⟩ (fun w h Y => PySem.W.kIn_of Y) ?F (fun w H s e s' h => Kw.cx_no h)
  case F =>
    intro w mg fa h KX G hmg
    have t_is_from : Kw.TF (L2.KOf KX) mg "is_from" Kz.s_is_from ["thing", "low", "high"] := by
      unfold L2.KOf
      refine' Kw.tf_mk KX G ?a ?l ?c ?k ?b
      (case a => k_is); (case l => k_is); (case c => k_is); (case k => k_is)
      (case b => exact fun _ _ _ _ _ _ us hl => match us, hl with | [_, _, _], _ => rfl)
    have t_inner_of : Kw.TF (L2.KOf KX) mg "inner_of" Kz.s_inner_of ["thing"] := by
      unfold L2.KOf
      refine' Kw.tf_mk KX G ?a ?l ?c ?k ?b
      (case a => k_is); (case l => k_is); (case c => k_is); (case k => k_is)
      (case b => exact fun _ _ _ _ _ _ us hl => match us, hl with | [_], _ => rfl)
    have t_is_kind : Kw.TF (L2.KOf KX) mg "is_kind" Kz.s_is_kind ["thing"] := by
      unfold L2.KOf
      refine' Kw.tf_mk KX G ?a ?l ?c ?k ?b
      (case a => k_is); (case l => k_is); (case c => k_is); (case k => k_is)
      (case b => exact fun _ _ _ _ _ _ us hl => match us, hl with | [_], _ => rfl)
    have t_sure_given : Kw.TF (L2.KOf KX) mg "sure_given" Kz.s_sure_given ["given"] := by
      unfold L2.KOf
      refine' Kw.tf_mk KX G ?a ?l ?c ?k ?b
      (case a => k_is); (case l => k_is); (case c => k_is); (case k => k_is)
      (case b => exact fun _ _ _ _ _ _ us hl => match us, hl with | [_], _ => rfl)
    have t_is_shape : Kw.TF (L2.KOf KX) mg "is_shape" Kz.s_is_shape ["thing"] := by
      unfold L2.KOf
      refine' Kw.tf_mk KX G ?a ?l ?c ?k ?b
      (case a => k_is); (case l => k_is); (case c => k_is); (case k => k_is)
      (case b => exact fun _ _ _ _ _ _ us hl => match us, hl with | [_], _ => rfl)
    have t_kind_of_given : Kw.TF (L2.KOf KX) mg "kind_of_given" Kz.s_kind_of_given ["k", "given"] := by
      unfold L2.KOf
      refine' Kw.tf_mk KX G ?a ?l ?c ?k ?b
      (case a => k_is); (case l => k_is); (case c => k_is); (case k => k_is)
      (case b => exact fun _ _ _ _ _ _ us hl => match us, hl with | [_, _], _ => rfl)
    have t_kind_of_two : Kw.TF (L2.KOf KX) mg "kind_of_two" Kz.s_kind_of_two ["word", "one", "other"] := by
      unfold L2.KOf
      refine' Kw.tf_mk KX G ?a ?l ?c ?k ?b
      (case a => k_is); (case l => k_is); (case c => k_is); (case k => k_is)
      (case b => exact fun _ _ _ _ _ _ us hl => match us, hl with | [_, _, _], _ => rfl)
    have t_kind_in : Kw.TF (L2.KOf KX) mg "kind_in" Kz.s_kind_in ["term", "given"] := by
      unfold L2.KOf
      refine' Kw.tf_mk KX G ?a ?l ?c ?k ?b
      (case a => k_is); (case l => k_is); (case c => k_is); (case k => k_is)
      (case b => exact fun _ _ _ _ _ _ us hl => match us, hl with | [_, _], _ => rfl)
    have t_sure_kind_in : Kw.TF (L2.KOf KX) mg "sure_kind_in" Kz.s_sure_kind_in ["term", "given"] := by
      unfold L2.KOf
      refine' Kw.tf_mk KX G ?a ?l ?c ?k ?b
      (case a => k_is); (case l => k_is); (case c => k_is); (case k => k_is)
      (case b => exact fun _ _ _ _ _ _ us hl => match us, hl with | [_, _], _ => rfl)
    have t_term_kind : Kw.TF (L2.KOf KX) mg "term_kind" Kz.s_term_kind ["term", "given"] := by
      unfold L2.KOf
      refine' Kw.tf_mk KX G ?a ?l ?c ?k ?b
      (case a => k_is); (case l => k_is); (case c => k_is); (case k => k_is)
      (case b => exact fun _ _ _ _ _ _ us hl => match us, hl with | [_, _], _ => rfl)
    have t__law_well : Kw.TF (L2.KOf KX) mg "_law_well" Kz.s__law_well ["_law_cell"] := by
      unfold L2.KOf
      refine' Kw.tf_mk KX G ?a ?l ?c ?k ?b
      (case a => k_is); (case l => k_is); (case c => k_is); (case k => k_is)
      (case b => exact fun _ _ _ _ _ _ us hl => match us, hl with | [_], _ => rfl)
    have t__law_draw : Kw.TF (L2.KOf KX) mg "_law_draw" Kz.s__law_draw ["_law_well_here", "_law_width"] := by
      unfold L2.KOf
      refine' Kw.tf_mk KX G ?a ?l ?c ?k ?b
      (case a => k_is); (case l => k_is); (case c => k_is); (case k => k_is)
      (case b => exact fun _ _ _ _ _ _ us hl => match us, hl with | [_, _], _ => rfl)
    have t__law_kind : Kw.TF (L2.KOf KX) mg "_law_kind" Kz.s__law_kind ["_law_well_here", "_law_deep_here"] := by
      unfold L2.KOf
      refine' Kw.tf_mk KX G ?a ?l ?c ?k ?b
      (case a => k_is); (case l => k_is); (case c => k_is); (case k => k_is)
      (case b => exact fun _ _ _ _ _ _ us hl => match us, hl with | [_, _], _ => rfl)
    have t__law_ways : Kw.TF (L2.KOf KX) mg "_law_ways" Kz.s__law_ways ["_law_kind_here", "_law_n"] := by
      unfold L2.KOf
      refine' Kw.tf_mk KX G ?a ?l ?c ?k ?b
      (case a => k_is); (case l => k_is); (case c => k_is); (case k => k_is)
      (case b => exact fun _ _ _ _ _ _ us hl => match us, hl with | [_, _], _ => rfl)
    have t__law_flat : Kw.TF (L2.KOf KX) mg "_law_flat" Kz.s__law_flat ["_law_well_here", "_law_kind_here", "_law_given_here", "_law_fuel"] := by
      unfold L2.KOf
      refine' Kw.tf_mk KX G ?a ?l ?c ?k ?b
      (case a => k_is); (case l => k_is); (case c => k_is); (case k => k_is)
      (case b => exact fun _ _ _ _ _ _ us hl => match us, hl with | [_, _, _, _], _ => rfl)
    have t__law_lift : Kw.TF (L2.KOf KX) mg "_law_lift" Kz.s__law_lift ["_law_term", "_law_at"] := by
      unfold L2.KOf
      refine' Kw.tf_mk KX G ?a ?l ?c ?k ?b
      (case a => k_is); (case l => k_is); (case c => k_is); (case k => k_is)
      (case b => exact fun _ _ _ _ _ _ us hl => match us, hl with | [_, _], _ => rfl)
    have t__law_kind_of : Kw.TF (L2.KOf KX) mg "_law_kind_of" Kz.s__law_kind_of ["_law_term", "_law_given_here"] := by
      unfold L2.KOf
      refine' Kw.tf_mk KX G ?a ?l ?c ?k ?b
      (case a => k_is); (case l => k_is); (case c => k_is); (case k => k_is)
      (case b => exact fun _ _ _ _ _ _ us hl => match us, hl with | [_, _], _ => rfl)
    have t__law_wrapped : Kw.TF (L2.KOf KX) mg "_law_wrapped" Kz.s__law_wrapped ["_law_well_here", "_law_term", "_law_given_here"] := by
      unfold L2.KOf
      refine' Kw.tf_mk KX G ?a ?l ?c ?k ?b
      (case a => k_is); (case l => k_is); (case c => k_is); (case k => k_is)
      (case b => exact fun _ _ _ _ _ _ us hl => match us, hl with | [_, _, _], _ => rfl)
    have t__law_grown : Kw.TF (L2.KOf KX) mg "_law_grown" Kz.s__law_grown ["_law_well_here", "_law_term", "_law_given_here"] := by
      unfold L2.KOf
      refine' Kw.tf_mk KX G ?a ?l ?c ?k ?b
      (case a => k_is); (case l => k_is); (case c => k_is); (case k => k_is)
      (case b => exact fun _ _ _ _ _ _ us hl => match us, hl with | [_, _, _], _ => rfl)
    have t__law_size : Kw.TF (L2.KOf KX) mg "_law_size" Kz.s__law_size ["_law_thing"] := by
      unfold L2.KOf
      refine' Kw.tf_mk KX G ?a ?l ?c ?k ?b
      (case a => k_is); (case l => k_is); (case c => k_is); (case k => k_is)
      (case b => exact fun _ _ _ _ _ _ us hl => match us, hl with | [_], _ => rfl)
    have t__law_height : Kw.TF (L2.KOf KX) mg "_law_height" Kz.s__law_height ["_law_thing"] := by
      unfold L2.KOf
      refine' Kw.tf_mk KX G ?a ?l ?c ?k ?b
      (case a => k_is); (case l => k_is); (case c => k_is); (case k => k_is)
      (case b => exact fun _ _ _ _ _ _ us hl => match us, hl with | [_], _ => rfl)
    have t__law_some : Kw.TF (L2.KOf KX) mg "_law_some" Kz.s__law_some ["_law_well_here", "_law_term", "_law_given_here", "_law_most"] := by
      unfold L2.KOf
      refine' Kw.tf_mk KX G ?a ?l ?c ?k ?b
      (case a => k_is); (case l => k_is); (case c => k_is); (case k => k_is)
      (case b => exact fun _ _ _ _ _ _ us hl => match us, hl with | [_, _, _, _], _ => rfl)
    have t__law_given : Kw.TF (L2.KOf KX) mg "_law_given" Kz.s__law_given ["_law_well_here"] := by
      unfold L2.KOf
      refine' Kw.tf_mk KX G ?a ?l ?c ?k ?b
      (case a => k_is); (case l => k_is); (case c => k_is); (case k => k_is)
      (case b => exact fun _ _ _ _ _ _ us hl => match us, hl with | [_], _ => rfl)
    have t__law_good_kind : Kw.TF (L2.KOf KX) mg "_law_good_kind" Kz.s__law_good_kind ["_law_thing"] := by
      unfold L2.KOf
      refine' Kw.tf_mk KX G ?a ?l ?c ?k ?b
      (case a => k_is); (case l => k_is); (case c => k_is); (case k => k_is)
      (case b => exact fun _ _ _ _ _ _ us hl => match us, hl with | [_], _ => rfl)
    have t__law_judged : Kw.TF (L2.KOf KX) mg "_law_judged" Kz.s__law_judged ["_law_term", "_law_given_here"] := by
      unfold L2.KOf
      refine' Kw.tf_mk KX G ?a ?l ?c ?k ?b
      (case a => k_is); (case l => k_is); (case c => k_is); (case k => k_is)
      (case b => exact fun _ _ _ _ _ _ us hl => match us, hl with | [_, _], _ => rfl)
    have t__law_odd : Kw.TF (L2.KOf KX) mg "_law_odd" Kz.s__law_odd ["_law_well_here", "_law_term", "_law_given_here"] := by
      unfold L2.KOf
      refine' Kw.tf_mk KX G ?a ?l ?c ?k ?b
      (case a => k_is); (case l => k_is); (case c => k_is); (case k => k_is)
      (case b => exact fun _ _ _ _ _ _ us hl => match us, hl with | [_, _, _], _ => rfl)
    have t__law_deep : Kw.TF (L2.KOf KX) mg "_law_deep" Kz.s__law_deep ["_law_well_here", "_law_term", "_law_kind_here", "_law_given_here"] := by
      unfold L2.KOf
      refine' Kw.tf_mk KX G ?a ?l ?c ?k ?b
      (case a => k_is); (case l => k_is); (case c => k_is); (case k => k_is)
      (case b => exact fun _ _ _ _ _ _ us hl => match us, hl with | [_, _, _, _], _ => rfl)
    have t__law_long : Kw.TF (L2.KOf KX) mg "_law_long" Kz.s__law_long ["_law_well_here", "_law_given_here"] := by
      unfold L2.KOf
      refine' Kw.tf_mk KX G ?a ?l ?c ?k ?b
      (case a => k_is); (case l => k_is); (case c => k_is); (case k => k_is)
      (case b => exact fun _ _ _ _ _ _ us hl => match us, hl with | [_, _], _ => rfl)
    have t__law_told : Kw.TF (L2.KOf KX) mg "_law_told" Kz.s__law_told ["_law_term", "_law_given_here"] := by
      unfold L2.KOf
      refine' Kw.tf_mk KX G ?a ?l ?c ?k ?b
      (case a => k_is); (case l => k_is); (case c => k_is); (case k => k_is)
      (case b => exact fun _ _ _ _ _ _ us hl => match us, hl with | [_, _], _ => rfl)
    have t__law_due : Kw.TF (L2.KOf KX) mg "_law_due" Kz.s__law_due ["_law_term", "_law_given_here"] := by
      unfold L2.KOf
      refine' Kw.tf_mk KX G ?a ?l ?c ?k ?b
      (case a => k_is); (case l => k_is); (case c => k_is); (case k => k_is)
      (case b => exact fun _ _ _ _ _ _ us hl => match us, hl with | [_, _], _ => rfl)
    have m_all : mg "all" = none := by
      refine' Kw.bl_mk KX G ?a
      (case a => k_is)
    have m_bool : mg "bool" = none := by
      refine' Kw.bl_mk KX G ?a
      (case a => k_is)
    have m_int : mg "int" = none := by
      refine' Kw.bl_mk KX G ?a
      (case a => k_is)
    have m_isinstance : mg "isinstance" = none := by
      refine' Kw.bl_mk KX G ?a
      (case a => k_is)
    have m_len : mg "len" = none := by
      refine' Kw.bl_mk KX G ?a
      (case a => k_is)
    have m_list : mg "list" = none := by
      refine' Kw.bl_mk KX G ?a
      (case a => k_is)
    have m_max : mg "max" = none := by
      refine' Kw.bl_mk KX G ?a
      (case a => k_is)
    have m_range : mg "range" = none := by
      refine' Kw.bl_mk KX G ?a
      (case a => k_is)
    have m_str : mg "str" = none := by
      refine' Kw.bl_mk KX G ?a
      (case a => k_is)
    have m_sum : mg "sum" = none := by
      refine' Kw.bl_mk KX G ?a
      (case a => k_is)
    have m_tuple : mg "tuple" = none := by
      refine' Kw.bl_mk KX G ?a
      (case a => k_is)
    have c_LETTERS : Kw.GC mg "LETTERS" (.str "abcdefgh") := by
      refine' Kw.gc_str KX G ?a
      (case a => k_is)
    have c_MARKS : Kw.GD (L2.KOf KX) w.params mg "MARKS" Kz.kv_MARKS := by
      unfold L2.KOf
      refine' Kw.gd_mk KX G ?a ?l ?k ?s ?e
      (case a => k_is); (case l => k_is); (case k => exact ⟨⟨_, _, rfl, rfl⟩, ⟨_, _, rfl, rfl⟩, trivial⟩); (case s => rfl); (case e => exact (Kw.Ents.cons (v := .str "*") ⟨_, rfl⟩ rfl (Kw.Ents.cons (v := .str ">") ⟨_, rfl⟩ rfl Kw.Ents.nil)))
    have c_PARTS : Kw.GD (L2.KOf KX) w.params mg "PARTS" Kz.kv_PARTS := by
      unfold L2.KOf
      refine' Kw.gd_mk KX G ?a ?l ?k ?s ?e
      (case a => k_is); (case l => k_is); (case k => exact ⟨⟨_, _, rfl, rfl⟩, ⟨_, _, rfl, rfl⟩, ⟨_, _, rfl, rfl⟩, ⟨_, _, rfl, rfl⟩, ⟨_, _, rfl, rfl⟩, ⟨_, _, rfl, rfl⟩, ⟨_, _, rfl, rfl⟩, trivial⟩); (case s => rfl); (case e => exact (Kw.Ents.cons (v := .int 2) ⟨_, rfl⟩ rfl (Kw.Ents.cons (v := .int 3) ⟨_, rfl⟩ rfl (Kw.Ents.cons (v := .int 3) ⟨_, rfl⟩ rfl (Kw.Ents.cons (v := .int 3) ⟨_, rfl⟩ rfl (Kw.Ents.cons (v := .int 2) ⟨_, rfl⟩ rfl (Kw.Ents.cons (v := .int 2) ⟨_, rfl⟩ rfl (Kw.Ents.cons (v := .int 1) ⟨_, rfl⟩ rfl Kw.Ents.nil))))))))
    have x_NoKind : Kw.ExcF (L2.KOf KX) mg "NoKind" := by
      unfold L2.KOf
      refine' Kw.exc_mk KX G ?a ?b ?c ?d ?e
      (case a => k_is); (case b => k_exc); (case c => k_is); (case d => k_is); (case e => k_is)
    have x_NoTerm : Kw.ExcF (L2.KOf KX) mg "NoTerm" := by
      unfold L2.KOf
      refine' Kw.exc_mk KX G ?a ?b ?c ?d ?e
      (case a => k_is); (case b => k_exc); (case c => k_is); (case d => k_is); (case e => k_is)
    have xk_NoKind : Kw.ExcK (L2.KOf KX) mg "NoKind" := by
      unfold L2.KOf
      refine' Kw.exck_mk KX G ?kz20 ⟨?kz21, ?kz22, ?kz23, ?kz24, ?kz25, ?kz26, ?kz27, ?kz28⟩
      (case kz20 => k_is)
      (case kz21 => k_is)
      (case kz22 => k_is)
      (case kz23 => k_is)
      (case kz24 => k_is)
      (case kz25 => k_is)
      (case kz26 => k_is)
      (case kz27 => k_is)
      (case kz28 => k_is)

    have xk_NoTerm : Kw.ExcK (L2.KOf KX) mg "NoTerm" := by
      unfold L2.KOf
      refine' Kw.exck_mk KX G ?kz40 ⟨?kz41, ?kz42, ?kz43, ?kz44, ?kz45, ?kz46, ?kz47, ?kz48⟩
      (case kz40 => k_is)
      (case kz41 => k_is)
      (case kz42 => k_is)
      (case kz43 => k_is)
      (case kz44 => k_is)
      (case kz45 => k_is)
      (case kz46 => k_is)
      (case kz47 => k_is)
      (case kz48 => k_is)

    have xk : ∀ y ∈ Kz.excs, Kw.ExcK (L2.KOf KX) mg y := (List.forall_mem_cons.mpr ⟨xk_NoKind, (List.forall_mem_cons.mpr ⟨xk_NoTerm, (by simp)⟩)⟩)
    have c_SwapError : Kw.CatF (L2.KOf KX) mg Kz.excs "SwapError" (fun y => Kz.isx y "SwapError") := by
      unfold L2.KOf
      refine' Kw.cat_mk KX G ?kz60 ?kz61
      (case kz60 => k_is)

      refine' List.forall_mem_cons.mpr ⟨Kw.caty_mk KX G ?kz80 ?kz81 ?kz82 ?kz83 ?kz84 ?kz85, ?kz86⟩
      (case kz80 => k_is)
      (case kz81 => exact (show Kz.isx "NoKind" "SwapError" = true by decide +kernel))
      (case kz82 => k_is)
      (case kz83 => k_is)
      (case kz84 => k_is)
      (case kz85 => k_is)
      refine' List.forall_mem_cons.mpr ⟨Kw.caty_mk KX G ?kz100 ?kz101 ?kz102 ?kz103 ?kz104 ?kz105, ?kz106⟩
      (case kz100 => k_is)
      (case kz101 => exact (show Kz.isx "NoTerm" "SwapError" = true by decide +kernel))
      (case kz102 => k_is)
      (case kz103 => k_is)
      (case kz104 => k_is)
      (case kz105 => k_is)
      simp
    have i_NoKind_NoKind : Kw.IsxO (L2.KOf KX) mg "NoKind" "NoKind" (Kz.isx "NoKind" "NoKind") := by
      unfold L2.KOf
      refine' Kw.isxo_mk (b' := true) KX G ?kz120 ?kz121 ?kz122 ?kz123 ?kz124 ?kz125 ?kz126
      (case kz120 => k_is)
      (case kz121 => k_is)
      (case kz122 => exact (show Kz.isx "NoKind" "NoKind" = true by decide +kernel))
      (case kz123 => k_is)
      (case kz124 => k_is)
      (case kz125 => k_is)
      (case kz126 => decide)

    have i_NoKind_NoTerm : Kw.IsxO (L2.KOf KX) mg "NoTerm" "NoKind" (Kz.isx "NoTerm" "NoKind") := by
      unfold L2.KOf
      refine' Kw.isxo_mk (b' := false) KX G ?kz140 ?kz141 ?kz142 ?kz143 ?kz144 ?kz145 ?kz146
      (case kz140 => k_is)
      (case kz141 => k_is)
      (case kz142 => exact (show Kz.isx "NoTerm" "NoKind" = false by decide +kernel))
      (case kz143 => k_is)
      (case kz144 => k_is)
      (case kz145 => k_is)
      (case kz146 => decide)

    have i_NoKind : ∀ y ∈ Kz.excs, Kw.IsxO (L2.KOf KX) mg y "NoKind" (Kz.isx y "NoKind") := (List.forall_mem_cons.mpr ⟨i_NoKind_NoKind, (List.forall_mem_cons.mpr ⟨i_NoKind_NoTerm, (by simp)⟩)⟩)
    have i_NoTerm_NoKind : Kw.IsxO (L2.KOf KX) mg "NoKind" "NoTerm" (Kz.isx "NoKind" "NoTerm") := by
      unfold L2.KOf
      refine' Kw.isxo_mk (b' := false) KX G ?kz160 ?kz161 ?kz162 ?kz163 ?kz164 ?kz165 ?kz166
      (case kz160 => k_is)
      (case kz161 => k_is)
      (case kz162 => exact (show Kz.isx "NoKind" "NoTerm" = false by decide +kernel))
      (case kz163 => k_is)
      (case kz164 => k_is)
      (case kz165 => k_is)
      (case kz166 => decide)

    have i_NoTerm_NoTerm : Kw.IsxO (L2.KOf KX) mg "NoTerm" "NoTerm" (Kz.isx "NoTerm" "NoTerm") := by
      unfold L2.KOf
      refine' Kw.isxo_mk (b' := true) KX G ?kz180 ?kz181 ?kz182 ?kz183 ?kz184 ?kz185 ?kz186
      (case kz180 => k_is)
      (case kz181 => k_is)
      (case kz182 => exact (show Kz.isx "NoTerm" "NoTerm" = true by decide +kernel))
      (case kz183 => k_is)
      (case kz184 => k_is)
      (case kz185 => k_is)
      (case kz186 => decide)

    have i_NoTerm : ∀ y ∈ Kz.excs, Kw.IsxO (L2.KOf KX) mg y "NoTerm" (Kz.isx y "NoTerm") := (List.forall_mem_cons.mpr ⟨i_NoTerm_NoKind, (List.forall_mem_cons.mpr ⟨i_NoTerm_NoTerm, (by simp)⟩)⟩)
    have i_NoWorth_NoKind : Kw.IsxO (L2.KOf KX) mg "NoKind" "NoWorth" (Kz.isx "NoKind" "NoWorth") := by
      unfold L2.KOf
      refine' Kw.isxo_mk (b' := false) KX G ?kz200 ?kz201 ?kz202 ?kz203 ?kz204 ?kz205 ?kz206
      (case kz200 => k_is)
      (case kz201 => k_is)
      (case kz202 => exact (show Kz.isx "NoKind" "NoWorth" = false by decide +kernel))
      (case kz203 => k_is)
      (case kz204 => k_is)
      (case kz205 => k_is)
      (case kz206 => decide)

    have i_NoWorth_NoTerm : Kw.IsxO (L2.KOf KX) mg "NoTerm" "NoWorth" (Kz.isx "NoTerm" "NoWorth") := by
      unfold L2.KOf
      refine' Kw.isxo_mk (b' := false) KX G ?kz220 ?kz221 ?kz222 ?kz223 ?kz224 ?kz225 ?kz226
      (case kz220 => k_is)
      (case kz221 => k_is)
      (case kz222 => exact (show Kz.isx "NoTerm" "NoWorth" = false by decide +kernel))
      (case kz223 => k_is)
      (case kz224 => k_is)
      (case kz225 => k_is)
      (case kz226 => decide)

    have i_NoWorth : ∀ y ∈ Kz.excs, Kw.IsxO (L2.KOf KX) mg y "NoWorth" (Kz.isx y "NoWorth") := (List.forall_mem_cons.mpr ⟨i_NoWorth_NoKind, (List.forall_mem_cons.mpr ⟨i_NoWorth_NoTerm, (by simp)⟩)⟩)
    have T : Kz.Txt (L2.KOf KX) w.params mg := ⟨t_is_from, t_inner_of, t_is_kind, t_sure_given, t_is_shape, t_kind_of_given, t_kind_of_two, t_kind_in, t_sure_kind_in, t_term_kind, t__law_well, t__law_draw, t__law_kind, t__law_ways, t__law_flat, t__law_lift, t__law_kind_of, t__law_wrapped, t__law_grown, t__law_size, t__law_height, t__law_some, t__law_given, t__law_good_kind, t__law_judged, t__law_odd, t__law_deep, t__law_long, t__law_told, t__law_due, m_all, m_bool, m_int, m_isinstance, m_len, m_list, m_max, m_range, m_str, m_sum, m_tuple, c_LETTERS, c_MARKS, c_PARTS, x_NoKind, x_NoTerm, xk, c_SwapError, i_NoKind, i_NoTerm, i_NoWorth⟩
    refine' Kw.law_mk (st := Kz.s_law) (k := 230) KX G hmg ?a ?l ?c ?k (fun _ _ _ _ _ _ us hl => match us, hl with | [_], _ => rfl) Kz.sc_law (fun base Kb Gb => Kz.ok_law T (Kz.all_ok T 230)) (fun ns h hb => Kz.law_true ns h)
    (case a => k_is); (case l => k_is); (case c => k_is); (case k => k_is)

