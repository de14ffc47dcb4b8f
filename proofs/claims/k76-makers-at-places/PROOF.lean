import PyProof.Rows.All
import Wide.All
import OpenK.AllK
import Wide.FinOn
import PySem.Challenge.RW_coilkind_k76_makers_at_places
import HandS.ForMost
import HandS.Walk
import HandS.IsInst
import HandS.Deep
import HandS.TupAny
import KE.KeyNested
import KE.KDictKeyed
import HandS.Wide
import HandS.TupLe
import HandS.More
import HandS.Zip
import HandS.Replace
import KE.KDictPairs
import PyProof.Rows.TupDisplay
import KE.DataFind
import KE.SortData
import HandS.Conv
import KE.KTupSum
import KE.KRevSl
import HandS.ListItems
import HandS.SortKw
import KE.DataMinMax
import HandS.SetKeys
import HandS.TupSets
import KE.GoesEnum
import HandS.Call
import HandS.SetTxt0
import HandS.SetFor
import KE.KDictZip
import KE.KItemsList
set_option Elab.async false
set_option linter.all false
set_option maxRecDepth 100000
/-! CkA: data without a heap (P), values (D), the own heap (DO), and how they stand in the layer's abstract heap. -/
namespace CK
open PySem PySem.Spec PyProof.Rows L2

inductive P where
  | non | bl (b : Bool) | int (i : Int) | str (x : Str)
  | ty (n : String)
  | tup (l : List P) | ktup (l : List P) | ftup (l : List P) | lst (l : List P) | flst (l : List P) | dK (l : List (Key × P)) | dT (l : List (List Key × P))

inductive D where
  | p (x : P) | ref (i : Nat)

inductive DO where
  | lst (l : List D) | dK (l : List (Key × D)) | dT (l : List (List Key × D)) | kK (l : List (Key × D)) | kT (l : List (List Key × D)) | tpl (l : List D) | dN (w : World) (l : List (NestedKey × D)) | dead

abbrev DH := List DO
abbrev DS := List (Option D)

def D.below (n : Nat) : D → Bool
  | .p _ => true
  | .ref i => decide (i < n)
def DO.below (n : Nat) : DO → Bool
  | .lst l => l.all (D.below n)
  | .dK l => l.all fun q => q.2.below n
  | .dT l => l.all fun q => q.2.below n
  | .kK l => l.all fun q => q.2.below n
  | .kT l => l.all fun q => q.2.below n
  | .tpl l => l.all (D.below n)
  | .dN _ l => l.all fun q => q.2.below n
  | .dead => true
/-- may be changed, or is held -/
def DO.lv : DO → Bool
  | .tpl _ => false
  | .dead => false
  | _ => true

/-- a tuple of the written part -/
def Kt (K : PySem.W.Frag) (a : Addr) (xs : List V) : Prop :=
  ∃ (o : Obj) (its : Array Value) (n : Nat), K.lookup a = some o ∧ o.cls = .type "tuple" ∧ o.data = .seq its n ∧ its.size ≤ sizeLine ∧ Vals xs its.toList
/-- a tuple whose object is known, and has no dict -/
def Ft (H : Hp) (a : Addr) (vs : List V) : Prop := ∃ o : Obj, H a = some (.frz o (.tup vs)) ∧ o.dict = none
theorem Ft.sq {K : PySem.W.Frag} {H : Hp} {a : Addr} {xs : List V} (h : Ft H a xs) : SqT K H a xs := let ⟨o, h, _⟩ := h; .inl (.inr ⟨o, h⟩)
/-- a list of the written part -/
def Kl (K : PySem.W.Frag) (a : Addr) (xs : List V) : Prop :=
  ∃ (o : Obj) (its : Array Value) (n : Nat), K.lookup a = some o ∧ o.cls = .type "list" ∧ o.dict = none ∧ o.data = .seq its n ∧ its.size ≤ sizeLine ∧ Vals xs its.toList
theorem Kt.sq {K : PySem.W.Frag} {H : Hp} {a : Addr} {xs : List V} (h : Kt K a xs) : SqT K H a xs := .inr h

mutual
inductive RP (K : PySem.W.Frag) (H : Hp) (L : Addr → Prop) : P → V → Prop
  | non : RP K H L .non .non
  | bl (b : Bool) : RP K H L (.bl b) (.bl b)
  | int (i : Int) : RP K H L (.int i) (.int i)
  | str (x : Str) : RP K H L (.str x) (.str x)
  | ty (n : String) : RP K H L (.ty n) (.ty n)
  | tup {a : Addr} {vs : List V} {ps : List P} : H a = some (.tup vs) → RPs K H L ps vs → RP K H L (.tup ps) (.ref a)
  | ktup {a : Addr} {vs : List V} {ps : List P} : Kt K a vs → RPs K H L ps vs → RP K H L (.ktup ps) (.ref a)
  | ftup {a : Addr} {vs : List V} {ps : List P} : Ft H a vs → ¬ L a → RPs K H L ps vs → RP K H L (.ftup ps) (.ref a)
  | lst {a : Addr} {vs : List V} {ps : List P} : H a = some (.lst vs) → ¬ L a → RPs K H L ps vs → RP K H L (.lst ps) (.ref a)
  | flst {a : Addr} {vs : List V} {ps : List P} : ((∃ o, H a = some (.frz o (.lst vs))) ∧ ¬ L a ∨ Kl K a vs) → RPs K H L ps vs → RP K H L (.flst ps) (.ref a)
  | dK {a : Addr} {kvs : List (Key × V)} {l : List (Key × P)} : (∃ o, H a = some (.frz o (.dK kvs))) → ¬ L a → RPk K H L l kvs → RP K H L (.dK l) (.ref a)
  | dT {a : Addr} {kvs : List (List Key × V)} {l : List (List Key × P)} : (∃ o, H a = some (.frz o (.dT kvs))) → ¬ L a → RPt K H L l kvs → RP K H L (.dT l) (.ref a)
inductive RPs (K : PySem.W.Frag) (H : Hp) (L : Addr → Prop) : List P → List V → Prop
  | nil : RPs K H L [] []
  | cons {p : P} {v : V} {ps : List P} {vs : List V} : RP K H L p v → RPs K H L ps vs → RPs K H L (p :: ps) (v :: vs)
inductive RPk (K : PySem.W.Frag) (H : Hp) (L : Addr → Prop) : List (Key × P) → List (Key × V) → Prop
  | nil : RPk K H L [] []
  | cons {k : Key} {p : P} {v : V} {ps : List (Key × P)} {vs : List (Key × V)} : RP K H L p v → RPk K H L ps vs → RPk K H L ((k, p) :: ps) ((k, v) :: vs)
inductive RPt (K : PySem.W.Frag) (H : Hp) (L : Addr → Prop) : List (List Key × P) → List (List Key × V) → Prop
  | nil : RPt K H L [] []
  | cons {k : List Key} {p : P} {v : V} {ps : List (List Key × P)} {vs : List (List Key × V)} : RP K H L p v → RPt K H L ps vs → RPt K H L ((k, p) :: ps) ((k, v) :: vs)
end

section
variable {K : PySem.W.Frag} {H H' : Hp} {L L' : Addr → Prop}
theorem flst_sq {a : Addr} {vs : List V} (h : (∃ o, H a = some (.frz o (.lst vs))) ∧ ¬ L a ∨ Kl K a vs) : SqL K H a vs := by
  rcases h with ⟨⟨o, h⟩, _⟩ | h
  · exact .inl (.inr ⟨o, h⟩)
  · exact .inr h
theorem Rd.keepL {a : Addr} {u : HO} (keep : ∀ a u, H a = some u → ¬ L a → H' a = some u ∧ ¬ L' a) (h : Rd H a u) (n : ¬ L a) : Rd H' a u ∧ ¬ L' a := by
  rcases h with h | ⟨o, h⟩
  · exact ⟨.inl (keep a _ h n).1, (keep a _ h n).2⟩
  · exact ⟨.inr ⟨o, (keep a _ h n).1⟩, (keep a _ h n).2⟩
mutual
theorem RP.mono (keep : ∀ a u, H a = some u → ¬ L a → H' a = some u ∧ ¬ L' a) (tups : ∀ a vs, H a = some (.tup vs) → H' a = some (.tup vs)) : ∀ {p : P} {v : V}, RP K H L p v → RP K H' L' p v
  | _, _, .non => .non
  | _, _, .bl b => .bl b
  | _, _, .int i => .int i
  | _, _, .str x => .str x
  | _, _, .ty x => .ty x
  | _, _, .tup h r => .tup (tups _ _ h) (RPs.mono keep tups r)
  | _, _, .ktup h r => .ktup h (RPs.mono keep tups r)
  | _, _, .ftup h n r => let ⟨o, q, d⟩ := h; .ftup ⟨o, (keep _ _ q n).1, d⟩ (keep _ _ q n).2 (RPs.mono keep tups r)
  | _, _, .lst h n r => .lst (keep _ _ h n).1 (keep _ _ h n).2 (RPs.mono keep tups r)
  | _, _, .flst h r => .flst (h.imp (fun ⟨⟨o, q⟩, n⟩ => ⟨⟨o, (keep _ _ q n).1⟩, (keep _ _ q n).2⟩) fun q => q) (RPs.mono keep tups r)
  | _, _, .dK h n r => let ⟨o, q⟩ := h; .dK ⟨o, (keep _ _ q n).1⟩ (keep _ _ q n).2 (RPk.mono keep tups r)
  | _, _, .dT h n r => let ⟨o, q⟩ := h; .dT ⟨o, (keep _ _ q n).1⟩ (keep _ _ q n).2 (RPt.mono keep tups r)
theorem RPs.mono (keep : ∀ a u, H a = some u → ¬ L a → H' a = some u ∧ ¬ L' a) (tups : ∀ a vs, H a = some (.tup vs) → H' a = some (.tup vs)) : ∀ {p : List P} {v : List V}, RPs K H L p v → RPs K H' L' p v
  | _, _, .nil => .nil
  | _, _, .cons h r => .cons (RP.mono keep tups h) (RPs.mono keep tups r)
theorem RPk.mono (keep : ∀ a u, H a = some u → ¬ L a → H' a = some u ∧ ¬ L' a) (tups : ∀ a vs, H a = some (.tup vs) → H' a = some (.tup vs)) : ∀ {p : List (Key × P)} {v : List (Key × V)}, RPk K H L p v → RPk K H' L' p v
  | _, _, .nil => .nil
  | _, _, .cons h r => .cons (RP.mono keep tups h) (RPk.mono keep tups r)
theorem RPt.mono (keep : ∀ a u, H a = some u → ¬ L a → H' a = some u ∧ ¬ L' a) (tups : ∀ a vs, H a = some (.tup vs) → H' a = some (.tup vs)) : ∀ {p : List (List Key × P)} {v : List (List Key × V)}, RPt K H L p v → RPt K H' L' p v
  | _, _, .nil => .nil
  | _, _, .cons h r => .cons (RP.mono keep tups h) (RPt.mono keep tups r)
end
end
end CK
/-! CkB: worlds, what is kept from one to the next, new objects, changed objects. -/
namespace CK
open PySem PySem.Spec PyProof.Rows L2

structure Wd where
  H : Hp
  R : Addr → Prop
  ι : List Addr
  S : DH
def Wd.L (W : Wd) (a : Addr) : Prop := W.R a ∨ ∃ (i : Nat) (o : DO), W.ι[i]? = some a ∧ W.S[i]? = some o ∧ o.lv = true

def RD (K : PySem.W.Frag) (W : Wd) : D → V → Prop
  | .p x, v => RP K W.H W.L x v
  | .ref i, v => ∃ a, W.ι[i]? = some a ∧ v = .ref a
abbrev RDs (K : PySem.W.Frag) (W : Wd) : List D → List V → Prop := Paired (RD K W)
abbrev RDk {κ : Type} (K : PySem.W.Frag) (W : Wd) : List (κ × D) → List (κ × V) → Prop := Paired fun (p : κ × D) (q : κ × V) => p.1 = q.1 ∧ RD K W p.2 q.2

/-! ### dicts whose keys are nested tuples -/
abbrev NE := NestedKey × Addr × V
def EN (w : World) (y : NestedKey × Addr × Value) : DictEntry := ⟨y.1.hash w, .ref y.2.1, y.2.2⟩
def NV : List NE → List (NestedKey × Addr × Value) → Prop := Paired fun (p : NE) (q : NestedKey × Addr × Value) => p.1 = q.1 ∧ p.2.1 = q.2.1 ∧ RelV p.2.2 q.2.2
/-- the dict at a, by its entries -/
abbrev dNO (w : World) (a : Addr) (xs : List NE) : HO := .ext fun h => (a == sysModules) = false ∧ xs.length ≤ sizeLine ∧ ∃ ys, NV xs ys ∧ ∃ o es ep, h.get? a = some o ∧ o.ExactDict ∧ o.data = .dict es ep ∧ es.toList = ys.map (EN w) ∧ (ys.map (·.1)).Nodup
mutual
/-- a key -/
def nkP : P → Option NestedKey
  | .int i => some (.num i)
  | .str x => some (.text x)
  | .tup l => (nkPs l).map .tup
  | .ktup l => (nkPs l).map .tup
  | .ftup l => (nkPs l).map .tup
  | _ => none
def nkPs : List P → Option (List NestedKey)
  | [] => some []
  | x :: l => match nkP x, nkPs l with
    | some k, some ks => some (k :: ks)
    | _, _ => none
end
def RN (K : PySem.W.Frag) (W : Wd) : List (NestedKey × D) → List NE → Prop := Paired fun (p : NestedKey × D) (q : NE) => p.1 = q.1 ∧ (p.1.depth ≤ 8 ∧ ∃ x : P, nkP x = some p.1 ∧ RD K W (.p x) (.ref q.2.1)) ∧ RD K W p.2 q.2.2
def RO (K : PySem.W.Frag) (W : Wd) (a : Addr) : DO → Prop
  | .lst l => ∃ vs, W.H a = some (.lst vs) ∧ RDs K W l vs
  | .dK l => ∃ kvs, W.H a = some (.dK kvs) ∧ RDk K W l kvs
  | .dT l => ∃ kvs, W.H a = some (.dT kvs) ∧ RDk K W l kvs
  | .kK l => ∃ o kvs, W.H a = some (.frz o (.dK kvs)) ∧ RDk K W l kvs
  | .kT l => ∃ o kvs, W.H a = some (.frz o (.dT kvs)) ∧ RDk K W l kvs
  | .tpl l => ∃ vs, W.H a = some (.tup vs) ∧ RDs K W l vs
  | .dN w l => ∃ xs, W.H a = some (dNO w a xs) ∧ RN K W l xs
  | .dead => True

/-- what may be held apart: a list, a dict -/
def isLD : HO → Bool
  | .lst _ => true | .dK _ => true | .dT _ => true | .frz _ (.dK _) => true | .frz _ (.dT _) => true | _ => false
structure RS (K : PySem.W.Frag) (W : Wd) : Prop where
  len : W.ι.length = W.S.length
  nd : ∀ (i j : Nat) (a : Addr), W.ι[i]? = some a → W.ι[j]? = some a → i = j
  dom : ∀ (i : Nat) (a : Addr), W.ι[i]? = some a → ∃ u, W.H a = some u
  obj : ∀ (i : Nat) (o : DO) (a : Addr), W.S[i]? = some o → W.ι[i]? = some a → RO K W a o
  dis : ∀ (i : Nat) (a : Addr), W.ι[i]? = some a → ¬ W.R a
  rd : ∀ a, W.R a → ∃ u, W.H a = some u ∧ isLD u = true
  wf : ∀ (i : Nat) (o : DO), W.S[i]? = some o → o.below W.S.length = true

structure Ext (W W' : Wd) : Prop where
  pre : W.ι <+: W'.ι
  R : ∀ a, W.R a → W'.R a
  keep : ∀ a u, W.H a = some u → ¬ W.L a → W'.H a = some u ∧ ¬ W'.L a
  rs : ∀ a, W.R a → W'.H a = W.H a
  tups : ∀ a vs, W.H a = some (.tup vs) → W'.H a = some (.tup vs)
  frz : ∀ a o u, W.H a = some (.frz o u) → W'.H a = some (.frz o u)

section
variable {K : PySem.W.Frag} {W W' W1 W2 W3 : Wd}
theorem Ext.refl : Ext W W := ⟨List.prefix_refl _, fun _ h => h, fun _ _ h n => ⟨h, n⟩, fun _ _ => rfl, fun _ _ h => h, fun _ _ _ h => h⟩
theorem Ext.trans (a : Ext W1 W2) (b : Ext W2 W3) : Ext W1 W3 :=
  ⟨a.pre.trans b.pre, fun x h => b.R x (a.R x h), fun x u h n => b.keep x u (a.keep x u h n).1 (a.keep x u h n).2, fun x h => (b.rs x (a.R x h)).trans (a.rs x h), fun x vs h => b.tups x vs (a.tups x vs h), fun x o u h => b.frz x o u (a.frz x o u h)⟩
theorem pre_get {ι ι' : List Addr} {i : Nat} {a : Addr} (h : ι <+: ι') (e : ι[i]? = some a) : ι'[i]? = some a := by
  obtain ⟨t, rfl⟩ := h
  have hi : i < ι.length := by
    rcases Nat.lt_or_ge i ι.length with q | q
    · exact q
    · rw [List.getElem?_eq_none q] at e; cases e
  rw [List.getElem?_append_left hi]; exact e
theorem RD.ext (x : Ext W W') : ∀ {d : D} {v : V}, RD K W d v → RD K W' d v
  | .p _, _, h => RP.mono (H := W.H) (L := W.L) x.keep x.tups h
  | .ref _, _, ⟨a, e, r⟩ => ⟨a, pre_get x.pre e, r⟩
theorem Paired.mono {α β : Type} {F G : α → β → Prop} (h : ∀ a b, F a b → G a b) : ∀ {xs : List α} {ys : List β}, Paired F xs ys → Paired G xs ys
  | _, _, .nil => .nil
  | _, _, .cons a r => .cons (h _ _ a) (Paired.mono h r)
theorem RDs.ext (x : Ext W W') {d : List D} {v : List V} (h : RDs K W d v) : RDs K W' d v := Paired.mono (fun _ _ => RD.ext x) h
theorem RDk.ext {κ : Type} (x : Ext W W') {d : List (κ × D)} {v : List (κ × V)} (h : RDk K W d v) : RDk K W' d v := Paired.mono (fun _ _ q => ⟨q.1, RD.ext x q.2⟩) h
theorem RN.mono (h : ∀ d v, RD K W d v → RD K W' d v) {l : List (NestedKey × D)} {xs : List NE} (r : RN K W l xs) : RN K W' l xs :=
  Paired.mono (fun _ _ ⟨a, ⟨b, x, c, d⟩, e⟩ => ⟨a, ⟨b, x, c, h _ _ d⟩, h _ _ e⟩) r
theorem D.mono {m n : Nat} (h : m ≤ n) : ∀ {d : D}, d.below m = true → d.below n = true
  | .p _, _ => rfl
  | .ref i, b => decide_eq_true (Nat.lt_of_lt_of_le (of_decide_eq_true b) h)
theorem D.all_mono {m n : Nat} (h : m ≤ n) : ∀ {l : List D}, l.all (D.below m) = true → l.all (D.below n) = true
  | [], _ => rfl
  | d :: l, b => by
    rw [List.all_cons, Bool.and_eq_true] at b ⊢
    exact ⟨D.mono h b.1, D.all_mono h b.2⟩
theorem D.allk_mono {κ : Type} {m n : Nat} (h : m ≤ n) : ∀ {l : List (κ × D)}, (l.all fun q => q.2.below m) = true → (l.all fun q => q.2.below n) = true
  | [], _ => rfl
  | d :: l, b => by
    rw [List.all_cons, Bool.and_eq_true] at b ⊢
    exact ⟨D.mono h b.1, D.allk_mono h b.2⟩
theorem DO.mono {m n : Nat} (h : m ≤ n) : ∀ {o : DO}, o.below m = true → o.below n = true
  | .lst _, b => D.all_mono h b
  | .dK _, b => D.allk_mono h b
  | .dT _, b => D.allk_mono h b
  | .kK _, b => D.allk_mono h b
  | .kT _, b => D.allk_mono h b
  | .tpl _, b => D.all_mono h b
  | .dN _ _, b => D.allk_mono h b
  | .dead, _ => rfl
theorem RD.below (s : RS K W) : ∀ {d : D} {v : V}, RD K W d v → d.below W.S.length = true
  | .p _, _, _ => rfl
  | .ref i, _, ⟨a, e, _⟩ => by
    have hi : i < W.ι.length := by
      rcases Nat.lt_or_ge i W.ι.length with q | q
      · exact q
      · rw [List.getElem?_eq_none q] at e; cases e
    exact decide_eq_true (by rw [← s.len]; exact hi)
theorem RDs.below (s : RS K W) {l : List D} {vs : List V} (h : RDs K W l vs) : l.all (D.below W.S.length) = true := by
  induction h with
  | nil => rfl
  | cons a _ ih => rw [List.all_cons, RD.below s a, ih]; rfl
theorem RDk.below {κ : Type} (s : RS K W) {l : List (κ × D)} {vs : List (κ × V)} (h : RDk K W l vs) : (l.all fun q => q.2.below W.S.length) = true := by
  induction h with
  | nil => rfl
  | cons a _ ih => rw [List.all_cons, RD.below s a.2, ih]; rfl
theorem RO.ext_same {a : Addr} {o : DO} (x : Ext W W') (e : W'.H a = W.H a) (h : RO K W a o) : RO K W' a o := by
  cases o with
  | lst l => obtain ⟨vs, h1, h2⟩ := h; exact ⟨vs, by rw [e]; exact h1, h2.ext x⟩
  | dK l => obtain ⟨vs, h1, h2⟩ := h; exact ⟨vs, by rw [e]; exact h1, RDk.ext x h2⟩
  | dT l => obtain ⟨vs, h1, h2⟩ := h; exact ⟨vs, by rw [e]; exact h1, RDk.ext x h2⟩
  | kK l => obtain ⟨o, vs, h1, h2⟩ := h; exact ⟨o, vs, by rw [e]; exact h1, RDk.ext x h2⟩
  | kT l => obtain ⟨o, vs, h1, h2⟩ := h; exact ⟨o, vs, by rw [e]; exact h1, RDk.ext x h2⟩
  | tpl l => obtain ⟨vs, h1, h2⟩ := h; exact ⟨vs, by rw [e]; exact h1, h2.ext x⟩
  | dN w l => obtain ⟨vs, h1, h2⟩ := h; exact ⟨vs, by rw [e]; exact h1, h2.mono fun _ _ => RD.ext x⟩
  | dead => exact True.intro
theorem RS.not_tup (s : RS K W) {a : Addr} (l : W.L a) {vs : List V} : W.H a ≠ some (.tup vs) := by
  rcases l with r | ⟨i, o, e1, e2, ne⟩
  · obtain ⟨xs, e, hxs⟩ := s.rd a r; intro z; rw [e] at z; cases z; cases hxs
  · have h := s.obj i o a e2 e1
    cases o with
    | lst l => obtain ⟨vs, h1, _⟩ := h; rw [h1]; simp
    | dK l => obtain ⟨vs, h1, _⟩ := h; rw [h1]; simp
    | dT l => obtain ⟨vs, h1, _⟩ := h; rw [h1]; simp
    | kK l => obtain ⟨o, vs, h1, _⟩ := h; rw [h1]; simp
    | kT l => obtain ⟨o, vs, h1, _⟩ := h; rw [h1]; simp
    | dN w l => obtain ⟨vs, h1, _⟩ := h; rw [h1]; simp
    | tpl l => cases ne
    | dead => cases ne
theorem RS.live_dom (s : RS K W) {a : Addr} (l : W.L a) : ∃ u, W.H a = some u := by
  rcases l with r | ⟨i, o, e1, e2, ne⟩
  · obtain ⟨xs, e, hxs⟩ := s.rd a r; exact ⟨_, e⟩
  · exact s.dom i a e1

/-- a new object, not tracked by S -/
def Wd.new (W : Wd) (p : Addr) (u : HO) : Wd := { W with H := upd W.H p u }
theorem Wd.new_L {p : Addr} {u : HO} : (W.new p u).L = W.L := rfl
theorem Ext.new {p : Addr} {u : HO} (s : RS K W) (hp : W.H p = none) : Ext W (W.new p u) := by
  have ne : ∀ a x, W.H a = some x → a ≠ p := fun a x e z => by subst z; rw [hp] at e; cases e
  refine ⟨List.prefix_refl _, fun _ h => h, fun a x h n => ⟨(upd_ne (ne a x h)).trans h, n⟩, fun a r => ?_, fun a vs h => (upd_ne (ne a _ h)).trans h, fun a o x h => (upd_ne (ne a _ h)).trans h⟩
  obtain ⟨xs, e, hxs⟩ := s.rd a r
  exact upd_ne (ne a _ e)
theorem RS.new {p : Addr} {u : HO} (s : RS K W) (hp : W.H p = none) : RS K (W.new p u) := by
  have x := Ext.new (u := u) s hp
  have ne : ∀ a y, W.H a = some y → a ≠ p := fun a y e z => by subst z; rw [hp] at e; cases e
  refine ⟨s.len, s.nd, fun i a e => ?_, fun i o a h1 h2 => ?_, s.dis, fun a r => ?_, s.wf⟩
  · obtain ⟨y, h⟩ := s.dom i a e
    exact ⟨y, (upd_ne (ne a y h)).trans h⟩
  · obtain ⟨y, h⟩ := s.dom i a h2
    exact (s.obj i o a h1 h2).ext_same x (upd_ne (ne a y h))
  · obtain ⟨xs, e, hxs⟩ := s.rd a r
    exact ⟨xs, (upd_ne (ne a _ e)).trans e, hxs⟩
theorem RP.fresh {p : Addr} {u : HO} (s : RS K W) (hp : W.H p = none) : ¬ (W.new p u).L p := fun l => by
  obtain ⟨y, e⟩ := s.live_dom l
  rw [hp] at e; cases e

/-- a new object, tracked at the end of S -/
def Wd.add (W : Wd) (p : Addr) (u : HO) (o : DO) : Wd := { W with H := upd W.H p u, ι := W.ι ++ [p], S := W.S ++ [o] }
theorem get_snoc {α : Type} {l : List α} {x y : α} {i : Nat} (h : (l ++ [x])[i]? = some y) : l[i]? = some y ∨ (i = l.length ∧ y = x) := by
  by_cases hi : i < l.length
  · rw [List.getElem?_append_left hi] at h; exact .inl h
  · rw [List.getElem?_append_right (by omega)] at h
    have : i - l.length = 0 := by
      rcases Nat.eq_zero_or_pos (i - l.length) with z | z
      · exact z
      · rw [List.getElem?_eq_none (by simp; omega)] at h; cases h
    rw [this] at h
    simp at h
    exact .inr ⟨by omega, h.symm⟩
theorem get_lt {α : Type} {l : List α} {y : α} {i : Nat} (h : l[i]? = some y) : i < l.length := by
  rcases Nat.lt_or_ge i l.length with q | q
  · exact q
  · rw [List.getElem?_eq_none q] at h; cases h
theorem Ext.add {p : Addr} {u : HO} {o : DO} (s : RS K W) (hp : W.H p = none) : Ext W (W.add p u o) := by
  have ne : ∀ a x, W.H a = some x → a ≠ p := fun a x e z => by subst z; rw [hp] at e; cases e
  refine ⟨List.prefix_append _ _, fun _ h => h, fun a x h n => ⟨(upd_ne (ne a x h)).trans h, fun l => ?_⟩, fun a r => ?_, fun a vs h => (upd_ne (ne a _ h)).trans h, fun a o x h => (upd_ne (ne a _ h)).trans h⟩
  · rcases l with r | ⟨i, o', e1, e2, nd⟩
    · exact n (.inl r)
    · rcases get_snoc e1 with e1 | ⟨_, e1⟩
      · rcases get_snoc e2 with e2 | ⟨q, _⟩
        · exact n (.inr ⟨i, o', e1, e2, nd⟩)
        · have := get_lt e1
          have := s.len
          omega
      · exact ne a x h e1
  · obtain ⟨xs, e, hxs⟩ := s.rd a r
    exact upd_ne (ne a _ e)
theorem RS.add {p : Addr} {u : HO} {o : DO} (s : RS K W) (hp : W.H p = none) (ho : RO K (W.add p u o) p o) (hb : o.below W.S.length = true) : RS K (W.add p u o) := by
  have x := Ext.add (u := u) (o := o) s hp
  have ne : ∀ a y, W.H a = some y → a ≠ p := fun a y e z => by subst z; rw [hp] at e; cases e
  have old : ∀ (i : Nat) a, (W.ι ++ [p])[i]? = some a → a ≠ p → W.ι[i]? = some a := fun i a e n => by
    rcases get_snoc e with e | ⟨_, e⟩
    · exact e
    · exact absurd e n
  refine ⟨?_, fun i j a h1 h2 => ?_, fun i a e => ?_, fun i o' a h1 h2 => ?_, fun i a e => ?_, fun a r => ?_, fun i o' h => ?_⟩
  · show (W.ι ++ [p]).length = (W.S ++ [o]).length
    rw [List.length_append, List.length_append, s.len]; rfl
  · rcases get_snoc h1 with e1 | ⟨q1, e1⟩ <;> rcases get_snoc h2 with e2 | ⟨q2, e2⟩
    · exact s.nd i j a e1 e2
    · obtain ⟨y, h⟩ := s.dom i a e1; exact absurd e2 (ne a y h)
    · obtain ⟨y, h⟩ := s.dom j a e2; exact absurd e1 (ne a y h)
    · rw [q1, q2]
  · rcases get_snoc e with e | ⟨_, e⟩
    · obtain ⟨y, h⟩ := s.dom i a e
      exact ⟨y, (upd_ne (ne a y h)).trans h⟩
    · subst e; exact ⟨u, upd_same⟩
  · rcases get_snoc h2 with e2 | ⟨q2, e2⟩
    · rcases get_snoc h1 with e1 | ⟨q1, e1⟩
      · obtain ⟨y, h⟩ := s.dom i a e2
        exact (s.obj i o' a e1 e2).ext_same x (upd_ne (ne a y h))
      · have := get_lt e2
        have := s.len
        omega
    · rcases get_snoc h1 with e1 | ⟨q1, e1⟩
      · have := get_lt e1
        have := s.len
        omega
      · subst e1; subst e2; exact ho
  · rcases get_snoc e with e | ⟨_, e⟩
    · exact s.dis i a e
    · subst e
      intro r
      obtain ⟨xs, q, hxs⟩ := s.rd _ r
      rw [hp] at q; cases q
  · obtain ⟨xs, e, hxs⟩ := s.rd a r
    exact ⟨xs, (upd_ne (ne a _ e)).trans e, hxs⟩
  · show o'.below (W.S ++ [o]).length = true
    have hle : W.S.length ≤ (W.S ++ [o]).length := by rw [List.length_append]; omega
    rcases get_snoc h with h | ⟨q, e⟩
    · exact DO.mono hle (s.wf i o' h)
    · subst e; exact DO.mono hle hb

/-- a live object changed -/
def Wd.put (W : Wd) (i : Nat) (a : Addr) (u : HO) (o : DO) : Wd := { W with H := upd W.H a u, S := W.S.set i o }
def isLk : DO → Bool
  | .kK _ => true | .kT _ => true | .tpl _ => true | .dead => true | _ => false
theorem Ext.put {i : Nat} {a : Addr} {u : HO} {o o' : DO} (s : RS K W) (e1 : W.ι[i]? = some a) (e2 : W.S[i]? = some o) (hl : isLk o = false) : Ext W (W.put i a u o') := by
  have nd : o.lv = true := by cases o <;> first | rfl | cases hl
  have la : W.L a := .inr ⟨i, o, e1, e2, nd⟩
  have ro := s.obj i o a e2 e1
  refine ⟨List.prefix_refl _, fun _ h => h, fun b x h n => ?_, fun b r => ?_, fun b vs h => ?_, fun b ob x h => ?_⟩
  · have nb : b ≠ a := fun z => by subst z; exact n la
    refine ⟨(upd_ne nb).trans h, fun l => ?_⟩
    rcases l with r | ⟨j, oj, f1, f2, nj⟩
    · exact n (.inl r)
    · by_cases hj : j = i
      · subst hj
        have : W.ι[j]? = some b := f1
        rw [e1] at this; cases this; exact nb rfl
      · refine n (.inr ⟨j, oj, f1, ?_, nj⟩)
        have f2 : (W.S.set i o')[j]? = some oj := f2
        rw [List.getElem?_set_ne (Ne.symm hj)] at f2
        exact f2
  · have nb : b ≠ a := fun z => by subst z; exact s.dis i b e1 r
    exact upd_ne nb
  · have nb : b ≠ a := fun z => by subst z; exact s.not_tup la h
    exact (upd_ne nb).trans h
  · have nb : b ≠ a := fun z => by
      subst z
      cases o with
      | lst l => obtain ⟨vs, h1, _⟩ := ro; rw [h1] at h; cases h
      | dK l => obtain ⟨vs, h1, _⟩ := ro; rw [h1] at h; cases h
      | dT l => obtain ⟨vs, h1, _⟩ := ro; rw [h1] at h; cases h
      | kK l => cases hl
      | kT l => cases hl
      | tpl l => cases hl
      | dN w l => obtain ⟨vs, h1, _⟩ := ro; rw [h1] at h; cases h
      | dead => cases hl
    exact (upd_ne nb).trans h
theorem RS.put {i : Nat} {a : Addr} {u : HO} {o o' : DO} (s : RS K W) (e1 : W.ι[i]? = some a) (e2 : W.S[i]? = some o) (hl : isLk o = false) (ho : RO K (W.put i a u o') a o') (hb : o'.below W.S.length = true) : RS K (W.put i a u o') := by
  have x := Ext.put (u := u) (o' := o') s e1 e2 hl
  refine ⟨?_, s.nd, fun j b e => ?_, fun j oj b h1 h2 => ?_, s.dis, fun b r => ?_, fun j oj h => ?_⟩
  · show W.ι.length = (W.S.set i o').length
    rw [List.length_set]; exact s.len
  · by_cases hb : b = a
    · subst hb; exact ⟨u, upd_same⟩
    · obtain ⟨y, h⟩ := s.dom j b e
      exact ⟨y, (upd_ne hb).trans h⟩
  · by_cases hj : j = i
    · subst hj
      have h2 : W.ι[j]? = some b := h2
      rw [e1] at h2; cases h2
      have h1 : (W.S.set j o')[j]? = some oj := h1
      rw [List.getElem?_set_self (get_lt e2)] at h1
      cases h1
      exact ho
    · have h1 : (W.S.set i o')[j]? = some oj := h1
      rw [List.getElem?_set_ne (Ne.symm hj)] at h1
      have nb : b ≠ a := fun z => by subst z; exact hj (s.nd j i b h2 e1)
      exact (s.obj j oj b h1 h2).ext_same x (upd_ne nb)
  · obtain ⟨xs, e, hxs⟩ := s.rd b r
    have nb : b ≠ a := fun z => by subst z; exact s.dis i b e1 r
    exact ⟨xs, (upd_ne nb).trans e, hxs⟩
  · show oj.below (W.S.set i o').length = true
    rw [List.length_set]
    have h : (W.S.set i o')[j]? = some oj := h
    by_cases hj : j = i
    · subst hj
      rw [List.getElem?_set_self (get_lt e2)] at h
      cases h
      exact hb
    · rw [List.getElem?_set_ne (Ne.symm hj)] at h
      exact s.wf j oj h
end
end CK
/-! CkC: what an expression, a test, a statement does to the own data; the judgements and their first rules. -/
namespace CK
open PySem PySem.Spec PyProof.Rows L2

abbrev FE := DS → DH → Option (D × DH)
abbrev FT := DS → DH → Option (Bool × DH)
abbrev FA := DS → DH → Option (List D × DH)
inductive Fl where
  | nx (ds : DS) | rt (d : D) | bk (ds : DS) | ct (ds : DS)
abbrev FS := DS → DH → Option (Fl × DH)
abbrev FG := D → DS → DH → Option (DS × DH)

def RE (K : PySem.W.Frag) (W : Wd) (ds : DS) (σ : L2.St) : Prop := ds.length = σ.length ∧ ∀ (i : Nat) (d : D), ds[i]? = some (some d) → ∃ v, σ[i]? = some (some v) ∧ RD K W d v
theorem RE.ext {K : PySem.W.Frag} {W W' : Wd} {ds : DS} {σ : L2.St} (x : Ext W W') (h : RE K W ds σ) : RE K W' ds σ :=
  ⟨h.1, fun i d e => let ⟨v, e2, r⟩ := h.2 i d e; ⟨v, e2, r.ext x⟩⟩
theorem RE.set {K : PySem.W.Frag} {W : Wd} {ds : DS} {σ : L2.St} (h : RE K W ds σ) {i : Nat} {d : D} {v : V} (r : RD K W d v) : RE K W (ds.set i (some d)) (σ.set i (some v)) := by
  refine ⟨by rw [List.length_set, List.length_set]; exact h.1, fun j e he => ?_⟩
  by_cases hj : i = j
  · subst hj
    have hl : i < ds.length := by
      have := get_lt he
      rwa [List.length_set] at this
    rw [List.getElem?_set_self hl] at he
    cases he
    exact ⟨v, List.getElem?_set_self (by rw [← h.1]; exact hl), r⟩
  · rw [List.getElem?_set_ne hj] at he
    obtain ⟨v', e2, r2⟩ := h.2 j e he
    exact ⟨v', by rw [List.getElem?_set_ne hj]; exact e2, r2⟩

/-- from W to W' with the own heap S' -/
structure To (K : PySem.W.Frag) (W : Wd) (S' : DH) (W' : Wd) : Prop where
  x : Ext W W'
  s : RS K W'
  e : W'.S = S'
theorem To.refl {K : PySem.W.Frag} {W : Wd} (s : RS K W) : To K W W.S W := ⟨Ext.refl, s, rfl⟩
theorem To.after {K : PySem.W.Frag} {W W1 W2 : Wd} {S1 S2 : DH} (a : To K W S1 W1) (b : To K W1 S2 W2) : To K W S2 W2 := ⟨a.x.trans b.x, b.s, b.e⟩

def tD (K : PySem.W.Frag) (f : FE) : TE := fun σ H Q => ∃ W ds d S', W.H = H ∧ RS K W ∧ RE K W ds σ ∧ f ds W.S = some (d, S') ∧ ∀ W' v, To K W S' W' → RD K W' d v → Q v W'.H
def tT (K : PySem.W.Frag) (f : FT) : TT := fun σ H Q => ∃ W ds b S', W.H = H ∧ RS K W ∧ RE K W ds σ ∧ f ds W.S = some (b, S') ∧ ∀ W', To K W S' W' → Q b W'.H
def tA (K : PySem.W.Frag) (f : FA) : TA := fun σ H Q => ∃ W ds l S', W.H = H ∧ RS K W ∧ RE K W ds σ ∧ f ds W.S = some (l, S') ∧ ∀ W' vs, To K W S' W' → RDs K W' l vs → Q vs W'.H
def PostS (K : PySem.W.Frag) (E : Ends) (W' : Wd) : Fl → Prop
  | .nx ds => ∀ σ', RE K W' ds σ' → E.nx σ' W'.H
  | .rt d => ∀ v, RD K W' d v → E.rt v W'.H
  | .bk ds => ∀ σ', RE K W' ds σ' → E.bk σ' W'.H
  | .ct ds => ∀ σ', RE K W' ds σ' → E.ct σ' W'.H
def tS (K : PySem.W.Frag) (f : FS) : TS := fun E σ H => ∃ W ds r S', W.H = H ∧ RS K W ∧ RE K W ds σ ∧ f ds W.S = some (r, S') ∧ ∀ W', To K W S' W' → PostS K E W' r
def tG (K : PySem.W.Frag) (g : FG) : TG := fun v σ H Q => ∃ W ds d ds' S', W.H = H ∧ RS K W ∧ RE K W ds σ ∧ RD K W d v ∧ g d ds W.S = some (ds', S') ∧ ∀ W' σ', To K W S' W' → RE K W' ds' σ' → Q σ' W'.H

abbrev DE (X : Cx) (e : Expr) (f : FE) : Prop := PE X e (tD X.K f)
abbrev DT (X : Cx) (e : Expr) (f : FT) : Prop := PT X e (tT X.K f)
abbrev DW (X : Cx) (e : Expr) (f : FT) : Prop := PW X e (tT X.K f)
abbrev DA (X : Cx) (es : List Expr) (f : FA) : Prop := PA X es (tA X.K f)
abbrev DC (X : Cx) (st : Stmt) (f : FS) : Prop := PS X st (tS X.K f)
abbrev DCs (X : Cx) (sts : List Stmt) (f : FS) : Prop := PSs X sts (tS X.K f)
abbrev DG (X : Cx) (t : Expr) (g : FG) : Prop := PG X t (tG X.K g)

section
variable {X : Cx}
theorem PE.imp {e : Expr} {t t' : TE} (h : PE X e t) (i : ∀ σ H Q, t' σ H Q → t σ H Q) : PE X e t' := ⟨fun pins s σ H Q I q => h.run pins s σ H Q I (i σ H Q q)⟩
theorem PT.imp {e : Expr} {t t' : TT} (h : PT X e t) (i : ∀ σ H Q, t' σ H Q → t σ H Q) : PT X e t' := ⟨fun pins s σ H Q I q => h.run pins s σ H Q I (i σ H Q q)⟩
theorem PW.imp {e : Expr} {t t' : TT} (h : PW X e t) (i : ∀ σ H Q, t' σ H Q → t σ H Q) : PW X e t' := ⟨fun wh pins s σ H Q I q => h.run wh pins s σ H Q I (i σ H Q q)⟩
theorem PA.imp {e : List Expr} {t t' : TA} (h : PA X e t) (i : ∀ σ H Q, t' σ H Q → t σ H Q) : PA X e t' := ⟨fun pos pins s σ H Q I q => h.run pos pins s σ H Q I (i σ H Q q)⟩
theorem PS.imp {e : Stmt} {t t' : TS} (h : PS X e t) (i : ∀ D σ H, t' D σ H → t D σ H) : PS X e t' := ⟨fun pins s σ H D I q => h.run pins s σ H D I (i D σ H q)⟩
theorem PSs.imp {e : List Stmt} {t t' : TS} (h : PSs X e t) (i : ∀ D σ H, t' D σ H → t D σ H) : PSs X e t' := ⟨fun pins s σ H D I q => h.run pins s σ H D I (i D σ H q)⟩
theorem PG.imp {e : Expr} {t t' : TG} (h : PG X e t) (i : ∀ v σ H Q, t' v σ H Q → t v σ H Q) : PG X e t' := ⟨fun pins s σ H v u Q I r q => h.run pins s σ H v u Q I r (i v σ H Q q)⟩
end

/-! ### names, constants -/
def fVar (i : Nat) : FE := fun ds S => match ds[i]? with
  | some (some d) => some (d, S)
  | _ => none
def fC (x : P) : FE := fun _ S => some (.p x, S)
section
variable {X : Cx}
theorem de_var {i : Nat} {x : Str} {pos : Pos} (hN : X.N[i]? = some x) (hv : Vis X.env.scope x) (hd : (x == ("__debug__" : Str)) = false := by decide) (hcd : (x == ("__classdict__" : Str)) = false := by decide) : DE X (.Name x pos) (fVar i) :=
  PE.imp (pe_var hN hv hd hcd) fun σ H Q ⟨W, ds, d, S', eH, s, re, e, q⟩ => by
    subst eH
    unfold fVar at e
    split at e
    · rename_i d' he
      cases e
      obtain ⟨v, e2, r⟩ := re.2 i d he
      exact ⟨v, e2, q W v (To.refl s) r⟩
    · cases e
theorem of_tC {e : Expr} {x : P} {v : V} (h : PE X e (tC v)) (r : ∀ (W : Wd), RP X.K W.H W.L x v) : DE X e (fC x) :=
  PE.imp h fun σ H Q ⟨W, ds, d, S', eH, s, re, e, q⟩ => by
    subst eH
    cases e
    exact q W v (To.refl s) (r W)
theorem de_int {i : Int} {j pos} : DE X (.Constant (.int i) j pos) (fC (.int i)) := of_tC pe_int fun _ => .int i
theorem de_bl {b : Bool} {j pos} : DE X (.Constant (.bool b) j pos) (fC (.bl b)) := of_tC pe_bl fun _ => .bl b
theorem de_non {j pos} : DE X (.Constant .none j pos) (fC .non) := of_tC pe_non fun _ => .non
theorem de_str {x : Str} {j pos} : DE X (.Constant (.str x) j pos) (fC (.str x)) := of_tC pe_str fun _ => .str x
/-- a built-in type as a value -/
theorem de_ty {x : Str} {n : String} {pos : Pos} (hg : Gl X x) (hm : X.mg x = none) (hv : bootBuiltins x = some (.type n)) (hn : x ≠ "__name__" := by decide) (hd : (x == ("__debug__" : Str)) = false := by decide) : DE X (.Name x pos) (fC (.ty n)) :=
  of_tC (pe_bltn (v := .ty n) hg hm hv rfl hn hd) fun _ => .ty n
/-- a module's constant -/
structure Gc (K : PySem.W.Frag) (mg : Str → Option Value) (x : Str) (p : P) : Prop where
  ex : ∃ (v : V) (u : Value), mg x = some u ∧ RelV v u ∧ ∀ H L, RP K H L p v
theorem de_glob {x : Str} {p : P} {pos : Pos} (g : Gc X.K X.mg x p) (hg : Gl X x) (hd : (x == ("__debug__" : Str)) = false := by decide) : DE X (.Name x pos) (fC p) := by
  obtain ⟨v, u, hm, r, h⟩ := g.ex
  exact of_tC (pe_glob hg hm r hd) fun W => h _ _
end

/-! ### two operands by a rule of values -/
abbrev G2 := D → D → DH → Option (D × DH)
def fBin (g : G2) (fa fb : FE) : FE := fun ds S => match fa ds S with
  | none => none
  | some (x, S1) => match fb ds S1 with
    | none => none
    | some (y, S2) => g x y S2
/-- g is borne by r -/
def VR2 (K : PySem.W.Frag) (g : G2) (r : R2) : Prop :=
  ∀ (W : Wd) (x y : D) (v w : V) (z : D) (S' : DH) (Q : VK), RS K W → RD K W x v → RD K W y w → g x y W.S = some (z, S') → (∀ W' u, To K W S' W' → RD K W' z u → Q u W'.H) → r v w W.H Q
theorem tD_bin {K : PySem.W.Frag} {g : G2} {r : R2} (hr : VR2 K g r) {fa fb : FE} {σ : L2.St} {H : Hp} {Q : VK} (h : tD K (fBin g fa fb) σ H Q) : tOp r (tD K fa) (tD K fb) σ H Q := by
  obtain ⟨W, ds, d, S', eH, s, re, e, q⟩ := h
  unfold fBin at e
  split at e
  · cases e
  · rename_i x S1 e1
    split at e
    · cases e
    · rename_i y S2 e2
      refine ⟨W, ds, x, S1, eH, s, re, e1, fun W1 v t1 r1 => ?_⟩
      refine ⟨W1, ds, y, S2, rfl, t1.s, re.ext t1.x, by rw [t1.e]; exact e2, fun W2 w t2 r2 => ?_⟩
      refine hr W2 x y v w d S' Q t2.s (r1.ext t2.x) r2 (by rw [t2.e]; exact e) fun W3 u t3 r3 => ?_
      exact q W3 u ((t1.after t2).after t3) r3
def alt2 (g h : G2) : G2 := fun x y S => match g x y S with
  | some r => some r
  | none => h x y S
theorem VR2.alt {K : PySem.W.Frag} {g h : G2} {r r' : R2} (a : VR2 K g r) (b : VR2 K h r') : VR2 K (alt2 g h) (fun x y H Q => r x y H Q ∨ r' x y H Q) := by
  intro W x y v w z S' Q s r1 r2 e q
  unfold alt2 at e
  split at e
  · rename_i z' e'
    cases e
    exact .inl (a W x y v w z S' Q s r1 r2 e' q)
  · exact .inr (b W x y v w z S' Q s r1 r2 e q)
section
variable {X : Cx} {a b c : Expr} {fa fb fc : FE} {pos : Pos} {g : G2} {r : R2}
theorem de_op {op : Operator} (ho : OpR X (binaryOp op) r) (hr : VR2 X.K g r) (ha : DE X a fa) (hb : DE X b fb) : DE X (.BinOp a op b pos) (fBin g fa fb) :=
  PE.imp (pe_op ho ha hb) fun _ _ _ h => tD_bin hr h
theorem de_cmp {op : CmpOp} (ho : OpR X (compareOp op) r) (hr : VR2 X.K g r) (ha : DE X a fa) (hb : DE X b fb) (hm : behindInMarks op b = false) : DE X (.Compare a [op] [b] pos) (fBin g fa fb) :=
  PE.imp (pe_cmpR ho ha hb hm) fun _ _ _ h => tD_bin hr h
/-- an expression that gives a truth, as a test -/
def fTest (f : FE) : FT := fun ds S => match f ds S with
  | some (.p (.bl b), S') => some (b, S')
  | _ => none
theorem tT_test {K : PySem.W.Frag} {f : FE} {t : TE} (ht : ∀ σ H Q, tD K f σ H Q → t σ H Q) {σ : L2.St} {H : Hp} {Q : Bool → Hp → Prop} (h : tT K (fTest f) σ H Q) : t σ H (fun x H' => ∃ k, x = .bl k ∧ Q k H') := by
  obtain ⟨W, ds, d, S', eH, s, re, e, q⟩ := h
  unfold fTest at e
  split at e
  · rename_i b S1 e1
    cases e
    refine ht _ _ _ ⟨W, ds, .p (.bl d), S', eH, s, re, e1, fun W1 v t1 r1 => ?_⟩
    cases r1
    exact ⟨d, rfl, q W1 t1⟩
  · cases e
theorem dt_cmp {op : CmpOp} (ho : OpR X (compareOp op) r) (hr : VR2 X.K g r) (ha : DE X a fa) (hb : DE X b fb) (hm : behindInMarks op b = false) : DT X (.Compare a [op] [b] pos) (fTest (fBin g fa fb)) :=
  PT.imp (pt_cmpR ho ha hb hm) fun _ _ _ h => tT_test (t := tOp r (tD X.K fa) (tD X.K fb)) (fun _ _ _ h => tD_bin hr h) h
theorem de_ix (ho : IxR X r) (hr : VR2 X.K g r) (ha : DE X a fa) (hb : DE X b fb) (hs : PlainIx b) : DE X (.Subscript a b pos) (fBin g fa fb) :=
  PE.imp (pe_ix ho ha hb hs) fun _ _ _ h => tD_bin hr h
/-- a op b op' c -/
def fChain (g g' : G2) (fa fb fc : FE) : FE := fun ds S => match fa ds S with
  | none => none
  | some (x, S1) => match fb ds S1 with
    | none => none
    | some (y, S2) => match g x y S2 with
      | some (.p (.bl true), S3) => (match fc ds S3 with
        | none => none
        | some (z, S4) => g' y z S4)
      | some (.p (.bl false), S3) => some (.p (.bl false), S3)
      | _ => none
end
end CK
/-! CkD: chains, and, or, not, if-else; argument lists, displays; calls of built-ins, methods, defs; truth; statements. -/
namespace CK
open PySem PySem.Spec PyProof.Rows L2

section
variable {X : Cx} {a b c e : Expr} {fa fb fc : FE} {pos : Pos} {g g' : G2} {r r' : R2}
theorem tD_chain {K : PySem.W.Frag} (hr : VR2 K g r) (hr' : VR2 K g' r') {σ : L2.St} {H : Hp} {Q : VK} (h : tD K (fChain g g' fa fb fc) σ H Q) : tChain r r' (tD K fa) (tD K fb) (tD K fc) σ H Q := by
  obtain ⟨W, ds, d, S', eH, s, re, e, q⟩ := h
  unfold fChain at e
  split at e
  · cases e
  · rename_i x S1 e1
    split at e
    · cases e
    · rename_i y S2 e2
      refine ⟨W, ds, x, _, eH, s, re, e1, fun W1 v t1 r1 => ?_⟩
      refine ⟨W1, ds, y, _, rfl, t1.s, re.ext t1.x, by rw [t1.e]; exact e2, fun W2 w t2 r2 => ?_⟩
      split at e
      · rename_i S3 e3
        refine hr W2 x y v w _ _ _ t2.s (r1.ext t2.x) r2 (by rw [t2.e]; exact e3) fun W3 u t3 r3 => ?_
        cases r3
        refine ⟨true, rfl, ?_⟩
        (try dsimp only); rw [if_pos rfl]
        split at e
        · cases e
        · rename_i z S4 e4
          refine ⟨W3, ds, z, _, rfl, t3.s, re.ext (t1.x.trans (t2.x.trans t3.x)), by rw [t3.e]; exact e4, fun W4 w' t4 r4 => ?_⟩
          refine hr' W4 y z w w' _ _ Q t4.s (r2.ext (t3.x.trans t4.x)) r4 (by rw [t4.e]; exact e) fun W5 u t5 r5 => ?_
          exact q W5 u ((((t1.after t2).after t3).after t4).after t5) r5
      · rename_i S3 e3
        cases e
        refine hr W2 x y v w _ _ _ t2.s (r1.ext t2.x) r2 (by rw [t2.e]; exact e3) fun W3 u t3 r3 => ?_
        cases r3
        refine ⟨false, rfl, ?_⟩
        (try dsimp only); rw [if_neg Bool.false_ne_true]
        exact q W3 _ ((t1.after t2).after t3) (.bl false)
      · cases e
theorem de_chain {op op' : CmpOp} (ho : OpR X (compareOp op) r) (ho' : OpR X (compareOp op') r') (hr : VR2 X.K g r) (hr' : VR2 X.K g' r') (ha : DE X a fa) (hb : DE X b fb) (hc : DE X c fc)
    (hm : lastMarks [op, op'] [b, c] = false := by with_unfolding_all rfl) : DE X (.Compare a [op, op'] [b, c] pos) (fChain g g' fa fb fc) := PE.imp (pe_chain ho ho' ha hb hc hm) fun _ _ _ h => tD_chain hr hr' h
theorem dt_chain {op op' : CmpOp} (ho : OpR X (compareOp op) r) (ho' : OpR X (compareOp op') r') (hr : VR2 X.K g r) (hr' : VR2 X.K g' r') (ha : DE X a fa) (hb : DE X b fb) (hc : DE X c fc)
    (hm : lastMarks [op, op'] [b, c] = false := by with_unfolding_all rfl) : DT X (.Compare a [op, op'] [b, c] pos) (fTest (fChain g g' fa fb fc)) := PT.imp (pt_chain ho ho' ha hb hc hm) fun _ _ _ h => tT_test (t := tChain r r' (tD X.K fa) (tD X.K fb) (tD X.K fc)) (fun _ _ _ h => tD_chain hr hr' h) h
/-- any expression that gives a truth, as a test -/
theorem dt_val (h : DE X e fa) (he : ∀ whole, isTrue e X.env whole = (do let v ← whole; standAt e.pos; holding [v] (truthy v)) := by intro _; rfl) : DT X e (fTest fa) :=
  PT.imp (pt_val h he) fun _ _ _ h => tT_test (t := tD X.K fa) (fun _ _ _ h => h) h

/-! ### and, or, not as tests -/
variable {ft fu : FT} {rest : List Expr}
def fAnd (ft fu : FT) : FT := fun ds S => match ft ds S with
  | none => none
  | some (true, S1) => fu ds S1
  | some (false, S1) => some (false, S1)
def fOr (ft fu : FT) : FT := fun ds S => match ft ds S with
  | none => none
  | some (true, S1) => some (true, S1)
  | some (false, S1) => fu ds S1
def fNot (ft : FT) : FT := fun ds S => match ft ds S with
  | none => none
  | some (b, S1) => some (!b, S1)
theorem dw_and1 (ha : DT X a ft) : DW X (.BoolOp .And [a] pos) ft := pw_and1 ha
theorem dw_or1 (ha : DT X a ft) : DW X (.BoolOp .Or [a] pos) ft := pw_or1 ha
theorem dw_and (ha : DT X a ft) (hb : DW X (.BoolOp .And (b :: rest) pos) fu) : DW X (.BoolOp .And (a :: b :: rest) pos) (fAnd ft fu) :=
  PW.imp (pw_and ha hb) fun σ H Q ⟨W, ds, d, S', eH, s, re, e, q⟩ => by
    unfold fAnd at e
    split at e
    · cases e
    · rename_i S1 e1
      refine ⟨W, ds, true, _, eH, s, re, e1, fun W1 t1 => ?_⟩
      (try dsimp only); rw [if_pos rfl]
      exact ⟨W1, ds, d, S', rfl, t1.s, re.ext t1.x, by rw [t1.e]; exact e, fun W2 t2 => q W2 (t1.after t2)⟩
    · rename_i S1 e1
      cases e
      refine ⟨W, ds, false, _, eH, s, re, e1, fun W1 t1 => ?_⟩
      (try dsimp only); rw [if_neg Bool.false_ne_true]
      exact q W1 t1
theorem dw_or (ha : DT X a ft) (hb : DW X (.BoolOp .Or (b :: rest) pos) fu) : DW X (.BoolOp .Or (a :: b :: rest) pos) (fOr ft fu) :=
  PW.imp (pw_or ha hb) fun σ H Q ⟨W, ds, d, S', eH, s, re, e, q⟩ => by
    unfold fOr at e
    split at e
    · cases e
    · rename_i S1 e1
      cases e
      refine ⟨W, ds, true, _, eH, s, re, e1, fun W1 t1 => ?_⟩
      (try dsimp only); rw [if_pos rfl]
      exact q W1 t1
    · rename_i S1 e1
      refine ⟨W, ds, false, _, eH, s, re, e1, fun W1 t1 => ?_⟩
      (try dsimp only); rw [if_neg Bool.false_ne_true]
      exact ⟨W1, ds, d, S', rfl, t1.s, re.ext t1.x, by rw [t1.e]; exact e, fun W2 t2 => q W2 (t1.after t2)⟩
theorem dt_w {e : Expr} (h : DW X e ft) : DT X e ft := PW.pt h
theorem dt_not (ha : DT X a ft) : DT X (.UnaryOp .Not a pos) (fNot ft) :=
  PT.imp (pt_not ha) fun σ H Q ⟨W, ds, d, S', eH, s, re, e, q⟩ => by
    unfold fNot at e
    split at e
    · cases e
    · rename_i b S1 e1
      cases e
      exact ⟨W, ds, b, _, eH, s, re, e1, fun W1 t1 => q W1 t1⟩
/-! ### .. as values: all but the last a truth -/
def fAndV (fa fb : FE) : FE := fun ds S => match fa ds S with
  | some (.p (.bl true), S1) => fb ds S1
  | some (.p (.bl false), S1) => some (.p (.bl false), S1)
  | _ => none
def fOrV (fa fb : FE) : FE := fun ds S => match fa ds S with
  | some (.p (.bl true), S1) => some (.p (.bl true), S1)
  | some (.p (.bl false), S1) => fb ds S1
  | _ => none
def fNotV (fa : FE) : FE := fun ds S => match fa ds S with
  | some (.p (.bl b), S1) => some (.p (.bl (!b)), S1)
  | _ => none
theorem de_one {op} (h : DE X a fa) : DE X (.BoolOp op [a] pos) fa := pe_one h
theorem de_and (ha : DE X a fa) (hb : DE X (.BoolOp .And (b :: rest) pos) fb) : DE X (.BoolOp .And (a :: b :: rest) pos) (fAndV fa fb) :=
  PE.imp (pe_and ha hb) fun σ H Q ⟨W, ds, d, S', eH, s, re, e, q⟩ => by
    unfold fAndV at e
    split at e
    · rename_i S1 e1
      refine ⟨W, ds, _, _, eH, s, re, e1, fun W1 v t1 r1 => ?_⟩
      cases r1
      refine ⟨true, rfl, ?_⟩
      (try dsimp only); rw [if_pos rfl]
      exact ⟨W1, ds, d, S', rfl, t1.s, re.ext t1.x, by rw [t1.e]; exact e, fun W2 v t2 => q W2 v (t1.after t2)⟩
    · rename_i S1 e1
      cases e
      refine ⟨W, ds, _, _, eH, s, re, e1, fun W1 v t1 r1 => ?_⟩
      cases r1
      refine ⟨false, rfl, ?_⟩
      (try dsimp only); rw [if_neg Bool.false_ne_true]
      exact q W1 _ t1 (.bl false)
    · cases e
theorem de_or (ha : DE X a fa) (hb : DE X (.BoolOp .Or (b :: rest) pos) fb) : DE X (.BoolOp .Or (a :: b :: rest) pos) (fOrV fa fb) :=
  PE.imp (pe_or ha hb) fun σ H Q ⟨W, ds, d, S', eH, s, re, e, q⟩ => by
    unfold fOrV at e
    split at e
    · rename_i S1 e1
      cases e
      refine ⟨W, ds, _, _, eH, s, re, e1, fun W1 v t1 r1 => ?_⟩
      cases r1
      refine ⟨true, rfl, ?_⟩
      (try dsimp only); rw [if_pos rfl]
      exact q W1 _ t1 (.bl true)
    · rename_i S1 e1
      refine ⟨W, ds, _, _, eH, s, re, e1, fun W1 v t1 r1 => ?_⟩
      cases r1
      refine ⟨false, rfl, ?_⟩
      (try dsimp only); rw [if_neg Bool.false_ne_true]
      exact ⟨W1, ds, d, S', rfl, t1.s, re.ext t1.x, by rw [t1.e]; exact e, fun W2 v t2 => q W2 v (t1.after t2)⟩
    · cases e
theorem de_not (ha : DE X a fa) : DE X (.UnaryOp .Not a pos) (fNotV fa) :=
  PE.imp (pe_not ha) fun σ H Q ⟨W, ds, d, S', eH, s, re, e, q⟩ => by
    unfold fNotV at e
    split at e
    · rename_i b S1 e1
      cases e
      refine ⟨W, ds, _, _, eH, s, re, e1, fun W1 v t1 r1 => ?_⟩
      cases r1
      exact ⟨b, rfl, q W1 _ t1 (.bl _)⟩
    · cases e
def fIf (ft : FT) (fa fb : FE) : FE := fun ds S => match ft ds S with
  | none => none
  | some (true, S1) => fa ds S1
  | some (false, S1) => fb ds S1
theorem de_ifx (hc : DT X c ft) (ha : DE X a fa) (hb : DE X b fb) : DE X (.IfExp c a b pos) (fIf ft fa fb) :=
  PE.imp (pe_ifExp hc ha hb) fun σ H Q ⟨W, ds, d, S', eH, s, re, e, q⟩ => by
    unfold fIf at e
    split at e
    · cases e
    · rename_i S1 e1
      refine ⟨W, ds, true, _, eH, s, re, e1, fun W1 t1 => ?_⟩
      (try dsimp only); rw [if_pos rfl]
      exact ⟨W1, ds, d, S', rfl, t1.s, re.ext t1.x, by rw [t1.e]; exact e, fun W2 v t2 => q W2 v (t1.after t2)⟩
    · rename_i S1 e1
      refine ⟨W, ds, false, _, eH, s, re, e1, fun W1 t1 => ?_⟩
      (try dsimp only); rw [if_neg Bool.false_ne_true]
      exact ⟨W1, ds, d, S', rfl, t1.s, re.ext t1.x, by rw [t1.e]; exact e, fun W2 v t2 => q W2 v (t1.after t2)⟩
end

/-! ### argument lists -/
def aNil : FA := fun _ S => some ([], S)
def aCons (fe : FE) (fs : FA) : FA := fun ds S => match fe ds S with
  | none => none
  | some (x, S1) => match fs ds S1 with
    | none => none
    | some (l, S2) => some (x :: l, S2)
section
variable {X : Cx} {e : Expr} {es : List Expr} {fe : FE} {fs : FA} {pos : Pos}
theorem da_nil : DA X [] aNil := PA.imp pa_nil fun σ H Q ⟨W, ds, d, S', eH, s, re, e, q⟩ => by
  subst eH
  cases e
  exact q W [] (To.refl s) .nil
theorem da_cons (ha : DE X e fe) (hr : DA X es fs) (hs : starEach (e :: es) X.env = (false, eval e X.env) :: starEach es X.env := by rfl) : DA X (e :: es) (aCons fe fs) :=
  PA.imp (pa_cons ha hr hs) fun σ H Q ⟨W, ds, d, S', eH, s, re, e, q⟩ => by
    unfold aCons at e
    split at e
    · cases e
    · rename_i x S1 e1
      split at e
      · cases e
      · rename_i l S2 e2
        cases e
        refine ⟨W, ds, x, _, eH, s, re, e1, fun W1 v t1 r1 => ?_⟩
        refine ⟨W1, ds, l, _, rfl, t1.s, re.ext t1.x, by rw [t1.e]; exact e2, fun W2 vs t2 r2 => ?_⟩
        exact q W2 (v :: vs) (t1.after t2) (.cons (r1.ext t2.x) r2)
end

/-! ### displays -/
def allP : List D → Option (List P)
  | [] => some []
  | .p x :: r => (allP r).map (x :: ·)
  | .ref _ :: _ => none
theorem allP_rel {K : PySem.W.Frag} {W : Wd} : ∀ {l : List D} {vs : List V} {ps : List P}, allP l = some ps → RDs K W l vs → RPs K W.H W.L ps vs
  | [], _, _, e, .nil => by cases e; exact .nil
  | .p x :: r, _, _, e, .cons h t => by
    unfold allP at e
    cases q : allP r with
    | none => rw [q] at e; cases e
    | some ps => rw [q] at e; cases e; exact .cons h (allP_rel q t)
  | .ref _ :: _, _, _, e, _ => by cases e
theorem rps_ds {K : PySem.W.Frag} {W : Wd} : ∀ {ps : List P} {vs : List V}, RPs K W.H W.L ps vs → RDs K W (ps.map .p) vs
  | _, _, .nil => .nil
  | _, _, .cons h t => .cons h (rps_ds t)
theorem rps_length {K : PySem.W.Frag} {H : Hp} {L : Addr → Prop} : ∀ {ps : List P} {vs : List V}, RPs K H L ps vs → ps.length = vs.length
  | _, _, .nil => rfl
  | _, _, .cons _ t => by rw [List.length_cons, List.length_cons, rps_length t]
theorem rds_length {K : PySem.W.Frag} {W : Wd} {ps : List D} {vs : List V} (h : RDs K W ps vs) : ps.length = vs.length := Paired.length h
/-- a tuple of pure things -/
def fTup (fs : FA) : FE := fun ds S => match fs ds S with
  | none => none
  | some (l, S1) => if l.length ≤ sizeLine then (allP l).map fun ps => (.p (.tup ps), S1) else none
/-- a list of pure things, never changed -/
def fLst (fs : FA) : FE := fun ds S => match fs ds S with
  | none => none
  | some (l, S1) => if l.length ≤ sizeLine then (allP l).map fun ps => (.p (.lst ps), S1) else none
/-- a list that may be changed -/
def fLstH (fs : FA) : FE := fun ds S => match fs ds S with
  | none => none
  | some (l, S1) => if l.length ≤ sizeLine then some (.ref S1.length, S1 ++ [.lst l]) else none
section
variable {K : PySem.W.Frag} {W : Wd}
theorem new_tup {p : Addr} {ps : List P} {vs : List V} (s : RS K W) (hp : W.H p = none) (r : RPs K W.H W.L ps vs) : To K W W.S (W.new p (.tup vs)) ∧ RD K (W.new p (.tup vs)) (.p (.tup ps)) (.ref p) := by
  have x := Ext.new (u := .tup vs) s hp
  exact ⟨⟨x, s.new hp, rfl⟩, RP.tup upd_same (RPs.mono x.keep x.tups r)⟩
theorem new_lst {p : Addr} {ps : List P} {vs : List V} (s : RS K W) (hp : W.H p = none) (r : RPs K W.H W.L ps vs) : To K W W.S (W.new p (.lst vs)) ∧ RD K (W.new p (.lst vs)) (.p (.lst ps)) (.ref p) := by
  have x := Ext.new (u := .lst vs) s hp
  exact ⟨⟨x, s.new hp, rfl⟩, RP.lst upd_same (RP.fresh s hp) (RPs.mono x.keep x.tups r)⟩
theorem add_lst {p : Addr} {l : List D} {vs : List V} (s : RS K W) (hp : W.H p = none) (r : RDs K W l vs) : To K W (W.S ++ [.lst l]) (W.add p (.lst vs) (.lst l)) ∧ RD K (W.add p (.lst vs) (.lst l)) (.ref W.S.length) (.ref p) := by
  have x := Ext.add (u := .lst vs) (o := .lst l) s hp
  refine ⟨⟨x, s.add hp ⟨vs, upd_same, r.ext x⟩ (RDs.below s r), rfl⟩, p, ?_, rfl⟩
  show (W.ι ++ [p])[W.S.length]? = some p
  rw [← s.len]; simp
end
section
variable {X : Cx} {e : Expr} {es : List Expr} {fe : FE} {fs : FA} {pos : Pos}
theorem de_tup {x1} (h : DA X es fs) : DE X (.Tuple es x1 pos) (fTup fs) := PE.imp (pe_tup h) fun σ H Q ⟨W, ds, d, S', eH, s, re, e, q⟩ => by
  unfold fTup at e
  split at e
  · cases e
  · rename_i l S1 e1
    split at e
    · rename_i hl
      cases hq : allP l with
      | none => rw [hq] at e; cases e
      | some ps =>
        rw [hq] at e; cases e
        refine ⟨W, ds, l, _, eH, s, re, e1, fun W1 vs t1 r1 => ⟨by rw [← rds_length r1]; exact hl, fun p hp => ?_⟩⟩
        obtain ⟨t2, r2⟩ := new_tup t1.s hp (allP_rel hq r1)
        rw [t1.e] at t2
        exact q _ _ (t1.after t2) r2
    · cases e
theorem de_lst (h : DA X es fs) : DE X (.List es pos) (fLst fs) := PE.imp (pe_lst h) fun σ H Q ⟨W, ds, d, S', eH, s, re, e, q⟩ => by
  unfold fLst at e
  split at e
  · cases e
  · rename_i l S1 e1
    split at e
    · rename_i hl
      cases hq : allP l with
      | none => rw [hq] at e; cases e
      | some ps =>
        rw [hq] at e; cases e
        refine ⟨W, ds, l, _, eH, s, re, e1, fun W1 vs t1 r1 => ⟨by rw [← rds_length r1]; exact hl, fun p hp => ?_⟩⟩
        obtain ⟨t2, r2⟩ := new_lst t1.s hp (allP_rel hq r1)
        rw [t1.e] at t2
        exact q _ _ (t1.after t2) r2
    · cases e
theorem de_lstH (h : DA X es fs) : DE X (.List es pos) (fLstH fs) := PE.imp (pe_lst h) fun σ H Q ⟨W, ds, d, S', eH, s, re, e, q⟩ => by
  unfold fLstH at e
  split at e
  · cases e
  · rename_i l S1 e1
    split at e
    · rename_i hl
      cases e
      refine ⟨W, ds, l, _, eH, s, re, e1, fun W1 vs t1 r1 => ⟨by rw [← rds_length r1]; exact hl, fun p hp => ?_⟩⟩
      obtain ⟨t2, r2⟩ := add_lst t1.s hp r1
      rw [t1.e] at t2 r2
      exact q _ _ (t1.after t2) r2
    · cases e
end

/-! ### calls by a rule of values -/
abbrev GN := List D → DH → Option (D × DH)
def fCall (g : GN) (fs : FA) : FE := fun ds S => match fs ds S with
  | none => none
  | some (l, S1) => g l S1
def VRN (K : PySem.W.Frag) (g : GN) (r : List V → Hp → VK → Prop) : Prop :=
  ∀ (W : Wd) (xs : List D) (vs : List V) (z : D) (S' : DH) (Q : VK), RS K W → RDs K W xs vs → g xs W.S = some (z, S') → (∀ W' u, To K W S' W' → RD K W' z u → Q u W'.H) → r vs W.H Q
def altN (g h : GN) : GN := fun xs S => match g xs S with
  | some r => some r
  | none => h xs S
theorem VRN.alt {K : PySem.W.Frag} {g h : GN} {r r' : List V → Hp → VK → Prop} (a : VRN K g r) (b : VRN K h r') : VRN K (altN g h) (fun xs H Q => r xs H Q ∨ r' xs H Q) := by
  intro W xs vs z S' Q s r1 e q
  unfold altN at e
  split at e
  · rename_i z' e'
    cases e
    exact .inl (a W xs vs z S' Q s r1 e' q)
  · exact .inr (b W xs vs z S' Q s r1 e q)
theorem tD_call {K : PySem.W.Frag} {g : GN} {r : List V → Hp → VK → Prop} (hr : VRN K g r) {fs : FA} {σ : L2.St} {H : Hp} {Q : VK} (h : tD K (fCall g fs) σ H Q) : tA K fs σ H fun vs H1 => r vs H1 Q := by
  obtain ⟨W, ds, d, S', eH, s, re, e, q⟩ := h
  unfold fCall at e
  split at e
  · cases e
  · rename_i l S1 e1
    refine ⟨W, ds, l, _, eH, s, re, e1, fun W1 vs t1 r1 => ?_⟩
    exact hr W1 l vs d S' Q t1.s r1 (by rw [t1.e]; exact e) fun W2 u t2 r2 => q W2 u (t1.after t2) r2
section
variable {X : Cx} {x : Str} {p pos : Pos} {e : Expr} {es : List Expr} {fs : FA} {id T : String} {g : GN} {r : List V → Hp → VK → Prop}
theorem de_callB (hc : CallR X (.builtin id) r) (hr : VRN X.K g r) (hg : Gl X x) (hm : X.mg x = none) (hv : bootBuiltins x = some (.builtin id)) (ha : DA X (e :: es) fs) (hn : x ≠ "__name__" := by decide) (hdb : (x == ("__debug__" : Str)) = false := by decide)
    (he : starEach (e :: es) X.env = (false, eval e X.env) :: starEach es X.env := by rfl) (hpl : (backTo pos (starEach es X.env)).any (·.1) = false := by rfl) : DE X (.Call (.Name x p) (e :: es) [] pos) (fCall g fs) :=
  PE.imp (pe_callB hc hg hm hv ha hn hdb he hpl) fun _ _ _ h => tD_call hr h
theorem de_callTy (hc : CallR X (.type T) r) (hr : VRN X.K g r) (hg : Gl X x) (hm : X.mg x = none) (hv : bootBuiltins x = some (.type T)) (ha : DA X (e :: es) fs) (hn : x ≠ "__name__" := by decide) (hdb : (x == ("__debug__" : Str)) = false := by decide)
    (he : starEach (e :: es) X.env = (false, eval e X.env) :: starEach es X.env := by rfl) (hpl : (backTo pos (starEach es X.env)).any (·.1) = false := by rfl) : DE X (.Call (.Name x p) (e :: es) [] pos) (fCall g fs) :=
  PE.imp (pe_callTy hc hg hm hv ha hn hdb he hpl) fun _ _ _ h => tD_call hr h

/-! ### a def's call -/
/-- the promise of a def whose calls g tells -/
def spD (K : PySem.W.Frag) (g : GN) (n : Nat) : Sp := fun vs H Q _ => vs.length = n ∧ ∃ W xs d S', W.H = H ∧ RS K W ∧ RDs K W xs vs ∧ g xs W.S = some (d, S') ∧ ∀ W' v, To K W S' W' → RD K W' d v → Q v W'.H
structure Callee (P : Program) (w : World) (K : PySem.W.Frag) (mg : Str → Option Value) (base : Heap) (k : Nat) (x : Str) (n : Nat) (g : GN) : Prop where
  ex : ∃ (f : Addr) (fd : FuncData) (ps : List Str), ps.length = n ∧ mg x = some (.ref f) ∧ PySem.W.keepIn K (.ref f) = true ∧ Binds K fd ps [] ∧ FnOk P w K mg base CX0 k f fd ps (spD K g n)
theorem Callee.mono {P : Program} {w : World} {K : PySem.W.Frag} {mg : Str → Option Value} {base : Heap} {k j : Nat} {x : Str} {n : Nat} {g : GN} (c : Callee P w K mg base k x n g) (h : k ≤ j) : Callee P w K mg base j x n g := by
  obtain ⟨f, fd, ps, h1, h2, h3, h4, h5⟩ := c.ex
  exact ⟨f, fd, ps, h1, h2, h3, h4, h5.mono h⟩
theorem de_call {k n : Nat} (c : Callee X.prog X.w X.K X.mg X.base k x n g) (hr : Room k X.A) (hg : Gl X x) (ha : DA X (e :: es) fs) (hlen : ∀ ds S l S', fs ds S = some (l, S') → l.length = n) (hdb : (x == ("__debug__" : Str)) = false := by decide)
    (he : starEach (e :: es) X.env = (false, eval e X.env) :: starEach es X.env := by rfl) (hpl : (backTo pos (starEach es X.env)).any (·.1) = false := by rfl) : DE X (.Call (.Name x p) (e :: es) [] pos) (fCall g fs) := by
  obtain ⟨f, fd, ps, h1, h2, h3, h4, h5⟩ := c.ex
  refine PE.imp (pe_call h5 hr hg h2 h3 h4 .nil pass0 ha hdb he hpl) fun σ H Q ⟨W, ds, d, S', eH, s, re, e, q⟩ => ?_
  unfold fCall at e
  split at e
  · cases e
  · rename_i l S1 e1
    refine ⟨W, ds, l, _, eH, s, re, e1, fun W1 vs t1 r1 => ?_⟩
    show spD X.K g n (vs ++ []) W1.H Q E0
    rw [List.append_nil]
    exact ⟨by rw [← rds_length r1]; exact hlen _ _ _ _ e1, W1, l, d, S', rfl, t1.s, r1, by rw [t1.e]; exact e, fun W2 v t2 r2 => q W2 v (t1.after t2) r2⟩
end
theorem aNil_len {ds : DS} {S S' : DH} {l : List D} (e : aNil ds S = some (l, S')) : l.length = 0 := by cases e; rfl
theorem aCons_len {fe : FE} {fs : FA} {n : Nat} (h : ∀ ds S l S', fs ds S = some (l, S') → l.length = n) : ∀ ds S l S', aCons fe fs ds S = some (l, S') → l.length = n + 1 := by
  intro ds S l S' e
  unfold aCons at e
  split at e
  · cases e
  · rename_i x S1 e1
    split at e
    · cases e
    · rename_i l S2 e2
      cases e
      rw [List.length_cons, h _ _ _ _ e2]

/-! ### a built-in type's method -/
abbrev GM := D → List D → DH → Option (D × DH)
def isTy (T : String) (x : D) (S : DH) : Bool := match x with
  | .p (.str _) => T == "str"
  | .p (.lst _) => T == "list"
  | .p (.flst _) => T == "list"
  | .ref i => match S[i]? with
    | some (.lst _) => T == "list"
    | _ => false
  | _ => false
theorem isTy_ok {K : PySem.W.Frag} {W : Wd} {T : String} {x : D} {v : V} (s : RS K W) (r : RD K W x v) (h : isTy T x W.S = true) : tyV K T v W.H := by
  unfold isTy at h
  split at h
  · cases r
    exact beq_iff_eq.mp h
  · cases r with
    | lst h1 h2 h3 => exact .inl ⟨beq_iff_eq.mp h, _, SqL.of h1⟩
  · cases r with
    | flst h1 h3 => exact .inl ⟨beq_iff_eq.mp h, _, flst_sq h1⟩
  · rename_i i
    obtain ⟨a, ea, rfl⟩ := r
    split at h
    · rename_i l el
      obtain ⟨vs, h1, _⟩ := s.obj i _ a el ea
      exact .inl ⟨beq_iff_eq.mp h, _, SqL.of h1⟩
    · cases h
  · cases h
def fMeth (T : String) (g : GM) (fo : FE) (fs : FA) : FE := fun ds S => match fo ds S with
  | none => none
  | some (x, S1) => if isTy T x S1 = true then (match fs ds S1 with
    | none => none
    | some (l, S2) => g x l S2) else none
def VRM (K : PySem.W.Frag) (g : GM) (r : V → List V → Hp → VK → Prop) : Prop :=
  ∀ (W : Wd) (x : D) (v : V) (xs : List D) (vs : List V) (z : D) (S' : DH) (Q : VK), RS K W → RD K W x v → RDs K W xs vs → g x xs W.S = some (z, S') → (∀ W' u, To K W S' W' → RD K W' z u → Q u W'.H) → r v vs W.H Q
section
variable {X : Cx} {o e : Expr} {es : List Expr} {fo : FE} {fs : FA} {name : Str} {apos cpos : Pos} {T id : String} {g : GM} {r : V → List V → Hp → VK → Prop}
theorem de_meth (pa : PlainAttrs T) (slot : Slot T name id) (hty : typeOf (.builtin id) = pure (.type "method_descriptor")) (hm : MtR X id r) (hr : VRM X.K g r) (ho : DE X o fo) (ha : DA X (e :: es) fs)
    (hbase : attributeBase o name X.env (eval o X.env) = eval o X.env := by rfl)
    (hfew : ((backTo cpos (starEach (e :: es) X.env)).all (fun x => !x.1) && (backToKw cpos (keywordEach [] X.env)).all (fun x => x.1.isSome)
      && decide ((e :: es).length + ([] : List Keyword).length + (if ([] : List Keyword).isEmpty then 0 else 1) < 30)) = true := by rfl)
    (hline : (apos.endLine == cpos.line) = true := by rfl) (hs : starEach (e :: es) X.env = (false, eval e X.env) :: starEach es X.env := by rfl) (hplain : (backTo cpos (starEach es X.env)).any (·.1) = false := by rfl) :
    DE X (.Call (.Attribute o name apos) (e :: es) [] cpos) (fMeth T g fo fs) :=
  PE.imp (pe_bm pa slot hty hm ho ha hbase hfew hline hs hplain) fun σ H Q ⟨W, ds, d, S', eH, s, re, e, q⟩ => by
    unfold fMeth at e
    split at e
    · cases e
    · rename_i x S1 e1
      split at e
      · rename_i hty'
        split at e
        · cases e
        · rename_i l S2 e2
          refine ⟨W, ds, x, _, eH, s, re, e1, fun W1 v t1 r1 => ⟨isTy_ok t1.s r1 (by rw [t1.e]; exact hty'), ?_⟩⟩
          refine ⟨W1, ds, l, _, rfl, t1.s, re.ext t1.x, by rw [t1.e]; exact e2, fun W2 vs t2 r2 => ?_⟩
          exact hr W2 x v l vs d S' Q t2.s (r1.ext t2.x) r2 (by rw [t2.e]; exact e) fun W3 u t3 r3 => q W3 u ((t1.after t2).after t3) r3
      · cases e
theorem de_meth0 (pa : PlainAttrs T) (slot : Slot T name id) (hty : typeOf (.builtin id) = pure (.type "method_descriptor")) (hm : MtR X id r) (hr : VRM X.K g r) (ho : DE X o fo)
    (hbase : attributeBase o name X.env (eval o X.env) = eval o X.env := by rfl) (hline : (apos.endLine == cpos.line) = true := by rfl) :
    DE X (.Call (.Attribute o name apos) [] [] cpos) (fMeth T g fo aNil) :=
  PE.imp (pe_bm0 pa slot hty hm ho hbase hline) fun σ H Q ⟨W, ds, d, S', eH, s, re, e, q⟩ => by
    unfold fMeth at e
    split at e
    · cases e
    · rename_i x S1 e1
      split at e
      · rename_i hty'
        refine ⟨W, ds, x, _, eH, s, re, e1, fun W1 v t1 r1 => ⟨isTy_ok t1.s r1 (by rw [t1.e]; exact hty'), ?_⟩⟩
        exact hr W1 x v [] [] d S' Q t1.s r1 .nil (by rw [t1.e]; exact e) fun W3 u t3 r3 => q W3 u (t1.after t3) r3
      · cases e
end
end CK
/-! CkE: statements, targets, loops. -/
namespace CK
open PySem PySem.Spec PyProof.Rows L2

section
variable {X : Cx} {st : Stmt} {rest : List Stmt} {fs gs : FS} {e : Expr} {fe : FE} {pos : Pos}
def sNil : FS := fun ds S => some (.nx ds, S)
def sSeq (fs gs : FS) : FS := fun ds S => match fs ds S with
  | some (.nx ds', S') => gs ds' S'
  | some (r, S') => some (r, S')
  | none => none
theorem dcs_nil : DCs X [] sNil := PSs.imp pss_nil fun E σ H ⟨W, ds, r, S', eH, s, re, e, q⟩ => by
  subst eH
  cases e
  exact q W (To.refl s) σ re
theorem dcs_cons (h1 : DC X st fs) (h2 : DCs X rest gs) : DCs X (st :: rest) (sSeq fs gs) := PSs.imp (pss_cons h1 h2) fun E σ H ⟨W, ds, r, S', eH, s, re, e, q⟩ => by
  unfold sSeq at e
  split at e
  · rename_i ds1 S1 e1
    refine ⟨W, ds, .nx ds1, S1, eH, s, re, e1, fun W1 t1 σ1 re1 => ?_⟩
    exact ⟨W1, ds1, r, S', rfl, t1.s, re1, by rw [t1.e]; exact e, fun W2 t2 => q W2 (t1.after t2)⟩
  · rename_i r' S1 hne e1
    cases e
    refine ⟨W, ds, r, S', eH, s, re, e1, fun W1 t1 => ?_⟩
    have q1 := q W1 t1
    cases r with
    | nx ds' => exact absurd rfl (hne ds')
    | rt d => exact q1
    | bk ds' => exact q1
    | ct ds' => exact q1
  · cases e
theorem dcs_one (h1 : DC X st fs) : DCs X [st] fs := PSs.imp (pss_one h1) fun _ _ _ h => h
def sBreak : FS := fun ds S => some (.bk ds, S)
def sCont : FS := fun ds S => some (.ct ds, S)
theorem dc_pass : DC X (.Pass pos) sNil := PS.imp ps_pass fun E σ H ⟨W, ds, r, S', eH, s, re, e, q⟩ => by
  subst eH
  cases e
  exact q W (To.refl s) σ re
theorem dc_break : DC X (.Break pos) sBreak := PS.imp ps_break fun E σ H ⟨W, ds, r, S', eH, s, re, e, q⟩ => by
  subst eH
  cases e
  exact q W (To.refl s) σ re
theorem dc_continue : DC X (.Continue pos) sCont := PS.imp ps_continue fun E σ H ⟨W, ds, r, S', eH, s, re, e, q⟩ => by
  subst eH
  cases e
  exact q W (To.refl s) σ re
theorem dc_doc {x j pos'} : DC X (.Expr (.Constant (.str x) j pos) pos') sNil := PS.imp ps_doc fun E σ H ⟨W, ds, r, S', eH, s, re, e, q⟩ => by
  subst eH
  cases e
  exact q W (To.refl s) σ re
def sFail : FS := fun _ _ => none
theorem dc_never : DC X st sFail := PS.imp ps_never fun E σ H ⟨W, ds, r, S', eH, s, re, e, q⟩ => by cases e
def sExpr (fe : FE) : FS := fun ds S => match fe ds S with
  | none => none
  | some (_, S1) => some (.nx ds, S1)
theorem dc_expr (he : DE X e fe) (hs : swapsWith e none pos.line X.env = pure false := by rfl) : DC X (.Expr e pos) (sExpr fe) := PS.imp (ps_expr he hs) fun E σ H ⟨W, ds, r, S', eH, s, re, e, q⟩ => by
  unfold sExpr at e
  split at e
  · cases e
  · rename_i d S1 e1
    cases e
    exact ⟨W, ds, d, _, eH, s, re, e1, fun W1 v t1 r1 => q W1 t1 σ (re.ext t1.x)⟩
def sRet (fe : FE) : FS := fun ds S => match fe ds S with
  | none => none
  | some (d, S1) => some (.rt d, S1)
theorem dc_ret (he : DE X e fe) : DC X (.Return (some e) pos) (sRet fe) := PS.imp (ps_ret he) fun E σ H ⟨W, ds, r, S', eH, s, re, e, q⟩ => by
  unfold sRet at e
  split at e
  · cases e
  · rename_i d S1 e1
    cases e
    exact ⟨W, ds, d, _, eH, s, re, e1, fun W1 v t1 r1 => q W1 t1 v r1⟩
def sRetN : FS := fun _ S => some (.rt (.p .non), S)
theorem dc_retN : DC X (.Return none pos) sRetN := PS.imp ps_retN fun E σ H ⟨W, ds, r, S', eH, s, re, e, q⟩ => by
  subst eH
  cases e
  exact q W (To.refl s) .non .non
def sIf (ft : FT) (fs gs : FS) : FS := fun ds S => match ft ds S with
  | none => none
  | some (true, S1) => fs ds S1
  | some (false, S1) => gs ds S1
theorem dc_if {c : Expr} {a b : List Stmt} {ft : FT} (hc : DT X c ft) (ha : DCs X a fs) (hb : DCs X b gs) : DC X (.If c a b pos) (sIf ft fs gs) := PS.imp (ps_if hc ha hb) fun E σ H ⟨W, ds, r, S', eH, s, re, e, q⟩ => by
  unfold sIf at e
  split at e
  · cases e
  · rename_i S1 e1
    refine ⟨W, ds, true, _, eH, s, re, e1, fun W1 t1 => ?_⟩
    (try dsimp only); rw [if_pos rfl]
    exact ⟨W1, ds, r, S', rfl, t1.s, re.ext t1.x, by rw [t1.e]; exact e, fun W2 t2 => q W2 (t1.after t2)⟩
  · rename_i S1 e1
    refine ⟨W, ds, false, _, eH, s, re, e1, fun W1 t1 => ?_⟩
    (try dsimp only); rw [if_neg Bool.false_ne_true]
    exact ⟨W1, ds, r, S', rfl, t1.s, re.ext t1.x, by rw [t1.e]; exact e, fun W2 t2 => q W2 (t1.after t2)⟩

/-! ### targets -/
def gN (i : Nat) : FG := fun d ds S => some (ds.set i (some d), S)
theorem dg_name {i : Nat} {x : Str} (hN : X.N.Nodup) (hi : X.N[i]? = some x) (hx : Loc X.env.scope x) (hf : X.fn x = true ∨ X.env.scope.names.lookup x = some .local := by first | exact .inl rfl | exact .inr rfl | assumption) : DG X (.Name x pos) (gN i) :=
  PG.imp (pg_name hN hi hx hf) fun v σ H Q ⟨W, ds, d, ds', S', eH, s, re, rd, e, q⟩ => by
    subst eH
    cases e
    exact q W _ (To.refl s) (re.set rd)
/-- the items of a list or a tuple -/
def seqD (S : DH) : D → Option (List D)
  | .p (.tup l) => some (l.map .p)
  | .p (.ktup l) => some (l.map .p)
  | .p (.ftup l) => some (l.map .p)
  | .p (.lst l) => some (l.map .p)
  | .p (.flst l) => some (l.map .p)
  | .ref i => match S[i]? with
    | some (.lst l) => some l
    | _ => none
  | _ => none
def tupD : D → Option (List P)
  | .p (.tup l) => some l
  | .p (.ktup l) => some l
  | .p (.ftup l) => some l
  | _ => none
theorem tupD_ok {K : PySem.W.Frag} {W : Wd} {d : D} {v : V} {ps : List P} (r : RD K W d v) (h : tupD d = some ps) : ∃ a vs, v = .ref a ∧ SqT K W.H a vs ∧ RPs K W.H W.L ps vs := by
  unfold tupD at h
  split at h
  · cases h
    cases r with
    | tup h1 h2 => exact ⟨_, _, rfl, SqT.of h1, h2⟩
  · cases h
    cases r with
    | ktup h1 h2 => exact ⟨_, _, rfl, h1.sq, h2⟩
  · cases h
    cases r with
    | ftup h1 _ h2 => exact ⟨_, _, rfl, h1.sq, h2⟩
  · cases h
def setAll : List Nat → List D → DS → Option DS
  | [], [], ds => some ds
  | i :: is, d :: l, ds => setAll is l (ds.set i (some d))
  | _, _, _ => none
def gTupN (is : List Nat) : FG := fun d ds S => match tupD d with
  | none => none
  | some ps => (setAll is (ps.map .p) ds).map fun ds' => (ds', S)
/-- a run of plain names -/
inductive NamesAt (X : Cx) : List Expr → List Nat → TGs → Prop
  | nil : NamesAt X [] [] gNil
  | cons {x : Str} {i : Nat} {pos : Pos} {es : List Expr} {is : List Nat} {t : TGs} : X.N[i]? = some x → Loc X.env.scope x → (X.fn x = true ∨ X.env.scope.names.lookup x = some .local) → NamesAt X es is t →
      (assignEach (.Name x pos :: es) X.env).map (·.2) = assign (.Name x pos) X.env :: (assignEach es X.env).map (·.2) → NamesAt X (.Name x pos :: es) (i :: is) (gCons (gName i) t)
theorem NamesAt.pgs {es : List Expr} {is : List Nat} {t : TGs} (hN : X.N.Nodup) (h : NamesAt X es is t) : PGs X es t := by
  induction h with
  | nil => exact pgs_nil
  | cons h1 h2 h3 _ h5 ih => exact pgs_cons (pg_name hN h1 h2 h3) ih h5
def setAllV : List Nat → List V → L2.St → Option L2.St
  | [], [], σ => some σ
  | i :: is, v :: l, σ => setAllV is l (σ.set i (some v))
  | _, _, _ => none
theorem NamesAt.red {es : List Expr} {is : List Nat} {t : TGs} (h : NamesAt X es is t) : ∀ {vs : List V} {σ σ' : L2.St} {H : Hp} {Q : L2.St → Hp → Prop}, setAllV is vs σ = some σ' → Q σ' H → t vs σ H Q := by
  induction h with
  | nil =>
    intro vs σ σ' H Q e q
    cases vs with
    | nil => cases e; exact ⟨rfl, q⟩
    | cons v r => cases e
  | cons h1 h2 h3 _ h5 ih =>
    intro vs σ σ' H Q e q
    cases vs with
    | nil => cases e
    | cons v r => exact ⟨v, r, rfl, ih e q⟩
theorem setAll_rel {K : PySem.W.Frag} {W : Wd} : ∀ {is : List Nat} {l : List D} {ds ds' : DS} {vs : List V} {σ : L2.St}, setAll is l ds = some ds' → RDs K W l vs → RE K W ds σ → ∃ σ', setAllV is vs σ = some σ' ∧ RE K W ds' σ'
  | [], [], _, _, _, _, e, .nil, re => by cases e; exact ⟨_, rfl, re⟩
  | i :: is, d :: l, ds, ds', _, σ, e, .cons r t, re => setAll_rel (is := is) (l := l) e t (re.set r)
  | [], _ :: _, _, _, _, _, e, _, _ => by cases e
  | _ :: _, [], _, _, _, _, e, _, _ => by cases e
theorem dg_tup {es : List Expr} {k : Nat} {is : List Nat} {t : TGs} {n : Nat} (hc : X.calm = true) (hN : X.N.Nodup) (h : NamesAt X es is t)
    (hn : (assignEach es X.env).length = n := by rfl) (hst : (assignEach es X.env).findIdx? (·.1) = none := by rfl) (hl : is.length = n := by rfl) : DG X (.Tuple es k pos) (gTupN is) :=
  PG.imp (pg_tup hc (h.pgs hN) hn hst) fun v σ H Q ⟨W, ds, d, ds', S', eH, s, re, rd, e, q⟩ => by
    subst eH
    unfold gTupN at e
    split at e
    · cases e
    · rename_i ps hp
      cases hs : setAll is (ps.map .p) ds with
      | none => rw [hs] at e; cases e
      | some d2 =>
        rw [hs] at e
        cases e
        obtain ⟨a, vs, rfl, h1, h2⟩ := tupD_ok rd hp
        obtain ⟨σ', e1, e2⟩ := setAll_rel hs (rps_ds h2) re
        refine ⟨a, vs, rfl, h1, ?_, h.red e1 (q W σ' (To.refl s) e2)⟩
        rw [← hl]
        have len : ∀ {is : List Nat} {vs : List V} {σ σ' : L2.St}, setAllV is vs σ = some σ' → vs.length = is.length := by
          intro is
          induction is with
          | nil => intro vs σ σ' e; cases vs with
            | nil => rfl
            | cons v r => cases e
          | cons i is ih => intro vs σ σ' e; cases vs with
            | nil => cases e
            | cons v r => rw [List.length_cons, List.length_cons, ih e]
        exact len e1

/-! ### assignments -/
def sAsg (fe : FE) (g : FG) : FS := fun ds S => match fe ds S with
  | none => none
  | some (d, S1) => match g d ds S1 with
    | none => none
    | some (ds', S2) => some (.nx ds', S2)
theorem tS_asg {K : PySem.W.Frag} {g : FG} {E : Ends} {σ : L2.St} {H : Hp} (h : tS K (sAsg fe g) E σ H) : tAsg (tD K fe) (tG K g) E σ H := by
  obtain ⟨W, ds, r, S', eH, s, re, e, q⟩ := h
  unfold sAsg at e
  split at e
  · cases e
  · rename_i d S1 e1
    split at e
    · cases e
    · rename_i ds' S2 e2
      cases e
      refine ⟨W, ds, d, _, eH, s, re, e1, fun W1 v t1 r1 => ?_⟩
      exact ⟨W1, ds, d, ds', S', rfl, t1.s, re.ext t1.x, r1, by rw [t1.e]; exact e2, fun W2 σ2 t2 re2 => q W2 (t1.after t2) σ2 re2⟩
theorem dc_asg {tg : Expr} {g : FG} (he : DE X e fe) (hg : DG X tg g) (hs : swapsWithSole [tg] e pos.line X.env = pure false := by rfl) (hw : swappedStores [tg] e X.env = pure none := by rfl)
    (h1 : (assignEach [tg] X.env).map (·.2) = [assign tg X.env] := by rfl) : DC X (.Assign [tg] e pos) (sAsg fe g) := PS.imp (ps_asg he hg hs hw h1) fun _ _ _ h => tS_asg h
theorem dc_set {i : Nat} {x : Str} {pos' : Pos} (hN : X.N.Nodup) (hi : X.N[i]? = some x) (hx : Loc X.env.scope x) (he : DE X e fe) (hs : swapsWith e (some (.Name x pos')) pos.line X.env = pure false := by rfl) (hf : X.fn x = true ∨ X.env.scope.names.lookup x = some .local := by first | exact .inl rfl | exact .inr rfl | assumption) :
    DC X (.Assign [.Name x pos'] e pos) (sAsg fe (gN i)) := PS.imp (ps_set hN hi hx he hs hf) fun E σ H h => by
  obtain ⟨W, ds, r, S', eH, s, re, e, q⟩ := h
  unfold sAsg at e
  split at e
  · cases e
  · rename_i d S1 e1
    cases e
    exact ⟨W, ds, d, _, eH, s, re, e1, fun W1 v t1 r1 => q W1 t1 _ ((re.ext t1.x).set r1)⟩
/-! a, b = x, y -/
def sPar (i j : Nat) (fs : FA) : FS := fun ds S => match fs ds S with
  | some ([x, y], S1) => some (.nx ((ds.set i (some x)).set j (some y)), S1)
  | _ => none
theorem dc_par {i j : Nat} {x y : Str} {a b : Expr} {fa : FA} {px py pt : Pos} {kt k2 pt2} (hc : X.calm = true) (hN : X.N.Nodup) (hi : X.N[i]? = some x) (hj : X.N[j]? = some y) (hij : i ≠ j)
    (hx : X.env.scope.names.lookup x = some .local) (hy : X.env.scope.names.lookup y = some .local) (ha : DA X [a, b] fa)
    (hw : swappedStores [.Tuple [.Name x px, .Name y py] kt pt] (.Tuple [a, b] k2 pt2) X.env = pure (some [x, y]))
    (hs : swapsWithSole [.Tuple [.Name x px, .Name y py] kt pt] (.Tuple [a, b] k2 pt2) pos.line X.env = pure false := by rfl) :
    DC X (.Assign [.Tuple [.Name x px, .Name y py] kt pt] (.Tuple [a, b] k2 pt2) pos) (sPar i j fa) := PS.imp (ps_par hc hN hi hj hij hx hy ha hw hs) fun E σ H h => by
  obtain ⟨W, ds, r, S', eH, s, re, e, q⟩ := h
  unfold sPar at e
  split at e
  · rename_i x y S1 e1
    cases e
    refine ⟨W, ds, _, _, eH, s, re, e1, fun W1 vs t1 r1 => ?_⟩
    cases r1 with
    | cons rx r1 =>
      cases r1 with
      | cons ry r1 =>
        cases r1
        exact ⟨_, _, rfl, q W1 t1 _ (((re.ext t1.x).set rx).set ry)⟩
  · cases e
/-! o[i] = e -/
abbrev G3 := D → D → D → DH → Option DH
def VR3 (K : PySem.W.Frag) (g : G3) (r : TSet) : Prop :=
  ∀ (W : Wd) (o i x : D) (vo vi vx : V) (S' : DH) (Q : Hp → Prop), RS K W → RD K W o vo → RD K W i vi → RD K W x vx → g o i x W.S = some S' → (∀ W', To K W S' W' → Q W'.H) → r vo vi vx W.H Q
def gSet (fo fi : FE) (g : G3) : FG := fun d ds S => match fo ds S with
  | none => none
  | some (o, S1) => match fi ds S1 with
    | none => none
    | some (i, S2) => (g o i d S2).map fun S3 => (ds, S3)
theorem dg_sub {o i : Expr} {fo fi : FE} {g : G3} {r : TSet} (ho : DE X o fo) (hi : DE X i fi) (hs : PSet X r) (hr : VR3 X.K g r)
    (ha : ∀ v, assign (.Subscript o i pos) X.env v = (do
      let ov ← holding [v] (eval o X.env)
      let iv ← holding [v, ov] (eval i X.env)
      standAt pos
      holding [v, ov, iv] (setItem ov iv v)
      release [v, ov, iv] []) := by intro _; rfl) : DG X (.Subscript o i pos) (gSet fo fi g) := PG.imp (pg_sub ho hi hs ha) fun v σ H Q h => by
  obtain ⟨W, ds, d, ds', S', eH, s, re, rd, e, q⟩ := h
  unfold gSet at e
  split at e
  · cases e
  · rename_i od S1 e1
    split at e
    · cases e
    · rename_i id S2 e2
      cases h3 : g od id d S2 with
      | none => rw [h3] at e; cases e
      | some S3 =>
        rw [h3] at e; cases e
        refine ⟨W, ds, od, _, eH, s, re, e1, fun W1 v1 t1 r1 => ?_⟩
        refine ⟨W1, ds, id, _, rfl, t1.s, re.ext t1.x, by rw [t1.e]; exact e2, fun W2 v2 t2 r2 => ?_⟩
        refine hr W2 od id d v1 v2 v _ _ t2.s (r1.ext t2.x) r2 (rd.ext (t1.x.trans t2.x)) (by rw [t2.e]; exact h3) fun W3 t3 => ?_
        exact q W3 σ ((t1.after t2).after t3) (re.ext (t1.x.trans (t2.x.trans t3.x)))
end

/-! ### while -/
def whileL (ft : FT) (fb : FS) : Nat → DS → DH → Option (Fl × DH)
  | 0, _, _ => none
  | n + 1, ds, S => match ft ds S with
    | none => none
    | some (false, S1) => some (.nx ds, S1)
    | some (true, S1) => match fb ds S1 with
      | none => none
      | some (.nx ds2, S2) => whileL ft fb n ds2 S2
      | some (.ct ds2, S2) => whileL ft fb n ds2 S2
      | some (.bk ds2, S2) => some (.nx ds2, S2)
      | some (.rt d, S2) => some (.rt d, S2)
theorem whileL_mono {ft : FT} {fb : FS} {r : Fl × DH} : ∀ {n : Nat} {ds : DS} {S : DH}, whileL ft fb n ds S = some r → whileL ft fb (n + 1) ds S = some r
  | 0, _, _, e => by cases e
  | n + 1, ds, S, e => by
    unfold whileL at e ⊢
    split at e
    · cases e
    · exact e
    · split at e
      · cases e
      · exact whileL_mono e
      · exact whileL_mono e
      · exact e
      · exact e
theorem whileL_le {ft : FT} {fb : FS} {r : Fl × DH} {n m : Nat} {ds : DS} {S : DH} (h : n ≤ m) (e : whileL ft fb n ds S = some r) : whileL ft fb m ds S = some r := by
  induction h with
  | refl => exact e
  | step _ ih => exact whileL_mono ih
open Classical in
noncomputable def sWhile (ft : FT) (fb : FS) : FS := fun ds S => if h : ∃ n r, whileL ft fb n ds S = some r then some h.choose_spec.choose else none
theorem sWhile_of {ft : FT} {fb : FS} {n : Nat} {ds : DS} {S : DH} {r : Fl × DH} (e : whileL ft fb n ds S = some r) : sWhile ft fb ds S = some r := by
  have h : ∃ n r, whileL ft fb n ds S = some r := ⟨n, r, e⟩
  unfold sWhile
  rw [dif_pos h]
  have e2 := h.choose_spec.choose_spec
  have a := whileL_le (Nat.le_max_left n h.choose) e
  have b := whileL_le (Nat.le_max_right n h.choose) e2
  rw [a] at b
  exact b.symm
theorem sWhile_some {ft : FT} {fb : FS} {ds : DS} {S : DH} {r : Fl × DH} (e : sWhile ft fb ds S = some r) : ∃ n, whileL ft fb n ds S = some r := by
  unfold sWhile at e
  split at e
  · rename_i h
    cases e
    exact ⟨_, h.choose_spec.choose_spec⟩
  · cases e
section
variable {X : Cx} {pos : Pos}
theorem dc_while {c : Expr} {body : List Stmt} {ft : FT} {fb : FS} (hp : PassesOwn (model X.prog X.w) X.A X.env X.xe) (hc : DT X c ft) (hb : DCs X body fb) : DC X (.While c body [] pos) (sWhile ft fb) :=
  PS.imp (ps_while hp hc hb) fun E σ H h => by
    obtain ⟨W, ds, r, S', eH, s, re, e, q⟩ := h
    obtain ⟨n, e⟩ := sWhile_some e
    refine ⟨fun m σ H => ∃ W1 ds1, W1.H = H ∧ Ext W W1 ∧ RS X.K W1 ∧ RE X.K W1 ds1 σ ∧ whileL ft fb m ds1 W1.S = some (r, S'), ⟨n, W, ds, eH, Ext.refl, s, re, e⟩, ?_⟩
    rintro m σ H ⟨W1, ds1, rfl, x1, s1, re1, e1⟩
    cases m with
    | zero => cases e1
    | succ m =>
      unfold whileL at e1
      split at e1
      · cases e1
      · rename_i S1 h1
        cases e1
        refine ⟨W1, ds1, false, _, rfl, s1, re1, h1, fun W2 t2 => ?_⟩
        (try dsimp only); rw [if_neg Bool.false_ne_true]
        exact q W2 ⟨x1.trans t2.x, t2.s, t2.e⟩ σ (re1.ext t2.x)
      · rename_i S1 h1
        refine ⟨W1, ds1, true, _, rfl, s1, re1, h1, fun W2 t2 => ?_⟩
        (try dsimp only); rw [if_pos rfl]
        refine ⟨fun σ' H' => ∃ W3 ds3, W3.H = H' ∧ Ext W W3 ∧ RS X.K W3 ∧ RE X.K W3 ds3 σ' ∧ whileL ft fb m ds3 W3.S = some (r, S'), fun σ' H' h' => ⟨m, Nat.lt_succ_self m, h'⟩, ?_⟩
        have x2 := x1.trans t2.x
        split at e1
        · cases e1
        · rename_i ds2 S2 h2
          exact ⟨W2, ds1, .nx ds2, _, rfl, t2.s, re1.ext t2.x, by rw [t2.e]; exact h2, fun W3 t3 σ3 re3 => ⟨W3, ds2, rfl, x2.trans t3.x, t3.s, re3, by rw [t3.e]; exact e1⟩⟩
        · rename_i ds2 S2 h2
          exact ⟨W2, ds1, .ct ds2, _, rfl, t2.s, re1.ext t2.x, by rw [t2.e]; exact h2, fun W3 t3 σ3 re3 => ⟨W3, ds2, rfl, x2.trans t3.x, t3.s, re3, by rw [t3.e]; exact e1⟩⟩
        · rename_i ds2 S2 h2
          cases e1
          exact ⟨W2, ds1, .bk ds2, _, rfl, t2.s, re1.ext t2.x, by rw [t2.e]; exact h2, fun W3 t3 σ3 re3 => q W3 ⟨x2.trans t3.x, t3.s, t3.e⟩ σ3 re3⟩
        · rename_i d S2 h2
          cases e1
          exact ⟨W2, ds1, .rt _, _, rfl, t2.s, re1.ext t2.x, by rw [t2.e]; exact h2, fun W3 t3 v rv => q W3 ⟨x2.trans t3.x, t3.s, t3.e⟩ v rv⟩
end

/-! ### for -/
/-- what is walked: the items, what must stay -/
abbrev FI := DS → DH → Option (List D × (DH → Prop) × DH)
structure Wk (K : PySem.W.Frag) (W0 : Wd) (its : List D) (chk : DH → Prop) (J : It) : Prop where
  go : ∀ (W : Wd) (i : Nat) (d : D), Ext W0 W → RS K W → chk W.S → its[i]? = some d → J.go i W.H ∧ ∀ x H', J.yld i W.H x H' → ∃ W', W'.H = H' ∧ To K W W.S W' ∧ RD K W' d x
  stop : ∀ (W : Wd), Ext W0 W → RS K W → chk W.S → J.stop its.length W.H
def tI (K : PySem.W.Frag) (f : FI) : TI := fun σ H R => ∃ W ds its chk S', W.H = H ∧ RS K W ∧ RE K W ds σ ∧ f ds W.S = some (its, chk, S') ∧ ∀ W' J, To K W S' W' → Wk K W' its chk J → R J W'.H
abbrev DI (X : Cx) (tg iter : Expr) (f : FI) : Prop := PI X tg iter (tI X.K f)
theorem PI.imp {X : Cx} {tg iter : Expr} {t t' : TI} (h : PI X tg iter t) (i : ∀ σ H R, t' σ H R → t σ H R) : PI X tg iter t' := ⟨fun pins s σ H R I q => h.run pins s σ H R I (i σ H R q)⟩
open Classical in
noncomputable def forL (chk : DH → Prop) (g : FG) (fb : FS) : List D → DS → DH → Option (Fl × DH)
  | [], ds, S => if chk S then some (.nx ds, S) else none
  | d :: r, ds, S => if chk S then (match g d ds S with
    | none => none
    | some (ds1, S1) => match fb ds1 S1 with
      | none => none
      | some (.nx ds2, S2) => forL chk g fb r ds2 S2
      | some (.ct ds2, S2) => forL chk g fb r ds2 S2
      | some (.bk ds2, S2) => some (.nx ds2, S2)
      | some (.rt d, S2) => some (.rt d, S2)) else none
noncomputable def sFor (fi : FI) (g : FG) (fb : FS) : FS := fun ds S => match fi ds S with
  | none => none
  | some (its, chk, S1) => forL chk g fb its ds S1
section
variable {X : Cx} {pos : Pos}
theorem dc_for {tg iter : Expr} {body : List Stmt} {fi : FI} {g : FG} {fb : FS} (hp : PassesOwn (model X.prog X.w) X.A X.env X.xe) (hc : X.calm = true) (hi : DI X tg iter fi) (hg : DG X tg g) (hb : DCs X body fb)
    (hs : ∀ x, foldedSetIterable iter X.env x = pure x := by intro _; rfl) : DC X (.For tg iter body [] pos) (sFor fi g fb) :=
  PS.imp (ps_for hp hc hi hg hb hs) fun E σ H h => by
    obtain ⟨W, ds, r, S', eH, s, re, e, q⟩ := h
    unfold sFor at e
    split at e
    · cases e
    rename_i its chk S1 e1
    refine ⟨W, ds, its, chk, S1, eH, s, re, e1, fun W0 J t0 wk => ?_⟩
    refine ⟨fun i m σ H => m = its.length - i ∧ i ≤ its.length ∧ ∃ W1 ds1, W1.H = H ∧ Ext W0 W1 ∧ RS X.K W1 ∧ RE X.K W1 ds1 σ ∧ forL chk g fb (its.drop i) ds1 W1.S = some (r, S'), ⟨its.length, rfl, Nat.zero_le _, W0, ds, rfl, Ext.refl, t0.s, re.ext t0.x, by rw [List.drop_zero, t0.e]; exact e⟩, ?_⟩
    rintro i m σ H ⟨rfl, hi, W1, ds1, rfl, x1, s1, re1, e1⟩
    by_cases hlt : i < its.length
    · have hd : its.drop i = its[i] :: its.drop (i + 1) := List.drop_eq_getElem_cons hlt
      rw [hd] at e1
      unfold forL at e1
      split at e1
      · rename_i hk
        obtain ⟨g1, y1⟩ := wk.go W1 i its[i] x1 s1 hk (by simp [hlt])
        refine .inr ⟨g1, fun σ' H' => i + 1 ≤ its.length ∧ ∃ W1 ds1, W1.H = H' ∧ Ext W0 W1 ∧ RS X.K W1 ∧ RE X.K W1 ds1 σ' ∧ forL chk g fb (its.drop (i + 1)) ds1 W1.S = some (r, S'), fun σ' H' ⟨h1, h2⟩ => ⟨its.length - (i + 1), by omega, rfl, h1, h2⟩, fun x H' hy => ?_⟩
        obtain ⟨W2, rfl, t2, rd2⟩ := y1 x H' hy
        split at e1
        · cases e1
        rename_i ds2 S2 h2
        refine ⟨W2, ds1, its[i], ds2, S2, rfl, t2.s, re1.ext t2.x, rd2, by rw [t2.e]; exact h2, fun W3 σ3 t3 re3 => ?_⟩
        have x3 := x1.trans (t2.x.trans t3.x)
        split at e1
        · cases e1
        · rename_i ds4 S4 h4
          exact ⟨W3, ds2, .nx ds4, _, rfl, t3.s, re3, by rw [t3.e]; exact h4, fun W4 t4 σ4 re4 => ⟨hlt, W4, ds4, rfl, x3.trans t4.x, t4.s, re4, by rw [t4.e]; exact e1⟩⟩
        · rename_i ds4 S4 h4
          exact ⟨W3, ds2, .ct ds4, _, rfl, t3.s, re3, by rw [t3.e]; exact h4, fun W4 t4 σ4 re4 => ⟨hlt, W4, ds4, rfl, x3.trans t4.x, t4.s, re4, by rw [t4.e]; exact e1⟩⟩
        · rename_i ds4 S4 h4
          cases e1
          exact ⟨W3, ds2, .bk ds4, _, rfl, t3.s, re3, by rw [t3.e]; exact h4, fun W4 t4 σ4 re4 => q W4 ⟨t0.x.trans (x3.trans t4.x), t4.s, t4.e⟩ σ4 re4⟩
        · rename_i d4 S4 h4
          cases e1
          exact ⟨W3, ds2, .rt _, _, rfl, t3.s, re3, by rw [t3.e]; exact h4, fun W4 t4 v rv => q W4 ⟨t0.x.trans (x3.trans t4.x), t4.s, t4.e⟩ v rv⟩
      · cases e1
    · have hi' : i = its.length := by omega
      subst hi'
      rw [List.drop_length] at e1
      unfold forL at e1
      split at e1
      · rename_i hk
        cases e1
        exact .inl ⟨wk.stop W1 x1 s1 hk, q W1 ⟨t0.x.trans x1, s1, rfl⟩ σ re1⟩
      · cases e1
end
end CK
/-! CkF: comprehensions. -/
namespace CK
open PySem PySem.Spec PyProof.Rows L2

def wipeD (ds : DS) : List Nat → DS
  | [] => ds
  | v :: vs => (wipeD ds vs).set v none
theorem RE.wipe {K : PySem.W.Frag} {W : Wd} {ds : DS} {σ : L2.St} (h : RE K W ds σ) : ∀ vs : List Nat, RE K W (wipeD ds vs) (wipe σ vs)
  | [] => h
  | v :: vs => by
    have ih := RE.wipe h vs
    unfold wipeD L2.wipe
    refine ⟨by rw [List.length_set, List.length_set]; exact ih.1, fun j e he => ?_⟩
    by_cases hj : v = j
    · subst hj
      have hl := get_lt he
      rw [List.length_set] at hl
      rw [List.getElem?_set_self hl] at he
      cases he
    · rw [List.getElem?_set_ne hj] at he
      obtain ⟨v', e2, r2⟩ := ih.2 j e he
      exact ⟨v', by rw [List.getElem?_set_ne hj]; exact e2, r2⟩
theorem wipe_set {σ : L2.St} {i : Nat} {x : Option V} : ∀ {vs : List Nat}, i ∈ vs → wipe (σ.set i x) vs = wipe σ vs
  | [], h => by cases h
  | v :: vs, h => by
    by_cases hm : i ∈ vs
    · unfold L2.wipe; rw [wipe_set hm]
    · have e : i = v := by
        rcases List.mem_cons.mp h with e | e
        · exact e
        · exact absurd e hm
      subst e
      have com : ∀ (ws : List Nat), i ∉ ws → wipe (σ.set i x) ws = (wipe σ ws).set i x := by
        intro ws
        induction ws with
        | nil => intro _; rfl
        | cons w ws ih =>
          intro hn
          unfold L2.wipe
          rw [ih (fun z => hn (List.mem_cons_of_mem _ z)), List.set_comm _ _ (fun z => hn (by rw [z]; exact List.mem_cons_self))]
      unfold L2.wipe
      rw [com vs hm, List.set_set]
theorem wipe_idem (σ : L2.St) : ∀ vs : List Nat, wipe (wipe σ vs) vs = wipe σ vs := by
  have h : ∀ (ws vs : List Nat) (τ : L2.St), (∀ w ∈ ws, w ∈ vs) → wipe (wipe τ ws) vs = wipe τ vs := by
    intro ws vs
    induction ws with
    | nil => intro τ _; rfl
    | cons w ws ih =>
      intro τ hm
      show wipe ((wipe τ ws).set w none) vs = wipe τ vs
      rw [wipe_set (hm w List.mem_cons_self)]
      exact ih τ fun x hx => hm x (List.mem_cons_of_mem _ hx)
  exact fun vs => h vs vs σ fun _ z => z

theorem Paired.app {α β : Type} {F : α → β → Prop} : ∀ {xs xs' : List α} {ys ys' : List β}, Paired F xs ys → Paired F xs' ys' → Paired F (xs ++ xs') (ys ++ ys')
  | _, _, _, _, .nil, s => s
  | _, _, _, _, .cons r t, s => .cons r (Paired.app t s)
/-- a comprehension's target -/
def CompG (K : PySem.W.Frag) (vs : List Nat) (tg : TG) (g : FG) : Prop :=
  ∀ (W : Wd) (d : D) (v : V) (ds ds' : DS) (σ : L2.St) (S' : DH) (Q : L2.St → Hp → Prop), RS K W → RE K W ds (wipe σ vs) → RD K W d v → g d ds W.S = some (ds', S') →
    (∀ σ2, wipe σ2 vs = wipe σ vs → RE K W ds' σ2 → S' = W.S → Q σ2 W.H) → tg v (wipe σ vs) W.H Q
theorem compG_name {K : PySem.W.Frag} {vs : List Nat} {i : Nat} (h : i ∈ vs) : CompG K vs (gName i) (gN i) := by
  intro W d v ds ds' σ S' Q s re rd e q
  cases e
  exact q _ (by rw [wipe_set h, wipe_idem]) (re.set rd) rfl
theorem setAllV_wipe {vs : List Nat} {σ0 : L2.St} : ∀ {is : List Nat} {l : List V} {σ σ' : L2.St}, (∀ i ∈ is, i ∈ vs) → setAllV is l σ = some σ' → wipe σ' vs = wipe σ vs
  | [], [], _, _, _, e => by cases e; rfl
  | i :: is, v :: l, σ, _, h, e => by
    have := setAllV_wipe (σ0 := σ0) (is := is) (l := l) (fun j hj => h j (List.mem_cons_of_mem _ hj)) e
    rw [this, wipe_set (h i List.mem_cons_self)]
  | [], _ :: _, _, _, _, e => by cases e
  | _ :: _, [], _, _, _, e => by cases e
theorem setAllV_len : ∀ {is : List Nat} {vs : List V} {σ σ' : L2.St}, setAllV is vs σ = some σ' → vs.length = is.length
  | [], [], _, _, _ => rfl
  | i :: is, v :: l, _, _, e => by rw [List.length_cons, List.length_cons, setAllV_len (is := is) (vs := l) e]
  | [], _ :: _, _, _, e => by cases e
  | _ :: _, [], _, _, e => by cases e
/-- the readings of a run of plain names, by their places alone -/
inductive NamesG : List Nat → TGs → Prop
  | nil : NamesG [] gNil
  | cons {i : Nat} {is : List Nat} {t : TGs} : NamesG is t → NamesG (i :: is) (gCons (gName i) t)
theorem NamesG.red {is : List Nat} {t : TGs} (h : NamesG is t) : ∀ {vs : List V} {σ σ' : L2.St} {H : Hp} {Q : L2.St → Hp → Prop}, setAllV is vs σ = some σ' → Q σ' H → t vs σ H Q := by
  induction h with
  | nil =>
    intro vs σ σ' H Q e q
    cases vs with
    | nil => cases e; exact ⟨rfl, q⟩
    | cons v r => cases e
  | cons _ ih =>
    intro vs σ σ' H Q e q
    cases vs with
    | nil => cases e
    | cons v r => exact ⟨v, r, rfl, ih e q⟩
theorem compG_tup {K : PySem.W.Frag} {vs is : List Nat} {t : TGs} {n : Nat} (h : NamesG is t) (hi : ∀ i ∈ is, i ∈ vs) (hl : is.length = n) : CompG K vs (gTup K n t) (gTupN is) := by
  intro W d v ds ds' σ S' Q s re rd e q
  unfold gTupN at e
  split at e
  · cases e
  · rename_i ps hp
    cases hs : setAll is (ps.map .p) ds with
    | none => rw [hs] at e; cases e
    | some d2 =>
      rw [hs] at e
      cases e
      obtain ⟨a, us, rfl, h1, h2⟩ := tupD_ok rd hp
      obtain ⟨σ', e1, e2⟩ := setAll_rel hs (rps_ds h2) re
      refine ⟨a, us, rfl, h1, by rw [← hl]; exact setAllV_len e1, h.red e1 (q σ' ?_ e2 rfl)⟩
      rw [setAllV_wipe (σ0 := σ) hi e1, wipe_idem]

open Classical in
noncomputable def compL (chk : DH → Prop) (g : FG) (ft : FT) (fe : FE) (ds0 : DS) : Nat → List D → DH → Option (List D × DH)
  | _, [], S => if chk S then some ([], S) else none
  | n, d :: r, S => if chk S then (match g d ds0 S with
    | none => none
    | some (ds1, S1) => match ft ds1 S1 with
      | none => none
      | some (false, S2) => compL chk g ft fe ds0 n r S2
      | some (true, S2) => match fe ds1 S2 with
        | none => none
        | some (y, S3) => if n < sizeLine then (match compL chk g ft fe ds0 (n + 1) r S3 with
          | none => none
          | some (l, S4) => some (y :: l, S4)) else none) else none
def fYes : FT := fun _ S => some (true, S)
/-- the new list held apart -/
def Wd.hold (W : Wd) (D : Addr) (u : HO) : Wd := { W with H := upd W.H D u, R := fun a => W.R a ∨ a = D }
section
variable {K : PySem.W.Frag} {W W0 : Wd} {D : Addr}
theorem hold_start {u : HO} (hu : isLD u = true) (s : RS K W) (hD : W.H D = none) : Ext W (W.hold D u) ∧ RS K (W.hold D u) := by
  have ne : ∀ a x, W.H a = some x → a ≠ D := fun a x e z => by subst z; rw [hD] at e; cases e
  have x : Ext W (W.hold D u) := by
    refine ⟨List.prefix_refl _, fun _ h => .inl h, fun a x h n => ⟨(upd_ne (ne a x h)).trans h, fun l => ?_⟩, fun a r => ?_, fun a vs h => (upd_ne (ne a _ h)).trans h, fun a o x h => (upd_ne (ne a _ h)).trans h⟩
    · rcases l with (r | r) | r
      · exact n (.inl r)
      · exact ne a x h r
      · exact n (.inr r)
    · obtain ⟨xs, e, hxs⟩ := s.rd a r
      exact upd_ne (ne a _ e)
  refine ⟨x, s.len, s.nd, fun i a e => ?_, fun i o a h1 h2 => ?_, fun i a e r => ?_, fun a r => ?_, s.wf⟩
  · obtain ⟨y, h⟩ := s.dom i a e
    exact ⟨y, (upd_ne (ne a y h)).trans h⟩
  · obtain ⟨y, h⟩ := s.dom i a h2
    exact (s.obj i o a h1 h2).ext_same x (upd_ne (ne a y h))
  · rcases r with r | r
    · exact s.dis i a e r
    · obtain ⟨y, h⟩ := s.dom i a e
      exact ne a y h r
  · rcases r with r | r
    · obtain ⟨xs, e, hxs⟩ := s.rd a r
      exact ⟨xs, (upd_ne (ne a _ e)).trans e, hxs⟩
    · subst r; exact ⟨u, upd_same, hu⟩
def Wd.upR (W : Wd) (D : Addr) (u : HO) : Wd := { W with H := upd W.H D u }
theorem upR_rd {u : HO} (s : RS K W) (hR : W.R D) : ∀ {d : CK.D} {v : V}, RD K W d v → RD K (W.upR D u) d v
  | .p _, _, h => RP.mono (H := W.H) (L := W.L) (fun a _ e n => ⟨(upd_ne (fun z => n (by rw [z]; exact .inl hR))).trans e, n⟩) (fun a vs e => (upd_ne (fun z => s.not_tup (.inl (z ▸ hR)) e)).trans e) h
  | .ref i, _, h => h
theorem upR_s {u : HO} (hu : isLD u = true) (s : RS K W) (hR : W.R D) : RS K (W.upR D u) := by
  have ne : ∀ (i : Nat) a, W.ι[i]? = some a → a ≠ D := fun i a e z => s.dis i a e (z ▸ hR)
  refine ⟨s.len, s.nd, fun i a e => ?_, fun i o a h1 h2 => ?_, s.dis, fun a r => ?_, s.wf⟩
  · obtain ⟨y, h⟩ := s.dom i a e
    exact ⟨y, (upd_ne (ne i a e)).trans h⟩
  · have e : (W.upR D u).H a = W.H a := upd_ne (ne i a h2)
    have ro := s.obj i o a h1 h2
    cases o with
    | lst l => obtain ⟨vs, h1, h2⟩ := ro; exact ⟨vs, by rw [e]; exact h1, Paired.mono (fun _ _ => upR_rd s hR) h2⟩
    | dK l => obtain ⟨vs, h1, h2⟩ := ro; exact ⟨vs, by rw [e]; exact h1, Paired.mono (fun _ _ q => ⟨q.1, upR_rd s hR q.2⟩) h2⟩
    | dT l => obtain ⟨vs, h1, h2⟩ := ro; exact ⟨vs, by rw [e]; exact h1, Paired.mono (fun _ _ q => ⟨q.1, upR_rd s hR q.2⟩) h2⟩
    | kK l => obtain ⟨o, vs, h1, h2⟩ := ro; exact ⟨o, vs, by rw [e]; exact h1, Paired.mono (fun _ _ q => ⟨q.1, upR_rd s hR q.2⟩) h2⟩
    | kT l => obtain ⟨o, vs, h1, h2⟩ := ro; exact ⟨o, vs, by rw [e]; exact h1, Paired.mono (fun _ _ q => ⟨q.1, upR_rd s hR q.2⟩) h2⟩
    | tpl l => obtain ⟨vs, h1, h2⟩ := ro; exact ⟨vs, by rw [e]; exact h1, Paired.mono (fun _ _ => upR_rd s hR) h2⟩
    | dN w l => obtain ⟨vs, h1, h2⟩ := ro; exact ⟨vs, by rw [e]; exact h1, RN.mono (fun _ _ => upR_rd s hR) h2⟩
    | dead => exact True.intro
  · by_cases h : a = D
    · subst h; exact ⟨u, upd_same, hu⟩
    · obtain ⟨xs, e, hxs⟩ := s.rd a r
      exact ⟨xs, (upd_ne h).trans e, hxs⟩
theorem upR_ext {u : HO} (s0 : RS K W0) (h0 : W0.H D = none) (s : RS K W) (hR : W.R D) (x : Ext W0 W) : Ext W0 (W.upR D u) := by
  have ne : ∀ a u, W0.H a = some u → a ≠ D := fun a u e z => by subst z; rw [h0] at e; cases e
  refine ⟨x.pre, x.R, fun a u h n => ⟨(upd_ne (ne a u h)).trans (x.keep a u h n).1, (x.keep a u h n).2⟩, fun a r => ?_, fun a vs h => (upd_ne (ne a _ h)).trans (x.tups a vs h), fun a o u h => (upd_ne (ne a _ h)).trans (x.frz a o u h)⟩
  obtain ⟨xs, e, hxs⟩ := s0.rd a r
  exact (upd_ne (ne a _ e)).trans (x.rs a r)
/-- what was held apart is let go -/
def Wd.free (W : Wd) (R : Addr → Prop) : Wd := { W with R := R }
theorem free_L {R : Addr → Prop} (h : ∀ a, R a → W.R a) {a : Addr} (l : (W.free R).L a) : W.L a := by
  rcases l with r | r
  · exact .inl (h a r)
  · exact .inr r
theorem free_rd {R : Addr → Prop} (h : ∀ a, R a → W.R a) : ∀ {d : CK.D} {v : V}, RD K W d v → RD K (W.free R) d v
  | .p _, _, q => RP.mono (H := W.H) (L := W.L) (fun a u e n => ⟨e, fun l => n (free_L h l)⟩) (fun a vs e => e) q
  | .ref i, _, q => q
theorem free_s {R : Addr → Prop} (h : ∀ a, R a → W.R a) (s : RS K W) : RS K (W.free R) := by
  refine ⟨s.len, s.nd, s.dom, fun i o a h1 h2 => ?_, fun i a e r => s.dis i a e (h a r), fun a r => s.rd a (h a r), s.wf⟩
  have ro := s.obj i o a h1 h2
  cases o with
  | lst l => obtain ⟨vs, h1, h2⟩ := ro; exact ⟨vs, h1, Paired.mono (fun _ _ => free_rd h) h2⟩
  | dK l => obtain ⟨vs, h1, h2⟩ := ro; exact ⟨vs, h1, Paired.mono (fun _ _ q => ⟨q.1, free_rd h q.2⟩) h2⟩
  | dT l => obtain ⟨vs, h1, h2⟩ := ro; exact ⟨vs, h1, Paired.mono (fun _ _ q => ⟨q.1, free_rd h q.2⟩) h2⟩
  | kK l => obtain ⟨o, vs, h1, h2⟩ := ro; exact ⟨o, vs, h1, Paired.mono (fun _ _ q => ⟨q.1, free_rd h q.2⟩) h2⟩
  | kT l => obtain ⟨o, vs, h1, h2⟩ := ro; exact ⟨o, vs, h1, Paired.mono (fun _ _ q => ⟨q.1, free_rd h q.2⟩) h2⟩
  | tpl l => obtain ⟨vs, h1, h2⟩ := ro; exact ⟨vs, h1, Paired.mono (fun _ _ => free_rd h) h2⟩
  | dN w l => obtain ⟨vs, h1, h2⟩ := ro; exact ⟨vs, h1, RN.mono (fun _ _ => free_rd h) h2⟩
  | dead => exact True.intro
theorem free_ext (h : ∀ a, W0.R a → W.R a) (x : Ext W0 W) : Ext W0 (W.free W0.R) :=
  ⟨x.pre, fun _ h => h, fun a u e n => ⟨(x.keep a u e n).1, fun l => (x.keep a u e n).2 (free_L h l)⟩, x.rs, x.tups, x.frz⟩

/-- .. the list is a value then -/
theorem held_free (s0 : RS K W0) (hD : W0.H D = none) (x1 : Ext W0 W) (s1 : RS K W) (hR : W.R D) : ¬ (W.free W0.R).L D := fun l => by
  rcases l with r | ⟨i, o, e, _⟩
  · obtain ⟨xs, e, hxs⟩ := s0.rd D r
    rw [hD] at e; cases e
  · exact s1.dis i D e hR
/-- .. or joins the own heap -/
def Wd.join (W : Wd) (R : Addr → Prop) (D : Addr) (l : DO) : Wd := { W with R := R, ι := W.ι ++ [D], S := W.S ++ [l] }
theorem join_L {R : Addr → Prop} {l : DO} (s : RS K W) (h : ∀ a, R a → W.R a) (hR : W.R D) {a : Addr} (q : (W.join R D l).L a) : W.L a := by
  rcases q with r | ⟨i, o, e1, e2, nd⟩
  · exact .inl (h a r)
  · rcases get_snoc e1 with e1 | ⟨_, e1⟩
    · rcases get_snoc e2 with e2 | ⟨q, _⟩
      · exact .inr ⟨i, o, e1, e2, nd⟩
      · have := get_lt e1; have := s.len; omega
    · subst e1; exact .inl hR
theorem join_rd {R : Addr → Prop} {l : DO} (s : RS K W) (h : ∀ a, R a → W.R a) (hR : W.R D) : ∀ {d : CK.D} {v : V}, RD K W d v → RD K (W.join R D l) d v
  | .p _, _, q => RP.mono (H := W.H) (L := W.L) (fun a u e n => ⟨e, fun l => n (join_L s h hR l)⟩) (fun a vs e => e) q
  | .ref i, _, ⟨a, e, r⟩ => ⟨a, pre_get (List.prefix_append _ _) e, r⟩
theorem join_ext {l : DO} (s0 : RS K W0) (hD : W0.H D = none) (x : Ext W0 W) (s : RS K W) (hR : W.R D) : Ext W0 (W.join W0.R D l) :=
  ⟨x.pre.trans (List.prefix_append _ _), fun _ h => h, fun a u e n => ⟨(x.keep a u e n).1, fun l => (x.keep a u e n).2 (join_L s x.R hR l)⟩, x.rs, x.tups, x.frz⟩
theorem join_s {l : DO} {u : HO} (s0 : RS K W0) (hD : W0.H D = none) (x : Ext W0 W) (s : RS K W) (hR : W.R D) (e : W.H D = some u) (r : RO K (W.join W0.R D l) D l) (hb : l.below W.S.length = true) : RS K (W.join W0.R D l) := by
  have tr : ∀ {d : CK.D} {v : V}, RD K W d v → RD K (W.join W0.R D l) d v := join_rd s x.R hR
  refine ⟨?_, fun i j a h1 h2 => ?_, fun i a h => ?_, fun i o a h1 h2 => ?_, fun i a h q => ?_, fun a q => s.rd a (x.R a q), fun i o h => ?_⟩
  · show (W.ι ++ [D]).length = (W.S ++ [l]).length
    rw [List.length_append, List.length_append, s.len]; rfl
  · rcases get_snoc h1 with e1 | ⟨q1, e1⟩ <;> rcases get_snoc h2 with e2 | ⟨q2, e2⟩
    · exact s.nd i j a e1 e2
    · subst e2; exact absurd hR (s.dis i _ e1)
    · subst e1; exact absurd hR (s.dis j _ e2)
    · rw [q1, q2]
  · rcases get_snoc h with h | ⟨_, h⟩
    · exact s.dom i a h
    · subst h; exact ⟨_, e⟩
  · rcases get_snoc h2 with e2 | ⟨q2, e2⟩
    · rcases get_snoc h1 with e1 | ⟨q1, e1⟩
      · have ro := s.obj i o a e1 e2
        cases o with
        | lst l => obtain ⟨vs, h1, h2⟩ := ro; exact ⟨vs, h1, Paired.mono (fun _ _ => tr) h2⟩
        | dK l => obtain ⟨vs, h1, h2⟩ := ro; exact ⟨vs, h1, Paired.mono (fun _ _ q => ⟨q.1, tr q.2⟩) h2⟩
        | dT l => obtain ⟨vs, h1, h2⟩ := ro; exact ⟨vs, h1, Paired.mono (fun _ _ q => ⟨q.1, tr q.2⟩) h2⟩
        | kK l => obtain ⟨o, vs, h1, h2⟩ := ro; exact ⟨o, vs, h1, Paired.mono (fun _ _ q => ⟨q.1, tr q.2⟩) h2⟩
        | kT l => obtain ⟨o, vs, h1, h2⟩ := ro; exact ⟨o, vs, h1, Paired.mono (fun _ _ q => ⟨q.1, tr q.2⟩) h2⟩
        | tpl l => obtain ⟨vs, h1, h2⟩ := ro; exact ⟨vs, h1, Paired.mono (fun _ _ => tr) h2⟩
        | dN w l => obtain ⟨vs, h1, h2⟩ := ro; exact ⟨vs, h1, RN.mono (fun _ _ => tr) h2⟩
        | dead => exact True.intro
      · have := get_lt e2; have := s.len; omega
    · rcases get_snoc h1 with e1 | ⟨q1, e1⟩
      · have := get_lt e1; have := s.len; omega
      · subst e1; subst e2; exact r
  · rcases get_snoc h with h | ⟨_, h⟩
    · exact s.dis i a h (x.R a q)
    · subst h
      obtain ⟨xs, e2, hxs⟩ := s0.rd _ q
      rw [hD] at e2; cases e2
  · show o.below (W.S ++ [l]).length = true
    have hle : W.S.length ≤ (W.S ++ [l]).length := by rw [List.length_append]; omega
    rcases get_snoc h with h | ⟨q, h⟩
    · exact DO.mono hle (s.wf i o h)
    · subst h; exact DO.mono hle hb

theorem comp_core {fi : FI} {tg : TG} {g : FG} {ft : FT} {fe : FE} {vs : List Nat} {ds : DS} {σ : L2.St} {H : Hp} {Q : VK} {its : List CK.D} {chk : DH → Prop} {S1 S2 : DH} {l : List CK.D} (hg : CompG K vs tg g)
    (eH : W.H = H) (s : RS K W) (re : RE K W ds σ) (e1 : fi ds W.S = some (its, chk, S1)) (e2 : compL chk g ft fe (wipeD ds vs) 0 its S1 = some (l, S2))
    (q : ∀ (W0 W1 : Wd) (D : Addr) (us : List V), Ext W W0 → RS K W0 → W0.H D = none → Ext W0 W1 → RS K W1 → W1.R D → W1.S = S2 → W1.H D = some (.lst us) → RDs K W1 l us → Q (.ref D) W1.H) : tLc (tI K fi) tg (tT K ft) (tD K fe) vs σ H Q := by
  refine ⟨W, ds, its, chk, S1, eH, s, re, e1, fun W0 J t0 wk D hD => ?_⟩
  obtain ⟨xh, sh⟩ := hold_start (u := .lst []) rfl t0.s hD
  have re0 : RE K W0 (wipeD ds vs) (wipe σ vs) := (re.wipe vs).ext t0.x
  refine ⟨fun i m H => m = its.length - i ∧ i ≤ its.length ∧ ∃ (W1 : Wd) (acc : List CK.D) (us : List V) (l' : List CK.D), W1.H = H ∧ RS K W1 ∧ W1.R D ∧ Ext W0 W1 ∧ W1.H D = some (.lst us) ∧ RDs K W1 acc us ∧ compL chk g ft fe (wipeD ds vs) acc.length (its.drop i) W1.S = some (l', S2) ∧ acc ++ l' = l,
    ⟨its.length, rfl, Nat.zero_le _, W0.hold D (.lst []), [], [], l, rfl, sh, .inr rfl, xh, upd_same, .nil, by rw [List.drop_zero]; show compL chk g ft fe (wipeD ds vs) 0 its W0.S = _; rw [t0.e]; exact e2, rfl⟩, ?_⟩
  rintro i m H ⟨rfl, hi, W1, acc, us, l', rfl, s1, hR, x1, hDl, ra, ec, el⟩
  by_cases hlt : i < its.length
  · have hd : its.drop i = its[i] :: its.drop (i + 1) := List.drop_eq_getElem_cons hlt
    rw [hd] at ec
    unfold compL at ec
    split at ec
    · rename_i hk
      obtain ⟨g1, y1⟩ := wk.go W1 i its[i] x1 s1 hk (by simp [hlt])
      refine .inr ⟨g1, fun H' => i + 1 ≤ its.length ∧ ∃ (W1 : Wd) (acc : List CK.D) (us : List V) (l' : List CK.D), W1.H = H' ∧ RS K W1 ∧ W1.R D ∧ Ext W0 W1 ∧ W1.H D = some (.lst us) ∧ RDs K W1 acc us ∧ compL chk g ft fe (wipeD ds vs) acc.length (its.drop (i + 1)) W1.S = some (l', S2) ∧ acc ++ l' = l,
        fun H' ⟨h1, h2⟩ => ⟨its.length - (i + 1), by omega, rfl, h1, h2⟩, fun x H' hy => ?_⟩
      obtain ⟨W2, rfl, t2, rd2⟩ := y1 x H' hy
      have x2 := x1.trans t2.x
      have hR2 := t2.x.R D hR
      have hD2 : W2.H D = some (.lst us) := (t2.x.rs D hR).trans hDl
      split at ec
      · cases ec
      rename_i ds1 S3 e3
      refine hg W2 its[i] x _ ds1 σ S3 _ t2.s (re0.ext x2) rd2 (by rw [t2.e]; exact e3) fun σ2 hw re2 hS => ⟨hw, ?_⟩
      have hS3 : S3 = W2.S := hS
      split at ec
      · cases ec
      · rename_i S4 e4
        refine ⟨W2, ds1, false, S4, rfl, t2.s, re2, by rw [← hS3]; exact e4, fun W3 t3 => ?_⟩
        (try dsimp only); rw [if_neg Bool.false_ne_true]
        exact ⟨hlt, W3, acc, us, l', rfl, t3.s, t3.x.R D hR2, x2.trans t3.x, (t3.x.rs D hR2).trans hD2, RDs.ext (t2.x.trans t3.x) ra, by rw [t3.e]; exact ec, el⟩
      · rename_i S4 e4
        refine ⟨W2, ds1, true, S4, rfl, t2.s, re2, by rw [← hS3]; exact e4, fun W3 t3 => ?_⟩
        (try dsimp only); rw [if_pos rfl]
        split at ec
        · cases ec
        rename_i y S5 e5
        refine ⟨W3, ds1, y, S5, rfl, t3.s, re2.ext t3.x, by rw [t3.e]; exact e5, fun W4 v t4 r4 => ?_⟩
        have hR4 := t4.x.R D (t3.x.R D hR2)
        have hD4 : W4.H D = some (.lst us) := (t4.x.rs D (t3.x.R D hR2)).trans ((t3.x.rs D hR2).trans hD2)
        split at ec
        · rename_i hn
          split at ec
          · cases ec
          rename_i l2 S6 e6
          cases ec
          have ra4 := RDs.ext (t2.x.trans (t3.x.trans t4.x)) ra
          refine ⟨us, hD4, by rw [← rds_length ra4]; exact hn, hlt, W4.upR D (.lst (us ++ [v])), acc ++ [y], us ++ [v], l2, rfl, upR_s rfl t4.s hR4, hR4, upR_ext t0.s hD t4.s hR4 (x2.trans (t3.x.trans t4.x)), upd_same, ?_, ?_, ?_⟩
          · exact Paired.mono (fun _ _ => upR_rd t4.s hR4) (Paired.app ra4 (.cons r4 .nil))
          · show compL chk g ft fe (wipeD ds vs) (acc ++ [y]).length (its.drop (i + 1)) W4.S = _
            rw [t4.e, List.length_append]
            exact e6
          · rw [List.append_assoc]; exact el
        · cases ec
    · cases ec
  · have hi' : i = its.length := by omega
    subst hi'
    rw [List.drop_length] at ec
    unfold compL at ec
    split at ec
    · rename_i hk
      cases ec
      rw [List.append_nil] at el
      subst el
      exact .inl ⟨wk.stop W1 x1 s1 hk, q W0 W1 D us t0.x t0.s hD x1 s1 hR rfl hDl ra⟩
    · cases ec
end

/-- [elt for target in iter if test], of pure things -/
noncomputable def fComp (fi : FI) (g : FG) (ft : FT) (fe : FE) (vs : List Nat) : FE := fun ds S => match fi ds S with
  | none => none
  | some (its, chk, S1) => match compL chk g ft fe (wipeD ds vs) 0 its S1 with
    | none => none
    | some (l, S2) => (allP l).map fun ps => (.p (.lst ps), S2)
/-- .. that may be changed -/
noncomputable def fCompH (fi : FI) (g : FG) (ft : FT) (fe : FE) (vs : List Nat) : FE := fun ds S => match fi ds S with
  | none => none
  | some (its, chk, S1) => match compL chk g ft fe (wipeD ds vs) 0 its S1 with
    | none => none
    | some (l, S2) => some (.ref S2.length, S2 ++ [.lst l])
section
variable {K : PySem.W.Frag}
theorem tD_comp {fi : FI} {tg : TG} {g : FG} {ft : FT} {fe : FE} {vs : List Nat} {σ : L2.St} {H : Hp} {Q : VK} (hg : CompG K vs tg g) (h : tD K (fComp fi g ft fe vs) σ H Q) : tLc (tI K fi) tg (tT K ft) (tD K fe) vs σ H Q := by
  obtain ⟨W, ds, d, S', eH, s, re, e, q⟩ := h
  unfold fComp at e
  split at e
  · cases e
  rename_i its chk S1 e1
  split at e
  · cases e
  rename_i l S2 e2
  cases hp : allP l with
  | none => rw [hp] at e; cases e
  | some ps =>
    rw [hp] at e; cases e
    refine comp_core hg eH s re e1 e2 fun W0 W1 D us x0 s0 hD x1 s1 hR eS hDl rd => ?_
    exact q (W1.free W0.R) _ ⟨x0.trans (free_ext x1.R x1), free_s x1.R s1, eS⟩ (RP.lst hDl (held_free s0 hD x1 s1 hR) (allP_rel hp (Paired.mono (fun _ _ => free_rd x1.R) rd)))
theorem tD_compH {fi : FI} {tg : TG} {g : FG} {ft : FT} {fe : FE} {vs : List Nat} {σ : L2.St} {H : Hp} {Q : VK} (hg : CompG K vs tg g) (h : tD K (fCompH fi g ft fe vs) σ H Q) : tLc (tI K fi) tg (tT K ft) (tD K fe) vs σ H Q := by
  obtain ⟨W, ds, d, S', eH, s, re, e, q⟩ := h
  unfold fCompH at e
  split at e
  · cases e
  rename_i its chk S1 e1
  split at e
  · cases e
  rename_i l S2 e2
  cases e
  refine comp_core hg eH s re e1 e2 fun W0 W1 D us x0 s0 hD x1 s1 hR eS hDl rd => ?_
  refine q (W1.join W0.R D (.lst l)) _ ⟨x0.trans (join_ext s0 hD x1 s1 hR), join_s s0 hD x1 s1 hR hDl ⟨us, hDl, Paired.mono (fun _ _ => join_rd s1 x1.R hR) rd⟩ (RDs.below s1 rd), by rw [← eS]; rfl⟩ ⟨D, ?_, rfl⟩
  show (W1.ι ++ [D])[S2.length]? = some D
  rw [← eS, ← s1.len]; simp
end

section
variable {X : Cx}
theorem de_comp {elt tg iter : Expr} {ifs : List Expr} {scope : Scope} {own : List (Str × Nat)} {pos : Pos} {fi : FI} {t : TG} {g : FG} {ft : FT} {fe : FE} (cg : CompG X.K (own.map (·.2)) t g) (hc : X.calm = true) (hN : X.N.Nodup) (hi : DI X tg iter fi) (ok : BlkOk X.N X.env.scope scope own)
    (hg : ∀ (s : Shared) (H : Hp) (C : Addr) (cl : List (Str × Addr)) (fp : List Addr), PG (X.blk s H scope (compEnvC scope cl C X.env) fp) tg t) (ht : ∀ (s : Shared) (H : Hp) (C : Addr) (cl : List (Str × Addr)) (fp : List Addr), PTs (X.blk s H scope (compEnvC scope cl C X.env) fp) ifs (tT X.K ft))
    (he : ∀ (s : Shared) (H : Hp) (C : Addr) (cl : List (Str × Addr)) (fp : List Addr), DE (X.blk s H scope (compEnvC scope cl C X.env) fp) elt fe) (hs : ∀ x, foldedSetIterable iter X.env x = pure x := by intro _; rfl) :
    DE X (.ListComp elt [⟨tg, iter, ifs, 0⟩] scope pos) (fComp fi g ft fe (own.map (·.2))) := PE.imp (pe_lc hc hN hi ok hg ht he hs) fun _ _ _ h => tD_comp cg h
theorem de_compH {elt tg iter : Expr} {ifs : List Expr} {scope : Scope} {own : List (Str × Nat)} {pos : Pos} {fi : FI} {t : TG} {g : FG} {ft : FT} {fe : FE} (cg : CompG X.K (own.map (·.2)) t g) (hc : X.calm = true) (hN : X.N.Nodup) (hi : DI X tg iter fi) (ok : BlkOk X.N X.env.scope scope own)
    (hg : ∀ (s : Shared) (H : Hp) (C : Addr) (cl : List (Str × Addr)) (fp : List Addr), PG (X.blk s H scope (compEnvC scope cl C X.env) fp) tg t) (ht : ∀ (s : Shared) (H : Hp) (C : Addr) (cl : List (Str × Addr)) (fp : List Addr), PTs (X.blk s H scope (compEnvC scope cl C X.env) fp) ifs (tT X.K ft))
    (he : ∀ (s : Shared) (H : Hp) (C : Addr) (cl : List (Str × Addr)) (fp : List Addr), DE (X.blk s H scope (compEnvC scope cl C X.env) fp) elt fe) (hs : ∀ x, foldedSetIterable iter X.env x = pure x := by intro _; rfl) :
    DE X (.ListComp elt [⟨tg, iter, ifs, 0⟩] scope pos) (fCompH fi g ft fe (own.map (·.2))) := PE.imp (pe_lc hc hN hi ok hg ht he hs) fun _ _ _ h => tD_compH cg h
theorem tS_comp {tl : TE} {f : FE} {K : PySem.W.Frag} {i : Nat} {E : Ends} {σ : L2.St} {H : Hp} (ht : ∀ Q, tD K f σ H Q → tl σ H Q) (h : tS K (sAsg f (gN i)) E σ H) : tAsg tl (gName i) E σ H := by
  obtain ⟨W, ds, r, S', eH, s, re, e, q⟩ := h
  unfold sAsg at e
  split at e
  · cases e
  · rename_i d S1 e1
    cases e
    exact ht _ ⟨W, ds, d, _, eH, s, re, e1, fun W1 v t1 r1 => q W1 t1 _ ((re.ext t1.x).set r1)⟩
/-- name = [..] on one line, the name a local -/
theorem dc_setComp {i : Nat} {y : Str} {py : Pos} {elt tg iter : Expr} {ifs : List Expr} {scope : Scope} {own : List (Str × Nat)} {pos spos : Pos} {fi : FI} {t : TG} {g : FG} {ft : FT} {fe : FE} (cg : CompG X.K (own.map (·.2)) t g) (hc : X.calm = true) (hN : X.N.Nodup) (hy : X.N[i]? = some y) (hyl : X.env.scope.names.lookup y = some .local)
    (hsw : swapsWith (.ListComp elt [⟨tg, iter, ifs, 0⟩] scope pos) (some (.Name y py)) spos.line X.env = pure true) (hi : DI X tg iter fi) (ok : BlkOk X.N X.env.scope scope own)
    (hg : ∀ (s : Shared) (H : Hp) (C : Addr) (cl : List (Str × Addr)) (fp : List Addr), PG (X.blk s H scope (compEnvC scope cl C X.env) fp) tg t) (ht : ∀ (s : Shared) (H : Hp) (C : Addr) (cl : List (Str × Addr)) (fp : List Addr), PTs (X.blk s H scope (compEnvC scope cl C X.env) fp) ifs (tT X.K ft))
    (he : ∀ (s : Shared) (H : Hp) (C : Addr) (cl : List (Str × Addr)) (fp : List Addr), DE (X.blk s H scope (compEnvC scope cl C X.env) fp) elt fe) (hs : ∀ x, foldedSetIterable iter X.env x = pure x := by intro _; rfl) :
    DC X (.Assign [.Name y py] (.ListComp elt [⟨tg, iter, ifs, 0⟩] scope pos) spos) (sAsg (fComp fi g ft fe (own.map (·.2))) (gN i)) := PS.imp (ps_setLc hc hN hy hyl hsw hi ok hg ht he hs) fun _ _ _ h => tS_comp (fun _ h => tD_comp cg h) h
theorem dc_setCompH {i : Nat} {y : Str} {py : Pos} {elt tg iter : Expr} {ifs : List Expr} {scope : Scope} {own : List (Str × Nat)} {pos spos : Pos} {fi : FI} {t : TG} {g : FG} {ft : FT} {fe : FE} (cg : CompG X.K (own.map (·.2)) t g) (hc : X.calm = true) (hN : X.N.Nodup) (hy : X.N[i]? = some y) (hyl : X.env.scope.names.lookup y = some .local)
    (hsw : swapsWith (.ListComp elt [⟨tg, iter, ifs, 0⟩] scope pos) (some (.Name y py)) spos.line X.env = pure true) (hi : DI X tg iter fi) (ok : BlkOk X.N X.env.scope scope own)
    (hg : ∀ (s : Shared) (H : Hp) (C : Addr) (cl : List (Str × Addr)) (fp : List Addr), PG (X.blk s H scope (compEnvC scope cl C X.env) fp) tg t) (ht : ∀ (s : Shared) (H : Hp) (C : Addr) (cl : List (Str × Addr)) (fp : List Addr), PTs (X.blk s H scope (compEnvC scope cl C X.env) fp) ifs (tT X.K ft))
    (he : ∀ (s : Shared) (H : Hp) (C : Addr) (cl : List (Str × Addr)) (fp : List Addr), DE (X.blk s H scope (compEnvC scope cl C X.env) fp) elt fe) (hs : ∀ x, foldedSetIterable iter X.env x = pure x := by intro _; rfl) :
    DC X (.Assign [.Name y py] (.ListComp elt [⟨tg, iter, ifs, 0⟩] scope pos) spos) (sAsg (fCompH fi g ft fe (own.map (·.2))) (gN i)) := PS.imp (ps_setLc hc hN hy hyl hsw hi ok hg ht he hs) fun _ _ _ h => tS_comp (fun _ h => tD_compH cg h) h
theorem dts_nil : PTs X [] (tT X.K fYes) := ⟨fun pins s σ H Q I h => by
  obtain ⟨W, ds, b, S', eH, rs, re, e, q⟩ := h
  subst eH
  cases e
  exact pts_nil.run pins s σ W.H Q I (q W (To.refl rs))⟩
theorem dts_one {c : Expr} {ft : FT} (h : DT X c ft) : PTs X [c] (tT X.K ft) := pts_one h
end
end CK
/-! CkG: a def by its body; what a def leaves behind. -/
namespace CK
open PySem PySem.Spec PyProof.Rows L2

def mapO {α β : Type} (h : α → Option β) : List α → Option (List β)
  | [] => some []
  | d :: r => match h d with
    | none => none
    | some x => match mapO h r with
      | none => none
      | some l => some (x :: l)
/-- what a def of its own has made, handed out as a value -/
def freeze (n0 : Nat) (S : DH) : Nat → D → Option P
  | _, .p x => some x
  | 0, .ref _ => none
  | f + 1, .ref i => if i < n0 then none else match S[i]? with
    | some (.lst l) => (mapO (freeze n0 S f) l).map .lst
    | _ => none
/-- of what stood there each is as it was, or knows of nothing newer -/
def Safe (S0 S : DH) : Prop := ∀ (i : Nat) (o : DO), i < S0.length → S[i]? = some o → S0[i]? = some o ∨ o.below S0.length = true
open Classical in
noncomputable def leave (keep : Bool) (S0 : DH) (d : D) (S : DH) : Option (D × DH) :=
  if keep = true then some (d, S) else if Safe S0 S then (match d with
    | .p x => some (.p x, S.take S0.length)
    | .ref i => if i < S0.length then some (.ref i, S.take S0.length) else (freeze S0.length S 4 (.ref i)).map fun x => (.p x, S.take S0.length)) else none
def Wd.cut (W : Wd) (n : Nat) : Wd := { W with ι := W.ι.take n, S := W.S.take n }
section
variable {K : PySem.W.Frag} {W W' : Wd} {n : Nat}
theorem cut_L {a : Addr} (l : (W.cut n).L a) : W.L a := by
  rcases l with r | ⟨i, o, e1, e2, nd⟩
  · exact .inl r
  · refine .inr ⟨i, o, ?_, ?_, nd⟩
    · have e1 : (W.ι.take n)[i]? = some a := e1
      rw [List.getElem?_take] at e1
      split at e1
      · exact e1
      · cases e1
    · have e2 : (W.S.take n)[i]? = some o := e2
      rw [List.getElem?_take] at e2
      split at e2
      · exact e2
      · cases e2
theorem cut_rd : ∀ {d : D} {v : V}, d.below n = true → RD K W d v → RD K (W.cut n) d v
  | .p _, _, _, q => RP.mono (H := W.H) (L := W.L) (fun a u e n => ⟨e, fun l => n (cut_L l)⟩) (fun a vs e => e) q
  | .ref i, _, b, ⟨a, e, r⟩ => by
    refine ⟨a, ?_, r⟩
    show (W.ι.take n)[i]? = some a
    rw [List.getElem?_take, if_pos (of_decide_eq_true b)]
    exact e
theorem below_mono {m : Nat} (h : m ≤ n) : ∀ {d : D}, d.below m = true → d.below n = true := D.mono h
theorem cut_rds {l : List D} {vs : List V} {m : Nat} (h : m ≤ n) (b : l.all (D.below m) = true) (r : RDs K W l vs) : RDs K (W.cut n) l vs := by
  induction r with
  | nil => exact .nil
  | cons a _ ih =>
    rw [List.all_cons, Bool.and_eq_true] at b
    exact .cons (cut_rd (below_mono h b.1) a) (ih b.2)
theorem cut_rdk {κ : Type} {l : List (κ × D)} {vs : List (κ × V)} {m : Nat} (h : m ≤ n) (b : (l.all fun q => q.2.below m) = true) (r : RDk K W l vs) : RDk K (W.cut n) l vs := by
  induction r with
  | nil => exact .nil
  | cons a _ ih =>
    rw [List.all_cons, Bool.and_eq_true] at b
    exact .cons ⟨a.1, cut_rd (below_mono h b.1) a.2⟩ (ih b.2)
theorem cut_rn {l : List (NestedKey × D)} {vs : List NE} {m : Nat} (h : m ≤ n) (b : (l.all fun q => q.2.below m) = true) (r : RN K W l vs) : RN K (W.cut n) l vs := by
  induction r with
  | nil => exact .nil
  | cons a _ ih =>
    rw [List.all_cons, Bool.and_eq_true] at b
    obtain ⟨a1, ⟨a2, x, a3, a4⟩, a5⟩ := a
    exact .cons ⟨a1, ⟨a2, x, a3, cut_rd rfl a4⟩, cut_rd (below_mono h b.1) a5⟩ (ih b.2)
theorem cut_s (s : RS K W) (hn : n ≤ W.S.length) (hs : ∀ (i : Nat) (o : DO), i < n → W.S[i]? = some o → o.below n = true) : RS K (W.cut n) := by
  have gι : ∀ (i : Nat) a, (W.ι.take n)[i]? = some a → W.ι[i]? = some a ∧ i < n := fun i a e => by
    rw [List.getElem?_take] at e
    split at e
    · rename_i h; exact ⟨e, h⟩
    · cases e
  have gS : ∀ (i : Nat) a, (W.S.take n)[i]? = some a → W.S[i]? = some a ∧ i < n := fun i a e => by
    rw [List.getElem?_take] at e
    split at e
    · rename_i h; exact ⟨e, h⟩
    · cases e
  refine ⟨?_, fun i j a h1 h2 => s.nd i j a (gι i a h1).1 (gι j a h2).1, fun i a e => s.dom i a (gι i a e).1, fun i o a h1 h2 => ?_, fun i a e => s.dis i a (gι i a e).1, s.rd, fun i o h => by
    show o.below (W.S.take n).length = true
    rw [List.length_take, Nat.min_eq_left hn]
    exact hs i o (gS i o h).2 (gS i o h).1⟩
  · show (W.ι.take n).length = (W.S.take n).length
    rw [List.length_take, List.length_take, s.len]
  · obtain ⟨e1, hi⟩ := gS i o h1
    have e2 := (gι i a h2).1
    have ro := s.obj i o a e1 e2
    have wf := hs i o hi e1
    have hi' : n ≤ n := Nat.le_refl n
    cases o with
    | lst l => obtain ⟨vs, q1, q2⟩ := ro; exact ⟨vs, q1, cut_rds hi' wf q2⟩
    | dK l => obtain ⟨vs, q1, q2⟩ := ro; exact ⟨vs, q1, cut_rdk hi' wf q2⟩
    | dT l => obtain ⟨vs, q1, q2⟩ := ro; exact ⟨vs, q1, cut_rdk hi' wf q2⟩
    | kK l => obtain ⟨o, vs, q1, q2⟩ := ro; exact ⟨o, vs, q1, cut_rdk hi' wf q2⟩
    | kT l => obtain ⟨o, vs, q1, q2⟩ := ro; exact ⟨o, vs, q1, cut_rdk hi' wf q2⟩
    | tpl l => obtain ⟨vs, q1, q2⟩ := ro; exact ⟨vs, q1, cut_rds hi' wf q2⟩
    | dN w l => obtain ⟨vs, q1, q2⟩ := ro; exact ⟨vs, q1, cut_rn hi' wf q2⟩
    | dead => exact True.intro
theorem cut_ext (x : Ext W W') (s : RS K W) : Ext W (W'.cut W.S.length) := by
  refine ⟨?_, x.R, fun a u e n => ⟨(x.keep a u e n).1, fun l => (x.keep a u e n).2 (cut_L l)⟩, x.rs, x.tups, x.frz⟩
  obtain ⟨t, e⟩ := x.pre
  show W.ι <+: W'.ι.take W.S.length
  rw [← e, ← s.len, List.take_left]
  exact List.prefix_refl _
theorem mapO_rel {κ : Type} {h : D → Option P} {H : Hp} {L : Addr → Prop} (hh : ∀ d v x, RD K W d v → h d = some x → RP K H L x v) : ∀ {l : List D} {vs : List V} {ps : List P}, mapO h l = some ps → RDs K W l vs → RPs K H L ps vs
  | [], _, _, e, .nil => by cases e; exact .nil
  | d :: r, _, _, e, .cons a t => by
    unfold mapO at e
    split at e
    · cases e
    · rename_i x e1
      split at e
      · cases e
      · rename_i l e2
        cases e
        exact .cons (hh _ _ _ a e1) (mapO_rel (κ := κ) hh e2 t)
theorem mapO_relk {h : D → Option P} {H : Hp} {L : Addr → Prop} (hh : ∀ d v x, RD K W d v → h d = some x → RP K H L x v) : ∀ {l : List (Key × D)} {vs : List (Key × V)} {ps : List (Key × P)}, mapO (fun (q : Key × D) => (h q.2).map fun x => (q.1, x)) l = some ps → RDk K W l vs → RPk K H L ps vs
  | [], _, _, e, .nil => by cases e; exact .nil
  | (k, d) :: r, (k', v) :: _, _, e, .cons a t => by
    unfold mapO at e
    cases e1 : h d with
    | none => rw [e1] at e; cases e
    | some x =>
      rw [e1] at e
      dsimp only [Option.map] at e
      split at e
      · cases e
      · rename_i l e2
        cases e
        obtain ⟨rfl, a⟩ := a
        exact .cons (hh _ _ _ a e1) (mapO_relk hh e2 t)
theorem mapO_relt {h : D → Option P} {H : Hp} {L : Addr → Prop} (hh : ∀ d v x, RD K W d v → h d = some x → RP K H L x v) : ∀ {l : List (List Key × D)} {vs : List (List Key × V)} {ps : List (List Key × P)}, mapO (fun (q : List Key × D) => (h q.2).map fun x => (q.1, x)) l = some ps → RDk K W l vs → RPt K H L ps vs
  | [], _, _, e, .nil => by cases e; exact .nil
  | (k, d) :: r, (k', v) :: _, _, e, .cons a t => by
    unfold mapO at e
    cases e1 : h d with
    | none => rw [e1] at e; cases e
    | some x =>
      rw [e1] at e
      dsimp only [Option.map] at e
      split at e
      · cases e
      · rename_i l e2
        cases e
        obtain ⟨rfl, a⟩ := a
        exact .cons (hh _ _ _ a e1) (mapO_relt hh e2 t)
theorem freeze_rel (s : RS K W) : ∀ (f : Nat) (d : D) (v : V) (x : P), RD K W d v → freeze n W.S f d = some x → RP K (W.cut n).H (W.cut n).L x v
  | _, .p _, _, _, r, e => by
    have e' : _ = _ := e
    unfold freeze at e'
    cases e'
    exact RP.mono (H := W.H) (L := W.L) (fun a u e n => ⟨e, fun l => n (cut_L l)⟩) (fun a vs e => e) r
  | 0, .ref _, _, _, _, e => by unfold freeze at e; cases e
  | f + 1, .ref i, v, x, ⟨a, ea, ev⟩, e => by
    unfold freeze at e
    split at e
    · cases e
    rename_i hi
    have nl : ¬ (W.cut n).L a := fun l => by
      rcases l with r | ⟨j, o, e1, _, _⟩
      · exact s.dis i a ea r
      · have e1 : (W.ι.take n)[j]? = some a := e1
        rw [List.getElem?_take] at e1
        split at e1
        · rename_i hj
          exact hi (s.nd j i a e1 ea ▸ hj)
        · cases e1
    subst ev
    split at e
    · rename_i l el
      obtain ⟨vs, q1, q2⟩ := s.obj i _ a el ea
      cases h : mapO (freeze n W.S f) l with
      | none => rw [h] at e; cases e
      | some ps =>
        rw [h] at e; cases e
        exact .lst q1 nl (mapO_rel (κ := Unit) (fun d v x => freeze_rel s f d v x) h q2)
    · cases e
theorem leave_ok {keep : Bool} {d d' : D} {S S' : DH} {v : V} {Q : VK} (s : RS K W) (t : To K W S W') (r : RD K W' d v) (e : leave keep W.S d S = some (d', S')) (q : ∀ W'' v, To K W S' W'' → RD K W'' d' v → Q v W''.H) : Q v W'.H := by
  unfold leave at e
  split at e
  · cases e; exact q W' v t r
  · split at e
    · rename_i hsafe
      have hn : W.S.length ≤ W'.S.length := by
        obtain ⟨tl, he⟩ := t.x.pre
        rw [← s.len, ← t.s.len, ← he, List.length_append]; omega
      have tc : To K W (W'.S.take W.S.length) (W'.cut W.S.length) := ⟨cut_ext t.x s, cut_s t.s hn fun i o hi h => by
        rw [t.e] at h
        rcases hsafe i o hi h with h | h
        · exact s.wf i o h
        · exact h, rfl⟩
      split at e
      · cases e
        rw [← t.e] at q
        exact q (W'.cut W.S.length) v tc (cut_rd rfl r)
      · rename_i i
        split at e
        · rename_i hi
          cases e
          rw [← t.e] at q
          exact q (W'.cut W.S.length) v tc (cut_rd (d := .ref i) (decide_eq_true hi) r)
        · cases h : freeze W.S.length S 4 (.ref i) with
          | none => rw [h] at e; cases e
          | some x =>
            rw [h] at e; cases e
            rw [← t.e] at q h
            exact q (W'.cut W.S.length) v tc (freeze_rel t.s 4 _ _ x r h)
    · cases e
end

/-- a def: its names' number, its body -/
noncomputable def gFn (nN : Nat) (keep : Bool) (fb : FS) : GN := fun xs S => match fb (xs.map some ++ List.replicate (nN - xs.length) none) S with
  | some (.rt d, S') => leave keep S d S'
  | some (.nx _, S') => leave keep S (.p .non) S'
  | _ => none
theorem re_start {K : PySem.W.Frag} {W : Wd} {N : List Str} {xs : List D} {vs : List V} (r : RDs K W xs vs) : RE K W (xs.map some ++ List.replicate (N.length - xs.length) none) (L2.start N vs) := by
  have hl := rds_length r
  refine ⟨by unfold L2.start; simp [hl], fun i d e => ?_⟩
  have hi : i < xs.length := by
    by_cases hi : i < xs.length
    · exact hi
    · rw [List.getElem?_append_right (by simpa using hi), List.getElem?_replicate] at e
      split at e <;> cases e
  rw [List.getElem?_append_left (by simpa using hi), List.getElem?_map] at e
  cases e1 : xs[i]? with
  | none => rw [e1] at e; cases e
  | some x =>
    rw [e1] at e; cases e
    have get : ∀ {xs : List D} {vs : List V} {i : Nat} {x : D}, RDs K W xs vs → xs[i]? = some x → ∃ v, vs[i]? = some v ∧ RD K W x v := by
      intro xs vs i x h
      induction h generalizing i with
      | nil => intro e; simp at e
      | cons a _ ih => intro e; cases i with
        | zero => simp at e; subst e; exact ⟨_, rfl, a⟩
        | succ i => obtain ⟨v, h1, h2⟩ := ih (i := i) (by simpa using e); exact ⟨v, by simpa using h1, h2⟩
    obtain ⟨v, h1, h2⟩ := get r e1
    refine ⟨v, ?_, h2⟩
    unfold L2.start
    rw [List.getElem?_append_left (by simp; rw [← hl]; exact hi), List.getElem?_map, h1]
    rfl
section
variable {P : Program} {w : World} {K : PySem.W.Frag} {mg : Str → Option Value} {base : Heap}
theorem callee_of {x qual : Str} {st : Stmt} {f : Addr} {fd : FuncData} {N ps : List Str} {k n : Nat} {keep : Bool} {fb : FS} (F : Fun K x qual st f fd) (S : FnScope N ps (defScope st)) (hn : ps.length = n) (hm : mg x = some (.ref f)) (hb : L2.Binds K fd ps [])
    (body : ∀ (cdv : Value) (A : Around) (outer : List Env) (s : Shared) (H : Hp) (E : XK), Room k (A.deeper (envOfC qual (defScope st) s.heap.objs.size f cdv)) → DCs (cxOf CX0 P w K mg base N qual (defScope st) f cdv A outer s H E).nox (defBody st) fb) :
    Callee P w K mg base (k + 1) x n (gFn N.length keep fb) := by
  refine ⟨f, fd, ps, hn, hm, F.kp, hb, F.ok S (fun vs H Q E h => by rw [hn]; exact h.1) fun cdv A outer s H vs Q E hr h => ⟨_, body cdv A outer s H E hr, ?_⟩⟩
  obtain ⟨hl, W, xs, d, S', eH, rs, rd, e, q⟩ := h
  unfold gFn at e
  split at e
  · rename_i d1 S1 e1
    exact ⟨W, _, _, _, eH, rs, re_start rd, e1, fun W' t v r => leave_ok rs t r e q⟩
  · rename_i ds1 S1 e1
    exact ⟨W, _, .nx ds1, _, eH, rs, re_start rd, e1, fun W' t σ' _ => leave_ok (d := .p .non) rs t .non e q⟩
  · cases e
end
end CK
/-! CkH: rules of values: arithmetic, comparisons, in, items, slices. -/
namespace CK
open PySem PySem.Spec PyProof.Rows L2

/-! ### reading -/
def lstD (S : DH) : D → Option (List D)
  | .p (.lst l) => some (l.map .p)
  | .p (.flst l) => some (l.map .p)
  | .ref i => match S[i]? with
    | some (.lst l) => some l
    | _ => none
  | _ => none
/-- a list that is a list of its own (not the script) -/
def lstE (S : DH) : D → Option (List D)
  | .p (.lst l) => some (l.map .p)
  | .ref i => match S[i]? with
    | some (.lst l) => some l
    | _ => none
  | _ => none
section
variable {K : PySem.W.Frag} {W : Wd}
theorem lstD_ok (s : RS K W) {d : D} {v : V} {l : List D} (r : RD K W d v) (h : lstD W.S d = some l) : ∃ a vs, v = .ref a ∧ SqL K W.H a vs ∧ RDs K W l vs := by
  unfold lstD at h
  split at h
  · cases h
    cases r with
    | lst h1 h2 h3 => exact ⟨_, _, rfl, SqL.of h1, rps_ds h3⟩
  · cases h
    cases r with
    | flst h1 h3 => exact ⟨_, _, rfl, flst_sq h1, rps_ds h3⟩
  · rename_i i
    obtain ⟨a, ea, rfl⟩ := r
    split at h
    · rename_i l' el
      cases h
      obtain ⟨vs, h1, h2⟩ := s.obj i _ a el ea
      exact ⟨a, vs, rfl, SqL.of h1, h2⟩
    · cases h
  · cases h
theorem lstE_ok (s : RS K W) {d : D} {v : V} {l : List D} (r : RD K W d v) (h : lstE W.S d = some l) : ∃ a vs, v = .ref a ∧ W.H a = some (.lst vs) ∧ RDs K W l vs := by
  unfold lstE at h
  split at h
  · cases h
    cases r with
    | lst h1 h2 h3 => exact ⟨_, _, rfl, h1, rps_ds h3⟩
  · rename_i i
    obtain ⟨a, ea, rfl⟩ := r
    split at h
    · rename_i l' el
      cases h
      obtain ⟨vs, h1, h2⟩ := s.obj i _ a el ea
      exact ⟨a, vs, rfl, h1, h2⟩
    · cases h
  · cases h
theorem rds_get {l : List D} {vs : List V} (h : RDs K W l vs) : ∀ {i : Nat} {d : D}, l[i]? = some d → ∃ v, vs[i]? = some v ∧ RD K W d v := by
  induction h with
  | nil => intro i d e; simp at e
  | cons a _ ih => intro i d e; cases i with
    | zero => simp at e; subst e; exact ⟨_, rfl, a⟩
    | succ i => obtain ⟨v, h1, h2⟩ := ih (i := i) (by simpa using e); exact ⟨v, by simpa using h1, h2⟩
theorem rps_get {ps : List P} {vs : List V} {H : Hp} {L : Addr → Prop} (h : RPs K H L ps vs) : ∀ {i : Nat} {d : P}, ps[i]? = some d → ∃ v, vs[i]? = some v ∧ RP K H L d v := by
  intro i d e
  induction i generalizing ps vs with
  | zero => cases h with
    | nil => simp at e
    | cons a t => simp at e; subst e; exact ⟨_, rfl, a⟩
  | succ i ih => cases h with
    | nil => simp at e
    | cons a t => obtain ⟨v, h1, h2⟩ := ih t (by simpa using e); exact ⟨v, by simpa using h1, h2⟩
end

/-! ### pure operations -/
def pure2 (h : P → P → Option P) : G2 := fun x y S => match x, y with
  | .p a, .p b => (h a b).map fun c => (.p c, S)
  | _, _ => none
/-- no new object -/
theorem VR2.pure {K : PySem.W.Frag} {h : P → P → Option P} {r : R2}
    (hr : ∀ (W : Wd) (a b c : P) (v w : V) (Q : VK), RP K W.H W.L a v → RP K W.H W.L b w → h a b = some c → (∀ u, RP K W.H W.L c u → Q u W.H) → r v w W.H Q) : VR2 K (pure2 h) r := by
  intro W x y v w z S' Q s r1 r2 e q
  unfold pure2 at e
  split at e
  · rename_i a b
    cases hc : h a b with
    | none => rw [hc] at e; cases e
    | some c =>
      rw [hc] at e; cases e
      exact hr W a b c v w Q r1 r2 hc fun u ru => q W u (To.refl s) ru
  · cases e
def pI (f : Int → Int → Option P) : P → P → Option P
  | .int i, .int j => f i j
  | _, _ => none
theorem vr_I0 {K : PySem.W.Frag} {f : Int → Int → Int} : VR2 K (pure2 (pI fun i j => some (.int (f i j)))) (rI0 fun i j => .int (f i j)) := by
  refine VR2.pure fun W a b c v w Q r1 r2 e q => ?_
  unfold pI at e
  split at e
  · cases r1; cases r2; cases e
    exact ⟨_, _, rfl, rfl, q _ (.int _)⟩
  · cases e
theorem vr_IB {K : PySem.W.Frag} {f : Int → Int → Bool} : VR2 K (pure2 (pI fun i j => some (.bl (f i j)))) (rI0 fun i j => .bl (f i j)) := by
  refine VR2.pure fun W a b c v w Q r1 r2 e q => ?_
  unfold pI at e
  split at e
  · cases r1; cases r2; cases e
    exact ⟨_, _, rfl, rfl, q _ (.bl _)⟩
  · cases e
theorem vr_I {K : PySem.W.Frag} {C : Int → Int → Prop} {D : Int → Int → Bool} {f : Int → Int → Int} (h : ∀ i j, D i j = true → C i j) : VR2 K (pure2 (pI fun i j => if D i j = true then some (.int (f i j)) else none)) (rI C fun i j => .int (f i j)) := by
  refine VR2.pure fun W a b c v w Q r1 r2 e q => ?_
  unfold pI at e
  split at e
  · cases r1; cases r2
    (try dsimp only at e)
    split at e
    · rename_i hd
      cases e
      exact ⟨_, _, rfl, rfl, h _ _ hd, q _ (.int _)⟩
    · cases e
  · cases e
def mulOk (i j : Int) : Bool := (decide (-(2 ^ 64) < i) && decide (i < 2 ^ 64)) || (decide (-(2 ^ 64) < j) && decide (j < 2 ^ 64))
theorem mulOk_ok (i j : Int) (h : mulOk i j = true) : CMul i j := by
  unfold mulOk at h
  rw [Bool.or_eq_true, Bool.and_eq_true, Bool.and_eq_true, decide_eq_true_eq, decide_eq_true_eq, decide_eq_true_eq, decide_eq_true_eq] at h
  exact h
def divOk (_ j : Int) : Bool := decide (0 < j) && decide (j < 2 ^ 64)
theorem divOk_ok (i j : Int) (h : divOk i j = true) : L2.CDivW i j := by
  unfold divOk at h
  rw [Bool.and_eq_true, decide_eq_true_eq, decide_eq_true_eq] at h
  exact wide_div (b := 64) h.1 (by omega) (by decide) (by decide)
def modOk (_ j : Int) : Bool := decide (0 < j)
theorem modOk_ok (i j : Int) (h : modOk i j = true) : (0 : Int) < j := of_decide_eq_true h
def powOk (i j : Int) : Bool := decide (0 ≤ j) && decide (j ≤ 1000000) && decide (i.natAbs < 2 ^ 64)
theorem powOk_ok (i j : Int) (h : powOk i j = true) : CPow i j := by
  unfold powOk at h
  rw [Bool.and_eq_true, Bool.and_eq_true, decide_eq_true_eq, decide_eq_true_eq, decide_eq_true_eq] at h
  exact ⟨h.1.1, h.1.2, h.2⟩
abbrev gAddI : G2 := pure2 (pI fun i j => some (.int (i + j)))
def pAddS : P → P → Option P
  | .str x, .str y => if x.length + y.length ≤ sizeLine then some (.str (x ++ y)) else none
  | _, _ => none
abbrev gAddS : G2 := pure2 pAddS
theorem vr_addS {K : PySem.W.Frag} : VR2 K gAddS (fun x y H Q => ∃ i j, x = .str i ∧ y = .str j ∧ i.length + j.length ≤ sizeLine ∧ Q (.str (i ++ j)) H) := by
  refine VR2.pure fun W a b c v w Q r1 r2 e q => ?_
  unfold pAddS at e
  split at e
  · cases r1; cases r2
    split at e
    · rename_i h
      cases e
      exact ⟨_, _, rfl, rfl, h, q _ (.str _)⟩
    · cases e
  · cases e
/-- t + u of tuples -/
def gAddT : G2 := fun x y S => match x, y with
  | .p (.tup ps), .p (.tup qs) => if ps.length + qs.length ≤ sizeLine then some (.p (.tup (ps ++ qs)), S) else none
  | x, y => match tupD x, tupD y with
    | some (p :: ps), some (q :: qs) => if (p :: ps).length + (q :: qs).length ≤ sizeLine then some (.p (.tup ((p :: ps) ++ (q :: qs))), S) else none
    | _, _ => none
theorem rps_app {K : PySem.W.Frag} {H : Hp} {L : Addr → Prop} : ∀ {ps qs : List P} {vs ws : List V}, RPs K H L ps vs → RPs K H L qs ws → RPs K H L (ps ++ qs) (vs ++ ws)
  | _, _, _, _, .nil, s => s
  | _, _, _, _, .cons r t, s => .cons r (rps_app t s)
theorem vr_addT {K : PySem.W.Frag} : VR2 K gAddT (rCatA K) := by
  intro W x y v w z S' Q s r1 r2 e q
  unfold gAddT at e
  split at e
  · rename_i ps qs
    split at e
    · rename_i hl
      cases e
      cases r1 with
      | tup h1 h2 =>
        cases r2 with
        | tup h3 h4 =>
          refine ⟨_, _, _, _, rfl, rfl, SqT.of h1, SqT.of h3, by rw [← rps_length h2, ← rps_length h4]; exact hl, fun e0 => ?_, fun _ e0 => ?_, fun _ _ p hp => ?_⟩
          · subst e0
            cases h2
            exact q W _ (To.refl s) (.tup h3 h4)
          · subst e0
            cases h4
            rw [List.append_nil] at q
            exact q W _ (To.refl s) (.tup h1 h2)
          · obtain ⟨t, r⟩ := new_tup s hp (rps_app h2 h4)
            exact q _ _ t r
    · cases e
  · split at e
    · rename_i p ps p2 qs e1 e2
      split at e
      · rename_i hl
        cases e
        obtain ⟨a, vs, rfl, h1, h2⟩ := tupD_ok r1 e1
        obtain ⟨b, ws, rfl, h3, h4⟩ := tupD_ok r2 e2
        refine ⟨a, b, vs, ws, rfl, rfl, h1, h3, by rw [← rps_length h2, ← rps_length h4]; exact hl, fun e0 => ?_, fun _ e0 => ?_, fun _ _ p hp => ?_⟩
        · subst e0; cases h2
        · subst e0; cases h4
        · obtain ⟨t, r⟩ := new_tup s hp (rps_app h2 h4)
          exact q _ _ t r
      · cases e
    · cases e
/-- a + b of lists -/
def gAddL : G2 := fun x y S => match lstE S x, lstE S y with
  | some l, some m => if l.length + m.length ≤ sizeLine then (allP (l ++ m)).map fun ps => (.p (.lst ps), S) else none
  | _, _ => none
theorem vr_addL {K : PySem.W.Frag} : VR2 K gAddL rCat := by
  intro W x y v w z S' Q s r1 r2 e q
  unfold gAddL at e
  split at e
  · rename_i l m e1 e2
    split at e
    · rename_i hl
      cases h : allP (l ++ m) with
      | none => rw [h] at e; cases e
      | some ps =>
        rw [h] at e; cases e
        obtain ⟨a, vs, rfl, h1, h2⟩ := lstE_ok s r1 e1
        obtain ⟨b, ws, rfl, h3, h4⟩ := lstE_ok s r2 e2
        refine ⟨a, b, vs, ws, rfl, rfl, h1, h3, by rw [← rds_length h2, ← rds_length h4]; exact hl, fun p hp => ?_⟩
        obtain ⟨t, r⟩ := new_lst s hp (allP_rel h (Paired.app h2 h4))
        exact q _ _ t r
    · cases e
  · cases e
def gAdd : G2 := alt2 gAddI (alt2 gAddS (alt2 gAddT gAddL))
def gSub : G2 := pure2 (pI fun i j => some (.int (i - j)))
def gMul : G2 := pure2 (pI fun i j => if mulOk i j = true then some (.int (i * j)) else none)
def gMod : G2 := pure2 (pI fun i j => if modOk i j = true then some (.int (i % j)) else none)
def gDiv : G2 := pure2 (pI fun i j => if divOk i j = true then some (.int (i / j)) else none)
def gPow : G2 := pure2 (pI fun i j => if powOk i j = true then some (.int (i ^ j.toNat)) else none)
section
variable {X : Cx} {a b : Expr} {fa fb : FE} {pos : Pos}
theorem de_add (ha : DE X a fa) (hb : DE X b fb) : DE X (.BinOp a .Add b pos) (fBin gAdd fa fb) :=
  de_op (OpR.or op_add (OpR.or op_add_str (OpR.or op_catA op_cat))) (VR2.alt vr_I0 (VR2.alt vr_addS (VR2.alt vr_addT vr_addL))) ha hb
theorem de_sub (ha : DE X a fa) (hb : DE X b fb) : DE X (.BinOp a .Sub b pos) (fBin gSub fa fb) := de_op op_sub vr_I0 ha hb
theorem de_mul (ha : DE X a fa) (hb : DE X b fb) : DE X (.BinOp a .Mult b pos) (fBin gMul fa fb) := de_op op_mul (vr_I mulOk_ok) ha hb
theorem de_mod (ha : DE X a fa) (hb : DE X b fb) : DE X (.BinOp a .Mod b pos) (fBin gMod fa fb) := de_op op_mod (vr_I modOk_ok) ha hb
theorem de_div (ha : DE X a fa) (hb : DE X b fb) : DE X (.BinOp a .FloorDiv b pos) (fBin gDiv fa fb) := de_op L2.op_fdivW (vr_I divOk_ok) ha hb
theorem de_pow (ha : DE X a fa) (hb : DE X b fb) : DE X (.BinOp a .Pow b pos) (fBin gPow fa fb) := de_op op_pow (vr_I powOk_ok) ha hb
end
/-! ### -n -/
def fNeg (fa : FE) : FE := fun ds S => match fa ds S with
  | some (.p (.int i), S1) => some (.p (.int (-i)), S1)
  | _ => none
theorem de_neg {X : Cx} {a : Expr} {fa : FE} {pos : Pos} (ha : DE X a fa) : DE X (.UnaryOp .USub a pos) (fNeg fa) := PE.imp (pe_un un_neg ha) fun σ H Q ⟨W, ds, d, S', eH, s, re, e, q⟩ => by
  unfold fNeg at e
  split at e
  · rename_i i S1 e1
    cases e
    refine ⟨W, ds, _, _, eH, s, re, e1, fun W1 v t1 r1 => ?_⟩
    cases r1
    exact ⟨i, rfl, q W1 _ t1 (.int _)⟩
  · cases e

/-! ### order -/
def gLt : G2 := alt2 (pure2 (pI fun i j => some (.bl (decide (i < j))))) (pure2 fun x y => match x, y with
  | .str i, .str j => some (.bl (decide (i.cps.toList < j.cps.toList)))
  | _, _ => none)
def gLe : G2 := alt2 (pure2 (pI fun i j => some (.bl (decide (i ≤ j))))) (pure2 fun x y => match x, y with
  | .str i, .str j => some (.bl (!decide (j.cps.toList < i.cps.toList)))
  | _, _ => none)
def gGt : G2 := alt2 (pure2 (pI fun i j => some (.bl (decide (j < i))))) (pure2 fun x y => match x, y with
  | .str i, .str j => some (.bl (decide (j.cps.toList < i.cps.toList)))
  | _, _ => none)
def gGe : G2 := alt2 (pure2 (pI fun i j => some (.bl (decide (j ≤ i))))) (pure2 fun x y => match x, y with
  | .str i, .str j => some (.bl (!decide (i.cps.toList < j.cps.toList)))
  | _, _ => none)
theorem vr_SB {K : PySem.W.Frag} {f : Str → Str → Bool} : VR2 K (pure2 fun x y => match x, y with
  | .str i, .str j => some (.bl (f i j))
  | _, _ => none) (fun x y H Q => ∃ i j, x = .str i ∧ y = .str j ∧ Q (.bl (f i j)) H) := by
  refine VR2.pure fun W a b c v w Q r1 r2 e q => ?_
  split at e
  · cases r1; cases r2; cases e
    exact ⟨_, _, rfl, rfl, q _ (.bl _)⟩
  · cases e
/-- a comparison of values, by what it gives -/
def Cmp (X : Cx) (op : CmpOp) (g : G2) : Prop := ∃ r, OpR X (compareOp op) r ∧ VR2 X.K g r
section
variable {X : Cx} {op op' : CmpOp} {g g' : G2} {a b c : Expr} {fa fb fc : FE} {pos : Pos}
theorem Cmp.alt (h : Cmp X op g) (h' : Cmp X op g') : Cmp X op (alt2 g g') := by
  obtain ⟨r, h1, h2⟩ := h
  obtain ⟨r', h3, h4⟩ := h'
  exact ⟨_, OpR.or h1 h3, VR2.alt h2 h4⟩
theorem c_lt : Cmp X .Lt gLt := ⟨_, OpR.or op_lt op_lt_str, VR2.alt vr_IB vr_SB⟩
theorem c_le : Cmp X .LtE gLe := ⟨_, OpR.or op_le op_le_str, VR2.alt vr_IB vr_SB⟩
theorem c_gt : Cmp X .Gt gGt := ⟨_, OpR.or op_gt op_gt_str, VR2.alt vr_IB vr_SB⟩
theorem c_ge : Cmp X .GtE gGe := ⟨_, OpR.or op_ge op_ge_str, VR2.alt vr_IB vr_SB⟩
theorem de_c (h : Cmp X op g) (ha : DE X a fa) (hb : DE X b fb) (hm : behindInMarks op b = false) : DE X (.Compare a [op] [b] pos) (fBin g fa fb) := by
  obtain ⟨r, h1, h2⟩ := h
  exact de_cmp h1 h2 ha hb hm
theorem dt_c (h : Cmp X op g) (ha : DE X a fa) (hb : DE X b fb) (hm : behindInMarks op b = false) : DT X (.Compare a [op] [b] pos) (fTest (fBin g fa fb)) := by
  obtain ⟨r, h1, h2⟩ := h
  exact dt_cmp h1 h2 ha hb hm
theorem de_cc (h : Cmp X op g) (h' : Cmp X op' g') (ha : DE X a fa) (hb : DE X b fb) (hc : DE X c fc) (hm : lastMarks [op, op'] [b, c] = false := by with_unfolding_all rfl) : DE X (.Compare a [op, op'] [b, c] pos) (fChain g g' fa fb fc) := by
  obtain ⟨r, h1, h2⟩ := h
  obtain ⟨r', h3, h4⟩ := h'
  exact de_chain h1 h3 h2 h4 ha hb hc hm
theorem dt_cc (h : Cmp X op g) (h' : Cmp X op' g') (ha : DE X a fa) (hb : DE X b fb) (hc : DE X c fc) (hm : lastMarks [op, op'] [b, c] = false := by with_unfolding_all rfl) : DT X (.Compare a [op, op'] [b, c] pos) (fTest (fChain g g' fa fb fc)) := by
  obtain ⟨r, h1, h2⟩ := h
  obtain ⟨r', h3, h4⟩ := h'
  exact dt_chain h1 h3 h2 h4 ha hb hc hm
end

/-! ### ==, != -/
mutual
def toPy : P → Option PyData
  | .non => some .none
  | .bl b => some (.bool b)
  | .int i => some (.int i)
  | .str x => some (.str x)
  | .ty _ => none
  | .tup l => (toPys l).map .tuple
  | .ktup l => (toPys l).map .tuple
  | .ftup l => (toPys l).map .tuple
  | .lst l => (toPys l).map .list
  | .flst l => (toPys l).map .list
  | .dK _ => none
  | .dT _ => none
def toPys : List P → Option (List PyData)
  | [] => some []
  | x :: r => match toPy x with
    | none => none
    | some d => match toPys r with
      | none => none
      | some l => some (d :: l)
end
section
variable {K : PySem.W.Frag} {H : Hp} {L : Addr → Prop}
mutual
theorem toPy_ok : ∀ {x : P} {v : V} {d : PyData}, RP K H L x v → toPy x = some d → Dp K H v d
  | .non, _, _, .non, e => by unfold toPy at e; cases e; exact .non
  | .bl b, _, _, .bl _, e => by unfold toPy at e; cases e; exact .bl b
  | .int i, _, _, .int _, e => by unfold toPy at e; cases e; exact .int i
  | .str i, _, _, .str _, e => by unfold toPy at e; cases e; exact .str i
  | .ty _, _, _, _, e => by unfold toPy at e; cases e
  | .tup l, _, _, .tup h r, e => by
    unfold toPy at e
    cases q : toPys l with
    | none => rw [q] at e; cases e
    | some ds => rw [q] at e; cases e; exact .tup (SqT.of h) (toPys_ok r q)
  | .ktup l, _, _, .ktup h r, e => by
    unfold toPy at e
    cases q : toPys l with
    | none => rw [q] at e; cases e
    | some ds => rw [q] at e; cases e; exact .tup h.sq (toPys_ok r q)
  | .ftup l, _, _, .ftup h _ r, e => by
    unfold toPy at e
    cases q : toPys l with
    | none => rw [q] at e; cases e
    | some ds => rw [q] at e; cases e; exact .tup h.sq (toPys_ok r q)
  | .lst l, _, _, .lst h _ r, e => by
    unfold toPy at e
    cases q : toPys l with
    | none => rw [q] at e; cases e
    | some ds => rw [q] at e; cases e; exact .lst (SqL.of h) (toPys_ok r q)
  | .flst l, _, _, .flst h r, e => by
    unfold toPy at e
    cases q : toPys l with
    | none => rw [q] at e; cases e
    | some ds => rw [q] at e; cases e; exact .lst (flst_sq h) (toPys_ok r q)
  | .dK _, _, _, _, e => by unfold toPy at e; cases e
  | .dT _, _, _, _, e => by unfold toPy at e; cases e
theorem toPys_ok : ∀ {x : List P} {v : List V} {d : List PyData}, RPs K H L x v → toPys x = some d → DpAll K H v d
  | [], _, _, .nil, e => by unfold toPys at e; cases e; exact .nil
  | x :: r, _, _, .cons h t, e => by
    unfold toPys at e
    split at e
    · cases e
    · rename_i d e1
      split at e
      · cases e
      · rename_i l e2
        cases e
        exact .cons (toPy_ok h e1) (toPys_ok t e2)
end
end
def toPyD (S : DH) : D → Option PyData
  | .p x => toPy x
  | .ref i => match S[i]? with
    | some (.lst l) => match allP l with
      | some ps => (toPys ps).map .list
      | none => none
    | _ => none
theorem toPyD_ok {K : PySem.W.Frag} {W : Wd} (s : RS K W) {x : D} {v : V} {d : PyData} (r : RD K W x v) (e : toPyD W.S x = some d) : Dp K W.H v d := by
  unfold toPyD at e
  split at e
  · exact toPy_ok r e
  · rename_i i
    obtain ⟨a, ea, rfl⟩ := r
    split at e
    · rename_i l el
      obtain ⟨vs, h1, h2⟩ := s.obj i _ a el ea
      split at e
      · rename_i ps hp
        cases q : toPys ps with
        | none => rw [q] at e; cases e
        | some ds => rw [q] at e; cases e; exact .lst (SqL.of h1) (toPys_ok (allP_rel hp h2) q)
      · cases e
    · cases e
def scalEq : P → P → Option Bool
  | .str x, .str y => some (decide (x = y))
  | .int x, .int y => some (decide (x = y))
  | .bl x, .bl y => some (decide (x = y))
  | .non, .non => some true
  | .non, .str _ => some false
  | .str _, .non => some false
  | .non, .int _ => some false
  | .int _, .non => some false
  | .int _, .str _ => some false
  | .str _, .int _ => some false
  | .non, .bl _ => some false
  | .bl _, .non => some false
  | .bl _, .str _ => some false
  | .str _, .bl _ => some false
  | _, _ => none
abbrev gEqS (neg : Bool) : G2 := pure2 fun x y => (scalEq x y).map fun b => .bl (if neg then !b else b)
theorem scalEq_ok {K : PySem.W.Frag} {H : Hp} {L : Addr → Prop} {x y : P} {v w : V} {b : Bool} (r1 : RP K H L x v) (r2 : RP K H L y w) (e : scalEq x y = some b) : scal v w = true ∧ b = decide (v = w) := by
  unfold scalEq at e
  split at e <;> first
    | (cases e; cases r1; cases r2; exact ⟨rfl, by simp⟩)
    | cases e
theorem vr_eqS {K : PySem.W.Frag} : VR2 K (gEqS false) rEq := by
  refine VR2.pure fun W a b c v w Q r1 r2 e q => ?_
  cases h : scalEq a b with
  | none => rw [h] at e; cases e
  | some k =>
    rw [h] at e; cases e
    obtain ⟨h1, h2⟩ := scalEq_ok r1 r2 h
    subst h2
    exact ⟨h1, q _ (.bl _)⟩
theorem vr_neS {K : PySem.W.Frag} : VR2 K (gEqS true) rNe := by
  refine VR2.pure fun W a b c v w Q r1 r2 e q => ?_
  cases h : scalEq a b with
  | none => rw [h] at e; cases e
  | some k =>
    rw [h] at e; cases e
    obtain ⟨h1, h2⟩ := scalEq_ok r1 r2 h
    subst h2
    exact ⟨h1, q _ (.bl _)⟩
def gEqD (neg : Bool) : G2 := fun x y S => match toPyD S x, toPyD S y with
  | some d, some e => if (SeqAt.shaped d && SeqAt.shaped e) = true then some (.p (.bl (if neg then !PyData.eqv d e else PyData.eqv d e)), S) else none
  | _, _ => none
theorem vr_eqD {K : PySem.W.Frag} : VR2 K (gEqD false) (rEqD K) := by
  intro W x y v w z S' Q s r1 r2 e q
  unfold gEqD at e
  split at e
  · rename_i d d' e1 e2
    split at e
    · rename_i hs
      cases e
      rw [Bool.and_eq_true] at hs
      exact ⟨d, d', toPyD_ok s r1 e1, toPyD_ok s r2 e2, hs.1, hs.2, q W _ (To.refl s) (.bl _)⟩
    · cases e
  · cases e
theorem vr_neD {K : PySem.W.Frag} : VR2 K (gEqD true) (rNeD K) := by
  intro W x y v w z S' Q s r1 r2 e q
  unfold gEqD at e
  split at e
  · rename_i d d' e1 e2
    split at e
    · rename_i hs
      cases e
      rw [Bool.and_eq_true] at hs
      exact ⟨d, d', toPyD_ok s r1 e1, toPyD_ok s r2 e2, hs.1, hs.2, q W _ (To.refl s) (.bl _)⟩
    · cases e
  · cases e
def gEq : G2 := alt2 (gEqS false) (gEqD false)
def gNe : G2 := alt2 (gEqS true) (gEqD true)
theorem c_eq {X : Cx} (hu : X.A.units + 64 < cLine) : Cmp X .Eq gEq := ⟨_, OpR.or op_eq (op_eqD hu), VR2.alt vr_eqS vr_eqD⟩
theorem c_ne {X : Cx} (hu : X.A.units + 64 < cLine) : Cmp X .NotEq gNe := ⟨_, OpR.or op_ne (op_neD hu), VR2.alt vr_neS vr_neD⟩

/-! ### is None, is of truths -/
abbrev gIsN (neg : Bool) : G2 := fun x y S => match y with
  | .p .non => match x with
    | .p .non => some (.p (.bl (!neg)), S)
    | _ => some (.p (.bl neg), S)
  | _ => none
theorem non_iff {K : PySem.W.Frag} {W : Wd} {x : D} {v : V} (r : RD K W x v) : decide (v = .non) = (match x with | .p .non => true | _ => false) := by
  cases x with
  | ref i => obtain ⟨a, _, rfl⟩ := r; simp
  | p x => cases r <;> simp
theorem vr_isN {K : PySem.W.Frag} : VR2 K (gIsN false) (fun x y H Q => y = .non ∧ Q (.bl (decide (x = .non))) H) := by
  intro W x y v w z S' Q s r1 r2 e q
  unfold gIsN at e
  split at e
  · cases r2
    refine ⟨rfl, ?_⟩
    rw [non_iff r1]
    split at e
    · cases e; exact q W _ (To.refl s) (.bl _)
    · rename_i hne
      cases e
      split
      · exact absurd rfl hne
      · exact q W _ (To.refl s) (.bl _)
  · cases e
theorem vr_notN {K : PySem.W.Frag} : VR2 K (gIsN true) (fun x y H Q => y = .non ∧ Q (.bl (!decide (x = .non))) H) := by
  intro W x y v w z S' Q s r1 r2 e q
  unfold gIsN at e
  split at e
  · cases r2
    refine ⟨rfl, ?_⟩
    rw [non_iff r1]
    split at e
    · cases e; exact q W _ (To.refl s) (.bl _)
    · rename_i hne
      cases e
      split
      · exact absurd rfl hne
      · exact q W _ (To.refl s) (.bl _)
  · cases e
abbrev gIsB (neg : Bool) : G2 := pure2 fun x y => match x, y with
  | .bl a, .bl b => some (.bl (if neg then !decide (a = b) else decide (a = b)))
  | _, _ => none
theorem vr_isB {K : PySem.W.Frag} : VR2 K (gIsB false) (fun x y H Q => ∃ a b, x = .bl a ∧ y = .bl b ∧ Q (.bl (decide (a = b))) H) := by
  refine VR2.pure fun W a b c v w Q r1 r2 e q => ?_
  split at e
  · cases r1; cases r2; cases e
    exact ⟨_, _, rfl, rfl, q _ (.bl _)⟩
  · cases e
theorem vr_notB {K : PySem.W.Frag} : VR2 K (gIsB true) (fun x y H Q => ∃ a b, x = .bl a ∧ y = .bl b ∧ Q (.bl (!decide (a = b))) H) := by
  refine VR2.pure fun W a b c v w Q r1 r2 e q => ?_
  split at e
  · cases r1; cases r2; cases e
    exact ⟨_, _, rfl, rfl, q _ (.bl _)⟩
  · cases e
def gIs : G2 := alt2 (gIsN false) (gIsB false)
def gIsNot : G2 := alt2 (gIsN true) (gIsB true)
theorem c_is {X : Cx} : Cmp X .Is gIs := ⟨_, OpR.or op_isN op_is_bl, VR2.alt vr_isN vr_isB⟩
theorem c_isnot {X : Cx} : Cmp X .IsNot gIsNot := ⟨_, OpR.or op_notN op_isnot_bl, VR2.alt vr_notN vr_notB⟩
end CK
/-! CkI: in, items, slices, dicts. -/
namespace CK
open PySem PySem.Spec PyProof.Rows L2

/-! ### in: one text within another -/
def strIn (i z : Str) : Bool := match i.cps.toList with
  | [c] => decide (c ∈ z.cps.toList)
  | _ => !(Builtin.Str.occurrences z i 0 z.length 1).isEmpty
abbrev gInS (neg : Bool) : G2 := pure2 fun x y => match x, y with
  | .str i, .str z => some (.bl (if neg then !strIn i z else strIn i z))
  | _, _ => none
theorem str_one {i : Str} {c : Nat} (h : i.cps.toList = [c]) : i = ⟨#[c]⟩ := by
  cases i with
  | mk a =>
    have : a = #[c] := by
      have := congrArg List.toArray h
      simpa using this
    rw [this]
theorem strIn_two (i z : Str) : (∃ c, i = ⟨#[c]⟩ ∧ strIn i z = decide (c ∈ z.cps.toList)) ∨ strIn i z = !(Builtin.Str.occurrences z i 0 z.length 1).isEmpty := by
  by_cases h : ∃ c, i.cps.toList = [c]
  · obtain ⟨c, hc⟩ := h
    exact .inl ⟨c, str_one hc, by unfold strIn; rw [hc]⟩
  · refine .inr ?_
    unfold strIn
    split
    · rename_i c hc
      exact absurd ⟨c, hc⟩ h
    · rfl
theorem c_inS {X : Cx} : Cmp X .In (gInS false) := by
  refine ⟨_, OpR.or op_in_sign op_in_str, VR2.pure fun W a b c v w Q r1 r2 e q => ?_⟩
  split at e
  · rename_i i z
    cases r1; cases r2; cases e
    rcases strIn_two i z with ⟨c, hc, h⟩ | h
    · subst hc
      rw [h] at q
      exact .inl ⟨c, z, rfl, rfl, q _ (.bl _)⟩
    · rw [h] at q
      exact .inr ⟨i, z, rfl, rfl, q _ (.bl _)⟩
  · cases e
theorem c_notInS {X : Cx} : Cmp X .NotIn (gInS true) := by
  refine ⟨_, OpR.or op_notIn_sign op_notin_str, VR2.pure fun W a b c v w Q r1 r2 e q => ?_⟩
  split at e
  · rename_i i z
    cases r1; cases r2; cases e
    rcases strIn_two i z with ⟨c, hc, h⟩ | h
    · subst hc
      rw [h] at q
      exact .inl ⟨c, z, rfl, rfl, q _ (.bl _)⟩
    · rw [h] at q
      exact .inr ⟨i, z, rfl, rfl, q _ (.bl _)⟩
  · cases e
/-! ### in: flat items -/
def flatP : P → Bool
  | .non => true | .bl _ => true | .int _ => true | .str _ => true | _ => false
def eqP : P → P → Bool
  | .non, .non => true
  | .bl a, .bl b => a == b
  | .bl a, .int b => (if a then 1 else 0) == b
  | .int a, .bl b => a == (if b then 1 else 0)
  | .int a, .int b => a == b
  | .str a, .str b => a == b
  | _, _ => false
theorem flat_ok {K : PySem.W.Frag} {H : Hp} {L : Addr → Prop} {x : P} {v : V} (r : RP K H L x v) (h : flatP x = true) : flatV v = true := by
  cases r <;> first | rfl | cases h
theorem eqP_ok {K : PySem.W.Frag} {H : Hp} {L : Addr → Prop} {x y : P} {v w : V} (r1 : RP K H L x v) (r2 : RP K H L y w) (h1 : flatP x = true) (h2 : flatP y = true) : eqV v w = eqP x y := by
  cases r1 <;> cases r2 <;> first | rfl | cases h1 | cases h2
def inP (x : P) (l : List P) : Bool := l.any fun y => eqP y x
theorem inP_ok {K : PySem.W.Frag} {H : Hp} {L : Addr → Prop} {x : P} {v : V} (r : RP K H L x v) (hx : flatP x = true) : ∀ {l : List P} {vs : List V}, RPs K H L l vs → l.all flatP = true → vs.all flatV = true ∧ inV v vs = inP x l
  | _, _, .nil, _ => ⟨rfl, rfl⟩
  | _, _, .cons a t, h => by
    rw [List.all_cons, Bool.and_eq_true] at h
    obtain ⟨h1, h2⟩ := inP_ok r hx t h.2
    refine ⟨by rw [List.all_cons, flat_ok a h.1, h1]; rfl, ?_⟩
    unfold inV inP at h2 ⊢
    rw [List.any_cons, List.any_cons, eqP_ok a r h.1 hx, h2]
/-- the items of a list or a tuple, all pure -/
def seqP (S : DH) : D → Option (List P)
  | .p (.tup l) => some l
  | .p (.ktup l) => some l
  | .p (.ftup l) => some l
  | .p (.lst l) => some l
  | .p (.flst l) => some l
  | .ref i => match S[i]? with
    | some (.lst l) => allP l
    | _ => none
  | _ => none
theorem seqP_ok {K : PySem.W.Frag} {W : Wd} (s : RS K W) {d : D} {v : V} {l : List P} (r : RD K W d v) (h : seqP W.S d = some l) : ∃ a vs, v = .ref a ∧ (SqL K W.H a vs ∨ SqT K W.H a vs) ∧ RPs K W.H W.L l vs := by
  unfold seqP at h
  split at h
  · cases h; cases r with | tup h1 h2 => exact ⟨_, _, rfl, .inr (SqT.of h1), h2⟩
  · cases h; cases r with | ktup h1 h2 => exact ⟨_, _, rfl, .inr h1.sq, h2⟩
  · cases h; cases r with | ftup h1 _ h2 => exact ⟨_, _, rfl, .inr h1.sq, h2⟩
  · cases h; cases r with | lst h1 _ h2 => exact ⟨_, _, rfl, .inl (SqL.of h1), h2⟩
  · cases h; cases r with | flst h1 h2 => exact ⟨_, _, rfl, .inl (flst_sq h1), h2⟩
  · rename_i i
    obtain ⟨a, ea, rfl⟩ := r
    split at h
    · rename_i l' el
      obtain ⟨vs, h1, h2⟩ := s.obj i _ a el ea
      exact ⟨a, vs, rfl, .inl (SqL.of h1), allP_rel h h2⟩
    · cases h
  · cases h
def gInF (neg : Bool) : G2 := fun x y S => match x, seqP S y with
  | .p x, some l => if (flatP x && l.all flatP) = true then some (.p (.bl (if neg then !inP x l else inP x l)), S) else none
  | _, _ => none
theorem vr_inF {K : PySem.W.Frag} {neg : Bool} : VR2 K (gInF neg) (rIn K neg) := by
  intro W x y v w z S' Q s r1 r2 e q
  unfold gInF at e
  split at e
  · rename_i x l hl
    split at e
    · rename_i hf
      cases e
      rw [Bool.and_eq_true] at hf
      obtain ⟨a, vs, rfl, h1, h2⟩ := seqP_ok s r2 hl
      obtain ⟨h3, h4⟩ := inP_ok r1 hf.1 h2 hf.2
      refine ⟨a, vs, rfl, h1, flat_ok r1 hf.1, h3, ?_⟩
      rw [h4]
      exact q W _ (To.refl s) (.bl _)
    · cases e
  · cases e
theorem c_inF {X : Cx} : Cmp X .In (gInF false) := ⟨_, op_in_seq, vr_inF⟩
theorem c_notInF {X : Cx} : Cmp X .NotIn (gInF true) := ⟨_, op_notIn_seq, vr_inF⟩
/-! ### in: any data in a list -/
def gInD (neg : Bool) : G2 := fun x y S => match toPyD S x, toPyD S y with
  | some d, some (.list ds) => if (SeqAt.shaped d && SeqAt.shaped (.list ds)) = true then some (.p (.bl (if neg then !ds.any fun z => PyData.eqv z d else ds.any fun z => PyData.eqv z d)), S) else none
  | _, _ => none
theorem c_inD {X : Cx} (hu : X.A.units + 65 < cLine) : Cmp X .In (gInD false) := by
  refine ⟨_, op_inD hu, ?_⟩
  intro W x y v w z S' Q s r1 r2 e q
  unfold gInD at e
  split at e
  · rename_i d ds e1 e2
    split at e
    · rename_i hs
      cases e
      rw [Bool.and_eq_true] at hs
      exact ⟨d, ds, toPyD_ok s r1 e1, toPyD_ok s r2 e2, hs.1, hs.2, q W _ (To.refl s) (.bl _)⟩
    · cases e
  · cases e
theorem c_notInD {X : Cx} (hu : X.A.units + 65 < cLine) : Cmp X .NotIn (gInD true) := by
  refine ⟨_, op_notInD hu, ?_⟩
  intro W x y v w z S' Q s r1 r2 e q
  unfold gInD at e
  split at e
  · rename_i d ds e1 e2
    split at e
    · rename_i hs
      cases e
      rw [Bool.and_eq_true] at hs
      exact ⟨d, ds, toPyD_ok s r1 e1, toPyD_ok s r2 e2, hs.1, hs.2, q W _ (To.refl s) (.bl _)⟩
    · cases e
  · cases e

/-! ### dicts -/
def keysP : List P → Option (List Key)
  | [] => some []
  | .int i :: r => (keysP r).map (Sum.inl i :: ·)
  | .str x :: r => (keysP r).map (Sum.inr x :: ·)
  | _ :: _ => none
def keyD : D → Option (Sum Key (List Key))
  | .p (.int i) => some (.inl (.inl i))
  | .p (.str x) => some (.inl (.inr x))
  | .p (.tup l) => (keysP l).map .inr
  | _ => none
theorem keysP_ok {K : PySem.W.Frag} {H : Hp} {L : Addr → Prop} : ∀ {l : List P} {vs : List V} {ks : List Key}, RPs K H L l vs → keysP l = some ks → vs = ks.map kV
  | [], _, _, .nil, e => by cases e; rfl
  | x :: r, _, _, .cons a t, e => by
    cases x with
    | int i =>
      unfold keysP at e
      cases h : keysP r with
      | none => rw [h] at e; cases e
      | some ks => rw [h] at e; cases e; cases a; rw [keysP_ok t h]; rfl
    | str i =>
      unfold keysP at e
      cases h : keysP r with
      | none => rw [h] at e; cases e
      | some ks => rw [h] at e; cases e; cases a; rw [keysP_ok t h]; rfl
    | _ => cases e
abbrev KD := Sum (List (Key × D)) (List (List Key × D))
def dictD (S : DH) : D → Option KD
  | .p (.dK l) => some (.inl (l.map fun q => (q.1, .p q.2)))
  | .p (.dT l) => some (.inr (l.map fun q => (q.1, .p q.2)))
  | .ref i => match S[i]? with
    | some (.dK l) => some (.inl l)
    | some (.kK l) => some (.inl l)
    | some (.dT l) => some (.inr l)
    | some (.kT l) => some (.inr l)
    | _ => none
  | _ => none
theorem rpk_d {K : PySem.W.Frag} {W : Wd} : ∀ {l : List (Key × P)} {kvs : List (Key × V)}, RPk K W.H W.L l kvs → RDk K W (l.map fun q => (q.1, .p q.2)) kvs
  | _, _, .nil => .nil
  | _, _, .cons h t => .cons ⟨rfl, h⟩ (rpk_d t)
theorem rpt_d {K : PySem.W.Frag} {W : Wd} : ∀ {l : List (List Key × P)} {kvs : List (List Key × V)}, RPt K W.H W.L l kvs → RDk K W (l.map fun q => (q.1, .p q.2)) kvs
  | _, _, .nil => .nil
  | _, _, .cons h t => .cons ⟨rfl, h⟩ (rpt_d t)
theorem dictD_ok {K : PySem.W.Frag} {W : Wd} (s : RS K W) {d : D} {v : V} {kd : KD} (r : RD K W d v) (h : dictD W.S d = some kd) : ∃ a, v = .ref a ∧ match kd with
    | .inl l => ∃ kvs, Rd W.H a (.dK kvs) ∧ RDk K W l kvs
    | .inr l => ∃ kvs, Rd W.H a (.dT kvs) ∧ RDk K W l kvs := by
  cases d with
  | p x =>
    cases x with
    | dK l =>
      have h : some (Sum.inl (l.map fun q => (q.1, D.p q.2))) = some kd := h
      cases h
      cases r with
      | dK h1 _ h2 => exact ⟨_, rfl, _, .inr h1, rpk_d h2⟩
    | dT l =>
      have h : some (Sum.inr (l.map fun q => (q.1, D.p q.2))) = some kd := h
      cases h
      cases r with
      | dT h1 _ h2 => exact ⟨_, rfl, _, .inr h1, rpt_d h2⟩
    | _ => cases h
  | ref i =>
    obtain ⟨a, ea, rfl⟩ := r
    have h : (match W.S[i]? with
      | some (.dK l) => some (.inl l)
      | some (.kK l) => some (.inl l)
      | some (.dT l) => some (.inr l)
      | some (.kT l) => some (.inr l)
      | _ => none) = some kd := h
    cases el : W.S[i]? with
    | none => rw [el] at h; cases h
    | some o =>
      rw [el] at h
      have ro := s.obj i o a el ea
      cases o with
      | dK l => cases h; obtain ⟨kvs, h1, h2⟩ := ro; exact ⟨a, rfl, kvs, .inl h1, h2⟩
      | kK l => cases h; obtain ⟨o, kvs, h1, h2⟩ := ro; exact ⟨a, rfl, kvs, .inr ⟨o, h1⟩, h2⟩
      | dT l => cases h; obtain ⟨kvs, h1, h2⟩ := ro; exact ⟨a, rfl, kvs, .inl h1, h2⟩
      | kT l => cases h; obtain ⟨o, kvs, h1, h2⟩ := ro; exact ⟨a, rfl, kvs, .inr ⟨o, h1⟩, h2⟩
      | _ => cases h
def dval {κ α : Type} [DecidableEq κ] (l : List (κ × α)) (k : κ) : Option α := (l.find? fun kv => decide (kv.1 = k)).map (·.2)
theorem dval_ok {κ : Type} [DecidableEq κ] {K : PySem.W.Frag} {W : Wd} {l : List (κ × D)} {kvs : List (κ × V)} (r : RDk K W l kvs) (k : κ) : (dval l k = none ∧ valV kvs k = none) ∨ ∃ d v, dval l k = some d ∧ valV kvs k = some v ∧ RD K W d v := by
  induction r with
  | nil => exact .inl ⟨rfl, rfl⟩
  | @cons p q l kvs a _ ih =>
    obtain ⟨e, rd⟩ := a
    by_cases h : p.1 = k
    · refine .inr ⟨p.2, q.2, by simp [dval, List.find?_cons, h], ?_, rd⟩
      exact valV_pos (by rw [← e]; exact h)
    · have h1 : dval (p :: l) k = dval l k := by simp [dval, List.find?_cons, h]
      have h2 : valV (q :: kvs) k = valV kvs k := valV_neg (by rw [← e]; exact h)
      rw [h1, h2]
      exact ih
/-- what the dict d holds at k -/
def dget (S : DH) (d k : D) : Option (Option D) := match dictD S d, keyD k with
  | some (.inl l), some (.inl k) => some (dval l k)
  | some (.inr l), some (.inr k) => some (dval l k)
  | _, _ => none
theorem dget_ok {K : PySem.W.Frag} {W : Wd} (s : RS K W) {d k : D} {v w : V} {o : Option D} (r1 : RD K W d v) (r2 : RD K W k w) (e : dget W.S d k = some o) :
    ∃ a ov, v = .ref a ∧ DGet W.H a w ov ∧ ((o = none ∧ ov = none) ∨ ∃ x u, o = some x ∧ ov = some u ∧ RD K W x u) := by
  unfold dget at e
  split at e
  · rename_i l k' e1 e2
    cases e
    obtain ⟨a, rfl, kvs, h1, h2⟩ := dictD_ok s r1 e1
    have hk : w = kV k' := by
      unfold keyD at e2
      split at e2
      · cases e2; cases r2; rfl
      · cases e2; cases r2; rfl
      · rename_i l
        cases h : keysP l with
        | none => rw [h] at e2; cases e2
        | some ks => rw [h] at e2; cases e2
      · cases e2
    exact ⟨a, valV kvs k', rfl, .inl ⟨kvs, k', h1, hk, rfl⟩, dval_ok h2 k'⟩
  · rename_i l k' e1 e2
    cases e
    obtain ⟨a, rfl, kvs, h1, h2⟩ := dictD_ok s r1 e1
    unfold keyD at e2
    split at e2
    · cases e2
    · cases e2
    · rename_i l
      cases h : keysP l with
      | none => rw [h] at e2; cases e2
      | some ks =>
        rw [h] at e2; cases e2
        cases r2 with
        | @tup b vs _ h3 h4 =>
          have := keysP_ok h4 h
          subst this
          exact ⟨a, _, rfl, .inr ⟨kvs, _, b, h1, rfl, h3, rfl⟩, dval_ok h2 _⟩
    · cases e2
  · cases e
section
variable {X : Cx}
theorem op_inK (hu : X.A.units + 1 < cLine) : OpR X (compareOp .In) (fun y x H Q => ∃ a o, x = .ref a ∧ DGet H a y o ∧ Q (.bl o.isSome) H) := by
  intro pins s σ H y x iv u Q I ry rx h
  obtain ⟨a, o, rfl, g, q⟩ := h
  obtain rfl : u = Value.ref a := rx
  exact d_in hu I g ry fun s3 I3 => ⟨.bl o.isSome, H, I3, rfl, q⟩
theorem op_notInK (hu : X.A.units + 1 < cLine) : OpR X (compareOp .NotIn) (fun y x H Q => ∃ a o, x = .ref a ∧ DGet H a y o ∧ Q (.bl (!o.isSome)) H) := by
  intro pins s σ H y x iv u Q I ry rx h
  obtain ⟨a, o, rfl, g, q⟩ := h
  obtain rfl : u = Value.ref a := rx
  exact d_notIn hu I g ry fun s3 I3 => ⟨.bl (!o.isSome), H, I3, rfl, q⟩
theorem ix_dict (hu : X.A.units + 1 < cLine) : IxR X (fun x y H Q => ∃ a v, x = .ref a ∧ DGet H a y (some v) ∧ Q v H) := by
  intro value slice pins s σ H x y v u Q I rx ry h hs
  obtain ⟨a, w, rfl, g, q⟩ := h
  obtain rfl : v = Value.ref a := rx
  exact tail_any (dict_typeIs I g) PySem.F.slot_dict_getitem.lookup (d_getItem hu I g ry fun w' s3 I3 rw' => ⟨w, H, I3, rw', q⟩) hs
end
def gInK (neg : Bool) : G2 := fun x y S => match dget S y x with
  | some o => some (.p (.bl (if neg then !o.isSome else o.isSome)), S)
  | none => none
theorem c_inK {X : Cx} (hu : X.A.units + 1 < cLine) : Cmp X .In (gInK false) := by
  refine ⟨_, op_inK hu, ?_⟩
  intro W x y v w z S' Q s r1 r2 e q
  unfold gInK at e
  split at e
  · rename_i o eo
    cases e
    obtain ⟨a, ov, rfl, g, h⟩ := dget_ok s r2 r1 eo
    refine ⟨a, ov, rfl, g, ?_⟩
    have : ov.isSome = o.isSome := by
      rcases h with ⟨rfl, rfl⟩ | ⟨x, u, rfl, rfl, _⟩ <;> rfl
    rw [this]
    exact q W _ (To.refl s) (.bl _)
  · cases e
theorem c_notInK {X : Cx} (hu : X.A.units + 1 < cLine) : Cmp X .NotIn (gInK true) := by
  refine ⟨_, op_notInK hu, ?_⟩
  intro W x y v w z S' Q s r1 r2 e q
  unfold gInK at e
  split at e
  · rename_i o eo
    cases e
    obtain ⟨a, ov, rfl, g, h⟩ := dget_ok s r2 r1 eo
    refine ⟨a, ov, rfl, g, ?_⟩
    have : ov.isSome = o.isSome := by
      rcases h with ⟨rfl, rfl⟩ | ⟨x, u, rfl, rfl, _⟩ <;> rfl
    rw [this]
    exact q W _ (To.refl s) (.bl _)
  · cases e
def gIn : G2 := alt2 (gInS false) (alt2 (gInK false) (alt2 (gInF false) (gInD false)))
def gNotIn : G2 := alt2 (gInS true) (alt2 (gInK true) (alt2 (gInF true) (gInD true)))
theorem c_in {X : Cx} (hu : X.A.units + 65 < cLine) : Cmp X .In gIn := c_inS.alt ((c_inK (by omega)).alt (c_inF.alt (c_inD hu)))
theorem c_notin {X : Cx} (hu : X.A.units + 65 < cLine) : Cmp X .NotIn gNotIn := c_notInS.alt ((c_notInK (by omega)).alt (c_notInF.alt (c_notInD hu)))

/-! ### items -/
def gIxL : G2 := fun x y S => match lstD S x, y with
  | some l, .p (.int i) => (atI l i).map fun d => (d, S)
  | _, _ => none
def gIxT : G2 := fun x y S => match tupD x, y with
  | some l, .p (.int i) => (atI l i).map fun d => (.p d, S)
  | _, _ => none
def gIxS : G2 := pure2 fun x y => match x, y with
  | .str z, .int i => if z.length ≤ sizeLine then (atI z.cps.toList i).map fun c => .str ⟨#[c]⟩ else none
  | _, _ => none
def gIxK : G2 := fun x y S => match dget S x y with
  | some (some d) => some (d, S)
  | _ => none
theorem atI_rel {α β : Type} {xs : List α} {ys : List β} {i : Int} {x : α} {R : α → β → Prop} (hl : xs.length = ys.length) (h : ∀ (j : Nat) (x : α), xs[j]? = some x → ∃ y, ys[j]? = some y ∧ R x y) (e : atI xs i = some x) : ∃ y, atI ys i = some y ∧ R x y := by
  unfold atI at e ⊢
  rw [← hl]
  cases hj : ixN xs.length i with
  | none => rw [hj] at e; cases e
  | some j =>
    rw [hj] at e
    exact h j x e
theorem vr_ixL {K : PySem.W.Frag} : VR2 K gIxL (rIxL K) := by
  intro W x y v w z S' Q s r1 r2 e q
  unfold gIxL at e
  split at e
  · rename_i l i el
    cases h : atI l i with
    | none => rw [h] at e; cases e
    | some d =>
      rw [h] at e; cases e
      obtain ⟨a, vs, rfl, h1, h2⟩ := lstD_ok s r1 el
      cases r2
      obtain ⟨u, h3, h4⟩ := atI_rel (R := RD K W) (rds_length h2) (fun j x e => rds_get h2 e) h
      exact ⟨a, vs, i, u, rfl, rfl, h1, h3, q W u (To.refl s) h4⟩
  · cases e
theorem vr_ixT {K : PySem.W.Frag} : VR2 K gIxT (rIxT K) := by
  intro W x y v w z S' Q s r1 r2 e q
  unfold gIxT at e
  split at e
  · rename_i l i el
    cases h : atI l i with
    | none => rw [h] at e; cases e
    | some d =>
      rw [h] at e; cases e
      obtain ⟨a, vs, rfl, h1, h2⟩ := tupD_ok r1 el
      cases r2
      obtain ⟨u, h3, h4⟩ := atI_rel (R := RP K W.H W.L) (rps_length h2) (fun j x e => rps_get h2 e) h
      exact ⟨a, vs, i, u, rfl, rfl, h1, h3, q W u (To.refl s) h4⟩
  · cases e
theorem vr_ixS {K : PySem.W.Frag} : VR2 K gIxS rIxS := by
  refine VR2.pure fun W a b c v w Q r1 r2 e q => ?_
  split at e
  · rename_i z i
    split at e
    · rename_i hl
      cases h : atI z.cps.toList i with
      | none => rw [h] at e; cases e
      | some d =>
        rw [h] at e; cases e
        cases r1; cases r2
        exact ⟨z, i, d, rfl, rfl, hl, h, q _ (.str _)⟩
    · cases e
  · cases e
theorem vr_ixK {K : PySem.W.Frag} : VR2 K gIxK (fun x y H Q => ∃ a v, x = .ref a ∧ DGet H a y (some v) ∧ Q v H) := by
  intro W x y v w z S' Q s r1 r2 e q
  unfold gIxK at e
  split at e
  · rename_i d ed
    cases e
    obtain ⟨a, ov, rfl, g, h⟩ := dget_ok s r1 r2 ed
    rcases h with ⟨h, _⟩ | ⟨x, u, h1, rfl, h3⟩
    · cases h
    · cases h1
      exact ⟨a, u, rfl, g, q W u (To.refl s) h3⟩
  · cases e
def gIx : G2 := alt2 gIxL (alt2 gIxT (alt2 gIxS gIxK))
theorem de_item {X : Cx} {a b : Expr} {fa fb : FE} {pos : Pos} (hu : X.A.units + 1 < cLine) (ha : DE X a fa) (hb : DE X b fb) (hs : PlainIx b) : DE X (.Subscript a b pos) (fBin gIx fa fb) :=
  de_ix (IxR.or ix_list (IxR.or ix_tup (IxR.or ix_str (ix_dict hu)))) (VR2.alt vr_ixL (VR2.alt vr_ixT (VR2.alt vr_ixS vr_ixK))) ha hb hs

/-! ### slices -/
abbrev FO := DS → DH → Option (Option Int × DH)
def oNone : FO := fun _ S => some (none, S)
def oSome (fe : FE) : FO := fun ds S => match fe ds S with
  | some (.p (.int i), S1) => some (some i, S1)
  | _ => none
def tO (K : PySem.W.Frag) (f : FO) : TO := fun σ H Q => ∃ W ds o S', W.H = H ∧ RS K W ∧ RE K W ds σ ∧ f ds W.S = some (o, S') ∧ ∀ W', To K W S' W' → Q o W'.H
abbrev DO' (X : Cx) (e : Option Expr) (f : FO) : Prop := PO X e (tO X.K f)
theorem PO.imp {X : Cx} {e : Option Expr} {t t' : TO} (h : PO X e t) (i : ∀ σ H Q, t' σ H Q → t σ H Q) : PO X e t' := ⟨fun pins s σ H Q I q => h.run pins s σ H Q I (i σ H Q q)⟩
theorem do_none {X : Cx} : DO' X none oNone := PO.imp po_none fun σ H Q ⟨W, ds, o, S', eH, s, re, e, q⟩ => by
  subst eH; cases e; exact q W (To.refl s)
theorem do_some {X : Cx} {e : Expr} {fe : FE} (h : DE X e fe) : DO' X (some e) (oSome fe) := PO.imp (po_some h) fun σ H Q ⟨W, ds, o, S', eH, s, re, e, q⟩ => by
  unfold oSome at e
  split at e
  · rename_i i S1 e1
    cases e
    refine ⟨W, ds, _, _, eH, s, re, e1, fun W1 v t1 r1 => ?_⟩
    cases r1
    exact ⟨i, rfl, q W1 t1⟩
  · cases e
abbrev GS := D → Option Int → Option Int → DH → Option (D × DH)
def cut {α : Type} (xs : List α) (lo hi : Option Int) : List α := (xs.drop (HT.sIx xs.length 0 lo)).take (HT.sIx xs.length xs.length hi - HT.sIx xs.length 0 lo)
def fSl (g : GS) (fe : FE) (fl fh : FO) : FE := fun ds S => match fe ds S with
  | none => none
  | some (x, S1) => match fl ds S1 with
    | none => none
    | some (l, S2) => match fh ds S2 with
      | none => none
      | some (h, S3) => g x l h S3
def VRS (K : PySem.W.Frag) (g : GS) (r : V → Option Int → Option Int → Hp → VK → Prop) : Prop :=
  ∀ (W : Wd) (x : D) (v : V) (lo hi : Option Int) (z : D) (S' : DH) (Q : VK), RS K W → RD K W x v → g x lo hi W.S = some (z, S') → (∀ W' u, To K W S' W' → RD K W' z u → Q u W'.H) → r v lo hi W.H Q
def altS (g h : GS) : GS := fun x lo hi S => match g x lo hi S with
  | some r => some r
  | none => h x lo hi S
theorem VRS.alt {K : PySem.W.Frag} {g h : GS} {r r' : V → Option Int → Option Int → Hp → VK → Prop} (a : VRS K g r) (b : VRS K h r') : VRS K (altS g h) (fun x lo hi H Q => r x lo hi H Q ∨ r' x lo hi H Q) := by
  intro W x v lo hi z S' Q s r1 e q
  unfold altS at e
  split at e
  · rename_i z' e'
    cases e
    exact .inl (a W x v lo hi z S' Q s r1 e' q)
  · exact .inr (b W x v lo hi z S' Q s r1 e q)
theorem de_slice {X : Cx} {e : Expr} {lo hi : Option Expr} {fe : FE} {fl fh : FO} {p2 pos : Pos} {g : GS} {r : V → Option Int → Option Int → Hp → VK → Prop} (hs : SlR X r) (hr : VRS X.K g r) (he : DE X e fe) (hl : DO' X lo fl) (hh : DO' X hi fh) :
    DE X (.Subscript e (.Slice lo hi none p2) pos) (fSl g fe fl fh) := PE.imp (pe_slice hs he hl hh) fun σ H Q ⟨W, ds, d, S', eH, s, re, e, q⟩ => by
  unfold fSl at e
  split at e
  · cases e
  · rename_i x S1 e1
    split at e
    · cases e
    · rename_i l S2 e2
      split at e
      · cases e
      · rename_i h S3 e3
        refine ⟨W, ds, x, _, eH, s, re, e1, fun W1 v t1 r1 => ⟨W1, ds, l, _, rfl, t1.s, re.ext t1.x, by rw [t1.e]; exact e2, fun W2 t2 => ⟨W2, ds, h, _, rfl, t2.s, re.ext (t1.x.trans t2.x), by rw [t2.e]; exact e3, fun W3 t3 => ?_⟩⟩⟩
        exact hr W3 x v l h d S' Q t3.s (r1.ext (t2.x.trans t3.x)) (by rw [t3.e]; exact e) fun W4 u t4 r4 => q W4 u (((t1.after t2).after t3).after t4) r4
theorem rds_cut {K : PySem.W.Frag} {W : Wd} {l : List D} {vs : List V} (h : RDs K W l vs) (lo hi : Option Int) : RDs K W (cut l lo hi) (cutV vs lo hi) := by
  have take : ∀ {l : List D} {vs : List V} (n : Nat), RDs K W l vs → RDs K W (l.take n) (vs.take n) := by
    intro l vs n h
    induction h generalizing n with
    | nil => simp; exact .nil
    | cons a _ ih => cases n with
      | zero => exact .nil
      | succ n => exact .cons a (ih n)
  have drop : ∀ {l : List D} {vs : List V} (n : Nat), RDs K W l vs → RDs K W (l.drop n) (vs.drop n) := by
    intro l vs n h
    induction h generalizing n with
    | nil => simp; exact .nil
    | cons a t ih => cases n with
      | zero => exact .cons a t
      | succ n => exact ih n
  unfold cut cutV
  rw [← rds_length h]
  exact take _ (drop _ h)
theorem rps_of_ds {K : PySem.W.Frag} {W : Wd} : ∀ {ps : List P} {vs : List V}, RDs K W (ps.map .p) vs → RPs K W.H W.L ps vs
  | [], _, .nil => .nil
  | _ :: _, _, .cons h t => .cons h (rps_of_ds t)
theorem map_cut {α β : Type} (f : α → β) (l : List α) (lo hi : Option Int) : cut (l.map f) lo hi = (cut l lo hi).map f := by
  unfold cut
  rw [List.length_map, List.map_take, List.map_drop]
def gSlL : GS := fun x lo hi S => match lstD S x with
  | some l => (allP (cut l lo hi)).map fun ps => (.p (.lst ps), S)
  | none => none
def gSlT : GS := fun x lo hi S => match x with
  | .p (.tup l) => some (.p (.tup (cut l lo hi)), S)
  | .p (.ktup l) => if HT.sIx l.length 0 lo = 0 ∧ HT.sIx l.length l.length hi = l.length then some (.p (.ktup l), S) else some (.p (.tup (cut l lo hi)), S)
  | .p (.ftup l) => if HT.sIx l.length 0 lo = 0 ∧ HT.sIx l.length l.length hi = l.length then some (.p (.ftup l), S) else some (.p (.tup (cut l lo hi)), S)
  | _ => none
def gSlS : GS := fun x lo hi S => match x with
  | .p (.str z) => if z.length ≤ sizeLine then some (.p (.str (cutS z lo hi)), S) else none
  | _ => none
theorem vr_slL {K : PySem.W.Frag} : VRS K gSlL (rSlL K) := by
  intro W x v lo hi z S' Q s r1 e q
  unfold gSlL at e
  split at e
  · rename_i l el
    cases h : allP (cut l lo hi) with
    | none => rw [h] at e; cases e
    | some ps =>
      rw [h] at e; cases e
      obtain ⟨a, vs, rfl, h1, h2⟩ := lstD_ok s r1 el
      refine ⟨a, vs, rfl, h1, fun p hp => ?_⟩
      obtain ⟨t, r⟩ := new_lst s hp (allP_rel h (rds_cut h2 lo hi))
      exact q _ _ t r
  · cases e
theorem cut_whole {α : Type} {l : List α} {lo hi : Option Int} (h : HT.sIx l.length 0 lo = 0 ∧ HT.sIx l.length l.length hi = l.length) : cut l lo hi = l := by
  unfold cut
  rw [h.1, h.2]
  simp
theorem vr_slT {K : PySem.W.Frag} : VRS K gSlT (rSlA K) := by
  intro W x v lo hi z S' Q s r1 e q
  unfold gSlT at e
  split at e
  · rename_i l
    cases e
    cases r1 with
    | tup h1 h2 =>
      have hl := rps_length h2
      refine ⟨_, _, rfl, SqT.of h1, fun hw => ?_, fun hw p hp => ?_⟩
      · rw [← hl] at hw
        rw [cut_whole hw] at q
        exact q W _ (To.refl s) (.tup h1 h2)
      · obtain ⟨t, r⟩ := new_tup s hp (rps_of_ds (by rw [← map_cut]; exact rds_cut (rps_ds h2) lo hi))
        exact q _ _ t r
  · rename_i l
    cases r1 with
    | ktup h1 h2 =>
      have hl := rps_length h2
      refine ⟨_, _, rfl, h1.sq, fun hw => ?_, fun hw p hp => ?_⟩
      · rw [← hl] at hw
        rw [if_pos hw] at e
        cases e
        exact q W _ (To.refl s) (.ktup h1 h2)
      · rw [← hl] at hw
        rw [if_neg hw] at e
        cases e
        obtain ⟨t, r⟩ := new_tup s hp (rps_of_ds (by rw [← map_cut]; exact rds_cut (rps_ds h2) lo hi))
        exact q _ _ t r
  · rename_i l
    cases r1 with
    | ftup h1 h0 h2 =>
      have hl := rps_length h2
      refine ⟨_, _, rfl, h1.sq, fun hw => ?_, fun hw p hp => ?_⟩
      · rw [← hl] at hw
        rw [if_pos hw] at e
        cases e
        exact q W _ (To.refl s) (.ftup h1 h0 h2)
      · rw [← hl] at hw
        rw [if_neg hw] at e
        cases e
        obtain ⟨t, r⟩ := new_tup s hp (rps_of_ds (by rw [← map_cut]; exact rds_cut (rps_ds h2) lo hi))
        exact q _ _ t r
  · cases e
theorem vr_slS {K : PySem.W.Frag} : VRS K gSlS rSlS := by
  intro W x v lo hi z S' Q s r1 e q
  unfold gSlS at e
  split at e
  · rename_i z
    split at e
    · rename_i h
      cases e
      cases r1
      exact ⟨z, rfl, h, q W _ (To.refl s) (.str _)⟩
    · cases e
  · cases e
def gSl : GS := altS gSlL (altS gSlT gSlS)
theorem de_sl {X : Cx} {e : Expr} {lo hi : Option Expr} {fe : FE} {fl fh : FO} {p2 pos : Pos} (he : DE X e fe) (hl : DO' X lo fl) (hh : DO' X hi fh) : DE X (.Subscript e (.Slice lo hi none p2) pos) (fSl gSl fe fl fh) :=
  de_slice (SlR.or sl_list (SlR.or sl_tupA sl_str)) (VRS.alt vr_slL (VRS.alt vr_slT vr_slS)) he hl hh
end CK
/-! CkJ: calls of built-ins, methods, stores, what is walked. -/
namespace CK
open PySem PySem.Spec PyProof.Rows L2

/-- a built-in's call, by what it gives -/
def Fun1 (X : Cx) (f : Value) (g : GN) : Prop := ∃ r, CallR X f r ∧ VRN X.K g r
theorem Fun1.alt {X : Cx} {f : Value} {g g' : GN} (h : Fun1 X f g) (h' : Fun1 X f g') : Fun1 X f (altN g g') := by
  obtain ⟨r, h1, h2⟩ := h
  obtain ⟨r', h3, h4⟩ := h'
  exact ⟨_, CallR.or h1 h3, VRN.alt h2 h4⟩
section
variable {X : Cx} {x : Str} {p pos : Pos} {e : Expr} {es : List Expr} {fs : FA} {id T : String} {g : GN}
theorem de_b (h : Fun1 X (.builtin id) g) (hg : Gl X x) (hm : X.mg x = none) (hv : bootBuiltins x = some (.builtin id)) (ha : DA X (e :: es) fs) (hn : x ≠ "__name__" := by decide) (hdb : (x == ("__debug__" : Str)) = false := by decide)
    (he : starEach (e :: es) X.env = (false, eval e X.env) :: starEach es X.env := by rfl) (hpl : (backTo pos (starEach es X.env)).any (·.1) = false := by rfl) : DE X (.Call (.Name x p) (e :: es) [] pos) (fCall g fs) := by
  obtain ⟨r, h1, h2⟩ := h
  exact de_callB h1 h2 hg hm hv ha hn hdb he hpl
theorem de_t (h : Fun1 X (.type T) g) (hg : Gl X x) (hm : X.mg x = none) (hv : bootBuiltins x = some (.type T)) (ha : DA X (e :: es) fs) (hn : x ≠ "__name__" := by decide) (hdb : (x == ("__debug__" : Str)) = false := by decide)
    (he : starEach (e :: es) X.env = (false, eval e X.env) :: starEach es X.env := by rfl) (hpl : (backTo pos (starEach es X.env)).any (·.1) = false := by rfl) : DE X (.Call (.Name x p) (e :: es) [] pos) (fCall g fs) := by
  obtain ⟨r, h1, h2⟩ := h
  exact de_callTy h1 h2 hg hm hv ha hn hdb he hpl
end
/-! ### len -/
def gLen : GN := fun xs S => match xs with
  | [.p (.str z)] => if z.length ≤ sizeLine then some (.p (.int z.length), S) else none
  | [x] => match seqD S x with
    | some l => some (.p (.int l.length), S)
    | none => match dictD S x with
      | some (.inl l) => some (.p (.int l.length), S)
      | _ => none
  | _ => none
theorem seqD_ok {K : PySem.W.Frag} {W : Wd} (s : RS K W) {d : D} {v : V} {l : List D} (r : RD K W d v) (h : seqD W.S d = some l) : ∃ a vs, v = .ref a ∧ (SqL K W.H a vs ∨ SqT K W.H a vs) ∧ RDs K W l vs := by
  unfold seqD at h
  split at h
  · cases h; cases r with | tup h1 h2 => exact ⟨_, _, rfl, .inr (SqT.of h1), rps_ds h2⟩
  · cases h; cases r with | ktup h1 h2 => exact ⟨_, _, rfl, .inr h1.sq, rps_ds h2⟩
  · cases h; cases r with | ftup h1 _ h2 => exact ⟨_, _, rfl, .inr h1.sq, rps_ds h2⟩
  · cases h; cases r with | lst h1 _ h2 => exact ⟨_, _, rfl, .inl (SqL.of h1), rps_ds h2⟩
  · cases h; cases r with | flst h1 h2 => exact ⟨_, _, rfl, .inl (flst_sq h1), rps_ds h2⟩
  · rename_i i
    obtain ⟨a, ea, rfl⟩ := r
    split at h
    · rename_i l' el
      cases h
      obtain ⟨vs, h1, h2⟩ := s.obj i _ a el ea
      exact ⟨a, vs, rfl, .inl (SqL.of h1), h2⟩
    · cases h
  · cases h
theorem call_lenK {X : Cx} : CallR X (.builtin "len") (fun xs H Q => ∃ a kvs, xs = [.ref a] ∧ Rd H a (.dK kvs) ∧ Q (.int kvs.length) H) := by
  intro pins s σ H xs us Q I r h
  obtain ⟨a, kvs, rfl, hd, q⟩ := h
  obtain ⟨u, rfl, ru⟩ := vals1 r
  cases ru
  exact d_len I hd fun t s' I' => ⟨.int _, H, I', ⟨t, rfl⟩, q⟩
theorem paired_length {α β : Type} {F : α → β → Prop} {xs : List α} {ys : List β} (h : Paired F xs ys) : xs.length = ys.length := Paired.length h
theorem f_len {X : Cx} : Fun1 X (.builtin "len") gLen := by
  refine ⟨_, CallR.or call_len_str (CallR.or call_len_seq call_lenK), ?_⟩
  intro W xs vs z S' Q s r e q
  unfold gLen at e
  split at e
  · rename_i z'
    split at e
    · rename_i h
      cases e
      cases r with
      | cons a t =>
        cases t
        cases a
        exact .inl ⟨z', rfl, h, q W _ (To.refl s) (.int _)⟩
    · cases e
  · rename_i x hne
    cases r with
    | cons a t =>
      cases t
      split at e
      · rename_i l el
        cases e
        obtain ⟨b, ws, rfl, h1, h2⟩ := seqD_ok s a el
        refine .inr (.inl ⟨b, ws, rfl, h1, ?_⟩)
        rw [← rds_length h2]
        exact q W _ (To.refl s) (.int _)
      · split at e
        · rename_i l el
          cases e
          obtain ⟨b, rfl, kvs, h1, h2⟩ := dictD_ok s a el
          refine .inr (.inr ⟨b, kvs, rfl, h1, ?_⟩)
          rw [← paired_length h2]
          exact q W _ (To.refl s) (.int _)
        · cases e
  · cases e
/-! ### isinstance -/
def tyP : P → String
  | .non => "NoneType" | .bl _ => "bool" | .int _ => "int" | .str _ => "str" | .ty _ => "type"
  | .tup _ => "tuple" | .ktup _ => "tuple" | .ftup _ => "tuple" | .lst _ => "list" | .flst _ => "list" | .dK _ => "dict" | .dT _ => "?"
def tyDo : DO → String
  | .lst _ => "list" | .dK _ => "dict" | .dT _ => "dict" | .kK _ => "dict" | .tpl _ => "tuple" | _ => "?"
def tyD (S : DH) : D → String
  | .p x => tyP x
  | .ref i => match S[i]? with
    | some o => tyDo o
    | none => "?"
def isiOk (a b : String) : Bool := ["NoneType", "bool", "int", "str", "tuple", "list", "dict"].contains a && ["str", "tuple", "list", "int", "bool", "dict"].contains b
def isi (a b : String) : Bool := a == b || (a == "bool" && b == "int")
theorem isi_ok {a b : String} (h : isiOk a b = true) : kitB a b = some (isi a b) := by
  unfold isiOk at h
  rw [Bool.and_eq_true, List.contains_iff_mem, List.contains_iff_mem] at h
  obtain ⟨h1, h2⟩ := h
  simp only [List.mem_cons, List.not_mem_nil, or_false] at h1 h2
  rcases h1 with rfl | rfl | rfl | rfl | rfl | rfl | rfl <;> rcases h2 with rfl | rfl | rfl | rfl | rfl | rfl <;> decide +kernel
def gIsi : GN := fun xs S => match xs with
  | [x, .p (.ty b)] => if isiOk (tyD S x) b = true then some (.p (.bl (isi (tyD S x) b)), S) else none
  | _ => none
theorem tyD_ok {K : PySem.W.Frag} {W : Wd} (s : RS K W) {x : D} {v : V} {b : String} (r : RD K W x v) (h : isiOk (tyD W.S x) b = true) : TyX K W.H v (.type (tyD W.S x)) := by
  cases x with
  | p x =>
    cases r with
    | non => exact .base .non
    | bl b => exact .base (.bl b)
    | int i => exact .base (.int i)
    | str i => exact .base (.str i)
    | ty n => exact absurd h (by unfold isiOk tyD tyP; simp)
    | tup h1 _ => exact .base (.tup h1)
    | ktup h1 _ => obtain ⟨o, its, n, h1, h2, _⟩ := h1; exact .kTuple h1 h2
    | ftup h1 _ _ => obtain ⟨o, h1, _⟩ := h1; exact .fTuple h1
    | lst h1 _ _ => exact .base (.lst h1)
    | flst h1 _ =>
      rcases h1 with ⟨⟨o, h1⟩, _⟩ | ⟨o, its, n, h1, h2, _⟩
      · exact .base (.frz h1)
      · exact .kList h1 h2
    | dK h1 _ _ =>
      obtain ⟨o, h1⟩ := h1
      exact .fDict h1
    | dT h1 _ _ => exact absurd h (by unfold isiOk tyD tyP; simp)
  | ref i =>
    obtain ⟨a, ea, rfl⟩ := r
    have e : tyD W.S (.ref i) = (match W.S[i]? with | some o => tyDo o | none => "?") := rfl
    cases el : W.S[i]? with
    | none => rw [e, el] at h; exact absurd h (by simp [isiOk])
    | some o =>
      rw [e, el] at h ⊢
      have ro := s.obj i o a el ea
      cases o with
      | lst l => obtain ⟨vs, h1, _⟩ := ro; exact .base (.lst h1)
      | dK l => obtain ⟨vs, h1, _⟩ := ro; exact .base (.dK h1)
      | dT l => obtain ⟨vs, h1, _⟩ := ro; exact .base (.dT h1)
      | kK l => obtain ⟨o, vs, h1, _⟩ := ro; exact .fDict h1
      | kT l => exact absurd h (by simp [isiOk, tyDo])
      | tpl l => obtain ⟨vs, h1, _⟩ := ro; exact .base (.tup h1)
      | dN w l => exact absurd h (by simp [isiOk, tyDo])
      | dead => exact absurd h (by simp [isiOk, tyDo])
theorem f_isi {X : Cx} : Fun1 X (.builtin "isinstance") gIsi := by
  refine ⟨_, call_isi, ?_⟩
  intro W xs vs z S' Q s r e q
  unfold gIsi at e
  split at e
  · rename_i x b
    split at e
    · rename_i h
      cases e
      cases r with
      | cons a t =>
        cases t with
        | cons c t =>
          cases t
          cases c
          exact ⟨_, _, _, _, _, rfl, .ty b, tyD_ok s a h, kit_ty (isi_ok h), q W _ (To.refl s) (.bl _)⟩
    · cases e
  · cases e
/-! ### all, any, sum -/
def allBl : List D → Option (List Bool)
  | [] => some []
  | .p (.bl b) :: r => (allBl r).map (b :: ·)
  | _ :: _ => none
def allInt : List D → Option (List Int)
  | [] => some []
  | .p (.int b) :: r => (allInt r).map (b :: ·)
  | _ :: _ => none
def allStr : List D → Option (List Str)
  | [] => some []
  | .p (.str b) :: r => (allStr r).map (b :: ·)
  | _ :: _ => none
theorem allBl_ok {K : PySem.W.Frag} {W : Wd} : ∀ {l : List D} {vs : List V} {bs : List Bool}, allBl l = some bs → RDs K W l vs → vs = bs.map V.bl
  | [], _, _, e, .nil => by cases e; rfl
  | d :: r, _, _, e, .cons a t => by
    unfold allBl at e
    split at e
    · rename_i h; cases h
    · rename_i b r' h
      cases h
      cases q : allBl r with
      | none => rw [q] at e; cases e
      | some bs => rw [q] at e; cases e; cases a; rw [allBl_ok q t]; rfl
    · cases e
theorem allInt_ok {K : PySem.W.Frag} {W : Wd} : ∀ {l : List D} {vs : List V} {bs : List Int}, allInt l = some bs → RDs K W l vs → vs = bs.map V.int
  | [], _, _, e, .nil => by cases e; rfl
  | d :: r, _, _, e, .cons a t => by
    unfold allInt at e
    split at e
    · rename_i h; cases h
    · rename_i b r' h
      cases h
      cases q : allInt r with
      | none => rw [q] at e; cases e
      | some bs => rw [q] at e; cases e; cases a; rw [allInt_ok q t]; rfl
    · cases e
theorem allStr_ok {K : PySem.W.Frag} {W : Wd} : ∀ {l : List D} {vs : List V} {bs : List Str}, allStr l = some bs → RDs K W l vs → vs = bs.map V.str
  | [], _, _, e, .nil => by cases e; rfl
  | d :: r, _, _, e, .cons a t => by
    unfold allStr at e
    split at e
    · rename_i h; cases h
    · rename_i b r' h
      cases h
      cases q : allStr r with
      | none => rw [q] at e; cases e
      | some bs => rw [q] at e; cases e; cases a; rw [allStr_ok q t]; rfl
    · cases e
def gAll : GN := fun xs S => match xs with
  | [x] => match lstD S x with
    | some l => (allBl l).map fun bs => (.p (.bl (bs.all id)), S)
    | none => none
  | _ => none
def gAny : GN := fun xs S => match xs with
  | [x] => match lstD S x with
    | some l => (allBl l).map fun bs => (.p (.bl (bs.any id)), S)
    | none => none
  | _ => none
def gSum : GN := fun xs S => match xs with
  | [x] => match lstD S x with
    | some l => (allInt l).map fun bs => (.p (.int bs.sum), S)
    | none => none
  | _ => none
theorem f_all {X : Cx} (hc : X.calm = true) : Fun1 X (.builtin "all") gAll := by
  refine ⟨_, cr_all hc, ?_⟩
  intro W xs vs z S' Q s r e q
  unfold gAll at e
  split at e
  · split at e
    · rename_i l el
      cases h : allBl l with
      | none => rw [h] at e; cases e
      | some bs =>
        rw [h] at e; cases e
        cases r with
        | cons a t =>
          cases t
          obtain ⟨b, ws, rfl, h1, h2⟩ := lstD_ok s a el
          rw [allBl_ok h h2] at h1
          exact ⟨b, bs, rfl, h1, q W _ (To.refl s) (.bl _)⟩
    · cases e
  · cases e
theorem f_any {X : Cx} (hc : X.calm = true) : Fun1 X (.builtin "any") gAny := by
  refine ⟨_, cr_any hc, ?_⟩
  intro W xs vs z S' Q s r e q
  unfold gAny at e
  split at e
  · split at e
    · rename_i l el
      cases h : allBl l with
      | none => rw [h] at e; cases e
      | some bs =>
        rw [h] at e; cases e
        cases r with
        | cons a t =>
          cases t
          obtain ⟨b, ws, rfl, h1, h2⟩ := lstD_ok s a el
          rw [allBl_ok h h2] at h1
          exact ⟨b, bs, rfl, h1, q W _ (To.refl s) (.bl _)⟩
    · cases e
  · cases e
theorem f_sum {X : Cx} (hc : X.calm = true) : Fun1 X (.builtin "sum") gSum := by
  refine ⟨_, cr_sum hc, ?_⟩
  intro W xs vs z S' Q s r e q
  unfold gSum at e
  split at e
  · split at e
    · rename_i l el
      cases h : allInt l with
      | none => rw [h] at e; cases e
      | some bs =>
        rw [h] at e; cases e
        cases r with
        | cons a t =>
          cases t
          obtain ⟨b, ws, rfl, h1, h2⟩ := lstD_ok s a el
          rw [allInt_ok h h2] at h1
          exact ⟨b, bs, rfl, h1, q W _ (To.refl s) (.int _)⟩
    · cases e
  · cases e
/-! ### list, tuple, int -/
def gList : GN := fun xs S => match xs with
  | [x] => match seqD S x with
    | some l => (allP l).map fun ps => (.p (.lst ps), S)
    | none => none
  | _ => none
def gListH : GN := fun xs S => match xs with
  | [x] => match seqD S x with
    | some l => some (.ref S.length, S ++ [.lst l])
    | none => none
  | _ => none
theorem f_list {X : Cx} : Fun1 X (.type "list") gList := by
  refine ⟨_, call_list_of, ?_⟩
  intro W xs vs z S' Q s r e q
  unfold gList at e
  split at e
  · split at e
    · rename_i l el
      cases h : allP l with
      | none => rw [h] at e; cases e
      | some ps =>
        rw [h] at e; cases e
        cases r with
        | cons a t =>
          cases t
          obtain ⟨b, ws, rfl, h1, h2⟩ := seqD_ok s a el
          refine ⟨b, ws, rfl, h1, fun p hp => ?_⟩
          obtain ⟨t, r⟩ := new_lst s hp (allP_rel h h2)
          exact q _ _ t r
    · cases e
  · cases e
theorem f_listH {X : Cx} : Fun1 X (.type "list") gListH := by
  refine ⟨_, call_list_of, ?_⟩
  intro W xs vs z S' Q s r e q
  unfold gListH at e
  split at e
  · split at e
    · rename_i l el
      cases e
      cases r with
      | cons a t =>
        cases t
        obtain ⟨b, ws, rfl, h1, h2⟩ := seqD_ok s a el
        refine ⟨b, ws, rfl, h1, fun p hp => ?_⟩
        obtain ⟨t, r⟩ := add_lst s hp h2
        exact q _ _ t r
    · cases e
  · cases e
theorem call_tuple_ofF {X : Cx} : CallR X (.type "tuple") (fun xs H Q => ∃ p ys, xs = [.ref p] ∧ ((SqL X.K H p ys ∧ ∀ l o, H l = none → o.dict = none → Q (.ref l) (upd H l (.frz o (.tup ys)))) ∨ (SqT X.K H p ys ∧ Q (.ref p) H))) := by
  intro pins s σ H xs us Q I r h
  obtain ⟨p, ys, rfl, h⟩ := h
  obtain ⟨u, rfl, rx⟩ := vals1 r
  cases rx
  rcases h with ⟨hq, q⟩ | ⟨hq, q⟩
  · obtain ⟨its, r', pl, hz⟩ := I.list hq
    have hlen := r'.length
    refine call_tuple_list pl.isList (fun h' kp => ?_) (by simp only [List.size_toArray] <;> omega)
    have I1 : Inv X pins σ H { s with heap := h' } := I.kept (t' := s.toks) kp
    exact ⟨.ref h'.objs.size, upd H h'.objs.size (.frz { cls := .type "tuple", data := .seq its.toArray } (.tup ys)),
      I1.laid (t' := s.toks) (fun b o e => Heap.get?_push_of_some _ e) (Nat.le_refl _) ⟨Heap.get?_push_size _ rfl, hz, its, r', IsTup.new _ _⟩, rfl, q _ _ (I1.hok.fresh (Nat.le_refl _)) rfl⟩
  · obtain ⟨its, r', pl, hz⟩ := I.tuple hq
    exact call_tuple_same pl ⟨.ref p, H, I, rfl, q⟩
theorem new_ftup {K : PySem.W.Frag} {W : Wd} {p : Addr} {o : Obj} {ps : List P} {vs : List V} (s : RS K W) (hp : W.H p = none) (ho : o.dict = none) (r : RPs K W.H W.L ps vs) : To K W W.S (W.new p (.frz o (.tup vs))) ∧ RD K (W.new p (.frz o (.tup vs))) (.p (.ftup ps)) (.ref p) := by
  have x := Ext.new (u := .frz o (.tup vs)) s hp
  exact ⟨⟨x, RS.new s hp, rfl⟩, .ftup ⟨o, upd_same, ho⟩ (RP.fresh s hp) (RPs.mono x.keep x.tups r)⟩
def gTuple : GN := fun xs S => match xs with
  | [.p (.tup l)] => some (.p (.tup l), S)
  | [.p (.ktup l)] => some (.p (.ktup l), S)
  | [.p (.ftup l)] => some (.p (.ftup l), S)
  | [x] => match lstD S x with
    | some l => (allP l).map fun ps => (.p (.ftup ps), S)
    | none => none
  | _ => none
theorem f_tuple {X : Cx} : Fun1 X (.type "tuple") gTuple := by
  refine ⟨_, call_tuple_ofF, ?_⟩
  intro W xs vs z S' Q s r e q
  unfold gTuple at e
  split at e
  · cases e
    cases r with
    | cons a t =>
      cases t
      cases a with
      | tup h1 h2 => exact ⟨_, _, rfl, .inr ⟨SqT.of h1, q W _ (To.refl s) (.tup h1 h2)⟩⟩
  · cases e
    cases r with
    | cons a t =>
      cases t
      cases a with
      | ktup h1 h2 => exact ⟨_, _, rfl, .inr ⟨h1.sq, q W _ (To.refl s) (.ktup h1 h2)⟩⟩
  · cases e
    cases r with
    | cons a t =>
      cases t
      cases a with
      | ftup h1 h0 h2 => exact ⟨_, _, rfl, .inr ⟨h1.sq, q W _ (To.refl s) (.ftup h1 h0 h2)⟩⟩
  · split at e
    · rename_i l el
      cases h : allP l with
      | none => rw [h] at e; cases e
      | some ps =>
        rw [h] at e; cases e
        cases r with
        | cons a t =>
          cases t
          obtain ⟨b, ws, rfl, h1, h2⟩ := lstD_ok s a el
          refine ⟨b, ws, rfl, .inl ⟨h1, fun p o hp ho => ?_⟩⟩
          obtain ⟨t, r⟩ := new_ftup s hp ho (allP_rel h h2)
          exact q _ _ t r
    · cases e
  · cases e
def gInt : GN := fun xs S => match xs with
  | [.p (.int i)] => some (.p (.int i), S)
  | [.p (.bl b)] => some (.p (.int (if b then 1 else 0)), S)
  | _ => none
theorem f_int {X : Cx} : Fun1 X (.type "int") gInt := by
  refine ⟨_, call_int1, ?_⟩
  intro W xs vs z S' Q s r e q
  unfold gInt at e
  split at e
  · cases e
    cases r with
    | cons a t => cases t; cases a; exact .inl ⟨_, rfl, q W _ (To.refl s) (.int _)⟩
  · cases e
    cases r with
    | cons a t => cases t; cases a; exact .inr ⟨_, rfl, q W _ (To.refl s) (.int _)⟩
  · cases e

/-! ### methods -/
def Meth1 (X : Cx) (id : String) (g : GM) : Prop := ∃ r, MtR X id r ∧ VRM X.K g r
def altM (g h : GM) : GM := fun x xs S => match g x xs S with
  | some r => some r
  | none => h x xs S
theorem Meth1.alt {X : Cx} {id : String} {g g' : GM} (h : Meth1 X id g) (h' : Meth1 X id g') : Meth1 X id (altM g g') := by
  obtain ⟨r, h1, h2⟩ := h
  obtain ⟨r', h3, h4⟩ := h'
  refine ⟨_, MtR.or h1 h3, ?_⟩
  intro W x v xs vs z S' Q s r1 r2 e q
  unfold altM at e
  split at e
  · rename_i z' e'
    cases e
    exact .inl (h2 W x v xs vs z S' Q s r1 r2 e' q)
  · exact .inr (h4 W x v xs vs z S' Q s r1 r2 e q)
section
variable {X : Cx} {o e : Expr} {es : List Expr} {fo : FE} {fs : FA} {name : Str} {apos cpos : Pos} {T id : String} {g : GM}
theorem de_m (pa : PlainAttrs T) (slot : Slot T name id) (hty : typeOf (.builtin id) = pure (.type "method_descriptor")) (hm : Meth1 X id g) (ho : DE X o fo) (ha : DA X (e :: es) fs)
    (hbase : attributeBase o name X.env (eval o X.env) = eval o X.env := by rfl)
    (hfew : ((backTo cpos (starEach (e :: es) X.env)).all (fun x => !x.1) && (backToKw cpos (keywordEach [] X.env)).all (fun x => x.1.isSome)
      && decide ((e :: es).length + ([] : List Keyword).length + (if ([] : List Keyword).isEmpty then 0 else 1) < 30)) = true := by rfl)
    (hline : (apos.endLine == cpos.line) = true := by rfl) (hs : starEach (e :: es) X.env = (false, eval e X.env) :: starEach es X.env := by rfl) (hplain : (backTo cpos (starEach es X.env)).any (·.1) = false := by rfl) :
    DE X (.Call (.Attribute o name apos) (e :: es) [] cpos) (fMeth T g fo fs) := by
  obtain ⟨r, h1, h2⟩ := hm
  exact de_meth pa slot hty h1 h2 ho ha hbase hfew hline hs hplain
theorem de_m0 (pa : PlainAttrs T) (slot : Slot T name id) (hty : typeOf (.builtin id) = pure (.type "method_descriptor")) (hm : Meth1 X id g) (ho : DE X o fo)
    (hbase : attributeBase o name X.env (eval o X.env) = eval o X.env := by rfl) (hline : (apos.endLine == cpos.line) = true := by rfl) :
    DE X (.Call (.Attribute o name apos) [] [] cpos) (fMeth T g fo aNil) := by
  obtain ⟨r, h1, h2⟩ := hm
  exact de_meth0 pa slot hty h1 h2 ho hbase hline
end
section
variable {K : PySem.W.Frag} {W : Wd}
theorem put_lst {i : Nat} {a : Addr} {l l' : List D} {vs' : List V} (s : RS K W) (e1 : W.ι[i]? = some a) (e2 : W.S[i]? = some (.lst l)) (r : RDs K W l' vs') (b : l'.all (D.below W.S.length) = true) : To K W (W.S.set i (.lst l')) (W.put i a (.lst vs') (.lst l')) := by
  have x := Ext.put (u := .lst vs') (o' := .lst l') s e1 e2 rfl
  exact ⟨x, s.put e1 e2 rfl ⟨vs', upd_same, r.ext x⟩ b, rfl⟩
theorem wf_lst {i : Nat} {l : List D} (s : RS K W) (e2 : W.S[i]? = some (.lst l)) : l.all (D.below W.S.length) = true := s.wf i _ e2
end
def gAppend : GM := fun x xs S => match x, xs with
  | .ref i, [d] => match S[i]? with
    | some (.lst l) => if l.length < sizeLine ∧ d.below S.length = true then some (.p .non, S.set i (.lst (l ++ [d]))) else none
    | _ => none
  | _, _ => none
theorem m_append {X : Cx} : Meth1 X "list.append" gAppend := by
  refine ⟨_, mt_append, ?_⟩
  intro W x v xs vs z S' Q s r1 r2 e q
  unfold gAppend at e
  split at e
  · rename_i i d
    split at e
    · rename_i l el
      split at e
      · rename_i h
        cases e
        obtain ⟨a, ea, rfl⟩ := r1
        cases r2 with
        | cons rd t =>
          cases t
          obtain ⟨us, h1, h2⟩ := s.obj i _ a el ea
          refine ⟨a, us, _, rfl, rfl, h1, by rw [← rds_length h2]; exact h.1, ?_⟩
          exact q _ _ (put_lst s ea el (Paired.app h2 (.cons rd .nil)) (by rw [List.all_append, wf_lst s el]; simp [h.2])) .non
      · cases e
    · cases e
  · cases e
theorem rds_erase {l : List D} {vs : List V} {K : PySem.W.Frag} {W : Wd} (h : RDs K W l vs) : ∀ k : Nat, RDs K W (l.eraseIdx k) (vs.eraseIdx k) := by
  induction h with
  | nil => intro k; simp; exact .nil
  | cons a t ih => intro k; cases k with
    | zero => exact t
    | succ k => exact .cons a (ih k)
theorem all_erase {α : Type} {p : α → Bool} : ∀ {l : List α} {k : Nat}, l.all p = true → (l.eraseIdx k).all p = true
  | [], _, h => by simp
  | a :: r, 0, h => by rw [List.all_cons, Bool.and_eq_true] at h; exact h.2
  | a :: r, k + 1, h => by
    rw [List.all_cons, Bool.and_eq_true] at h
    rw [List.eraseIdx_cons_succ, List.all_cons, h.1, all_erase h.2]; rfl
def gPopAt : GM := fun x xs S => match x, xs with
  | .ref i, [.p (.int j)] => match S[i]? with
    | some (.lst l) => if -(2 ^ 63) ≤ j ∧ j < 2 ^ 63 then (match ixN l.length j with
      | some k => match l[k]? with
        | some d => some (d, S.set i (.lst (l.eraseIdx k)))
        | none => none
      | none => none) else none
    | _ => none
  | _, _ => none
theorem m_popAt {X : Cx} : Meth1 X "list.pop" gPopAt := by
  refine ⟨_, mt_popAt, ?_⟩
  intro W x v xs vs z S' Q s r1 r2 e q
  unfold gPopAt at e
  split at e
  · rename_i i j
    split at e
    · rename_i l el
      split at e
      · rename_i h
        split at e
        · rename_i k ek
          split at e
          · rename_i d ed
            cases e
            obtain ⟨a, ea, rfl⟩ := r1
            cases r2 with
            | cons rd t =>
              cases t
              cases rd
              obtain ⟨us, h1, h2⟩ := s.obj i _ a el ea
              obtain ⟨u, h3, h4⟩ := rds_get h2 ed
              have t := put_lst s ea el (rds_erase h2 k) (all_erase (wf_lst s el))
              exact ⟨a, us, j, k, u, rfl, rfl, h1, h.1, h.2, by rw [← rds_length h2]; exact (ixN_seq ek).1, h3, q _ _ t (h4.ext t.x)⟩
          · cases e
        · cases e
      · cases e
    · cases e
  · cases e
def gPop : GM := fun x xs S => match x, xs with
  | .ref i, [] => match S[i]? with
    | some (.lst l) => match l[l.length - 1]? with
      | some d => some (d, S.set i (.lst l.dropLast))
      | none => none
    | _ => none
  | _, _ => none
theorem m_pop {X : Cx} : Meth1 X "list.pop" gPop := by
  refine ⟨_, mt_pop, ?_⟩
  intro W x v xs vs z S' Q s r1 r2 e q
  unfold gPop at e
  split at e
  · rename_i i
    split at e
    · rename_i l el
      split at e
      · rename_i d ed
        cases e
        obtain ⟨a, ea, rfl⟩ := r1
        cases r2
        obtain ⟨us, h1, h2⟩ := s.obj i _ a el ea
        have hl := rds_length h2
        obtain ⟨u, h3, h4⟩ := rds_get h2 ed
        have de : ∀ {α : Type} (l : List α), l.dropLast = l.eraseIdx (l.length - 1) := fun l => by
          rw [List.eraseIdx_eq_take_drop_succ, List.dropLast_eq_take]
          cases l with
          | nil => rfl
          | cons x r => rw [List.drop_of_length_le (by simp), List.append_nil]
        have rd : RDs X.K W l.dropLast us.dropLast := by rw [de l, de us, ← hl]; exact rds_erase h2 _
        have t := put_lst s ea el rd (by rw [de l]; exact all_erase (wf_lst s el))
        exact ⟨a, us, u, rfl, rfl, h1, by rw [← hl]; exact h3, q _ _ t (h4.ext t.x)⟩
      · cases e
    · cases e
  · cases e
def gExtend : GM := fun x xs S => match x, xs with
  | .ref i, [y] => match S[i]? with
    | some (.lst l) => match lstE S y with
      | some m => if l.length + m.length ≤ sizeLine ∧ m.all (D.below S.length) = true then some (.p .non, S.set i (.lst (l ++ m))) else none
      | none => none
    | _ => none
  | _, _ => none
theorem m_extend {X : Cx} : Meth1 X "list.extend" gExtend := by
  refine ⟨_, mt_extend, ?_⟩
  intro W x v xs vs z S' Q s r1 r2 e q
  unfold gExtend at e
  split at e
  · rename_i i y
    split at e
    · rename_i l el
      split at e
      · rename_i m em
        split at e
        · rename_i h
          cases e
          obtain ⟨a, ea, rfl⟩ := r1
          cases r2 with
          | cons rd t =>
            cases t
            obtain ⟨us, h1, h2⟩ := s.obj i _ a el ea
            obtain ⟨b, ws, rfl, h3, h4⟩ := lstE_ok s rd em
            refine ⟨a, b, us, ws, rfl, rfl, h1, h3, by rw [← rds_length h2, ← rds_length h4]; exact h.1, ?_⟩
            exact q _ _ (put_lst s ea el (Paired.app h2 h4) (by rw [List.all_append, wf_lst s el, h.2]; rfl)) .non
        · cases e
      · cases e
    · cases e
  · cases e
/-! sep.join(list of texts) -/
def gJoin : GM := fun x xs S => match x, xs with
  | .p (.str a), [y] => match seqD S y with
    | some l => match allStr l with
      | some ys => if (ys.map (·.length)).sum + ys.length * a.length ≤ 16777216 then some (.p (.str (Txt.join a ys)), S) else none
      | none => none
    | none => none
  | _, _ => none
theorem m_join {X : Cx} : Meth1 X "str.join" gJoin := by
  refine ⟨_, mt_join, ?_⟩
  intro W x v xs vs z S' Q s r1 r2 e q
  unfold gJoin at e
  split at e
  · rename_i a y
    split at e
    · rename_i l el
      split at e
      · rename_i ys ey
        split at e
        · rename_i h
          cases e
          cases r1
          cases r2 with
          | cons rd t =>
            cases t
            obtain ⟨b, ws, rfl, h1, h2⟩ := seqD_ok s rd el
            rw [allStr_ok ey h2] at h1
            exact ⟨a, b, ys, rfl, rfl, h1, h, q W _ (To.refl s) (.str _)⟩
        · cases e
      · cases e
    · cases e
  · cases e

/-! ### o[i] = e -/
theorem PSet.or {X : Cx} {t t' : TSet} (h : PSet X t) (h' : PSet X t') : PSet X (fun o i v H Q => t o i v H Q ∨ t' o i v H Q) := by
  intro pins s σ H o i v ov iv u Q I r1 r2 r3 q
  rcases q with q | q
  · exact h pins s σ H o i v ov iv u Q I r1 r2 r3 q
  · exact h' pins s σ H o i v ov iv u Q I r1 r2 r3 q
theorem set_dict {X : Cx} (hu : X.A.units + 1 < cLine) : PSet X (fun o i v H Q => ∃ a H', o = .ref a ∧ DPut H a i v H' ∧ Q H') := by
  intro pins s σ H o i v ov iv u Q I r1 r2 r3 q
  obtain ⟨a, H', rfl, g, q⟩ := q
  obtain rfl : ov = Value.ref a := r1
  exact d_setItem hu I g r2 r3 fun s4 I4 => ⟨H', I4, q⟩
def gSetL : G3 := fun o i x S => match o, i with
  | .ref n, .p (.int k) => match S[n]? with
    | some (.lst l) => match ixN l.length k with
      | some j => if x.below S.length = true then some (S.set n (.lst (l.set j x))) else none
      | none => none
    | _ => none
  | _, _ => none
theorem rds_set {l : List D} {vs : List V} {K : PySem.W.Frag} {W : Wd} (h : RDs K W l vs) {x : D} {v : V} (r : RD K W x v) : ∀ k : Nat, RDs K W (l.set k x) (vs.set k v) := by
  induction h with
  | nil => intro k; simp; exact .nil
  | cons a t ih => intro k; cases k with
    | zero => exact .cons r t
    | succ k => exact .cons a (ih k)
theorem all_set {α : Type} {p : α → Bool} {x : α} (hx : p x = true) : ∀ {l : List α} {k : Nat}, l.all p = true → (l.set k x).all p = true
  | [], _, h => by simp
  | a :: r, 0, h => by rw [List.all_cons, Bool.and_eq_true] at h; rw [List.set_cons_zero, List.all_cons, hx, h.2]; rfl
  | a :: r, k + 1, h => by
    rw [List.all_cons, Bool.and_eq_true] at h
    rw [List.set_cons_succ, List.all_cons, h.1, all_set hx h.2]; rfl
theorem vr_setL {K : PySem.W.Frag} : VR3 K gSetL rSetL := by
  intro W o i x vo vi vx S' Q s r1 r2 r3 e q
  unfold gSetL at e
  split at e
  · rename_i n k
    split at e
    · rename_i l el
      split at e
      · rename_i j ej
        split at e
        · rename_i h
          cases e
          obtain ⟨a, ea, rfl⟩ := r1
          cases r2
          obtain ⟨us, h1, h2⟩ := s.obj n _ a el ea
          exact ⟨a, us, k, j, rfl, rfl, h1, by rw [← rds_length h2]; exact ej, q _ (put_lst s ea el (rds_set h2 r3 j) (all_set h (wf_lst s el)))⟩
        · cases e
      · cases e
    · cases e
  · cases e
def dput {κ α : Type} [DecidableEq κ] (kvs : List (κ × α)) (k : κ) (v : α) : List (κ × α) :=
  if (kvs.any fun kv => decide (kv.1 = k)) = true then kvs.map (fun kv => if kv.1 = k then (kv.1, v) else kv) else kvs ++ [(k, v)]
theorem dput_rel {κ : Type} [DecidableEq κ] {K : PySem.W.Frag} {W : Wd} {l : List (κ × D)} {kvs : List (κ × V)} (h : RDk K W l kvs) (k : κ) {x : D} {v : V} (r : RD K W x v) : RDk K W (dput l k x) (putK kvs k v) := by
  have any : ∀ {l : List (κ × D)} {kvs : List (κ × V)}, RDk K W l kvs → (l.any fun kv => decide (kv.1 = k)) = kvs.any fun kv => decide (kv.1 = k) := by
    intro l kvs h
    induction h with
    | nil => rfl
    | cons a _ ih => rw [List.any_cons, List.any_cons, ih, a.1]
  have map : ∀ {l : List (κ × D)} {kvs : List (κ × V)}, RDk K W l kvs → RDk K W (l.map fun kv => if kv.1 = k then (kv.1, x) else kv) (kvs.map fun kv => if kv.1 = k then (kv.1, v) else kv) := by
    intro l kvs h
    induction h with
    | nil => exact .nil
    | @cons p q _ _ a _ ih =>
      refine .cons ?_ ih
      dsimp only
      by_cases hk : p.1 = k
      · rw [if_pos hk, if_pos (a.1 ▸ hk)]; exact ⟨a.1, r⟩
      · rw [if_neg hk, if_neg (a.1 ▸ hk)]; exact a
  unfold dput putK
  rw [any h]
  split
  · exact map h
  · exact Paired.app h (.cons ⟨rfl, r⟩ .nil)
theorem dput_below {κ : Type} [DecidableEq κ] {l : List (κ × D)} {n : Nat} {k : κ} {x : D} (h : (l.all fun q => q.2.below n) = true) (hx : x.below n = true) : ((dput l k x).all fun q => q.2.below n) = true := by
  unfold dput
  split
  · rw [List.all_map]
    rw [List.all_eq_true] at h ⊢
    intro q hq
    show ((if q.1 = k then (q.1, x) else q).2.below n) = true
    split
    · exact hx
    · exact h q hq
  · rw [List.all_append, h]; simp [hx]
def gSetK : G3 := fun o i x S => match o with
  | .ref n => match S[n]?, keyD i with
    | some (.dK l), some (.inl k) => if l.length < sizeLine ∧ x.below S.length = true then some (S.set n (.dK (dput l k x))) else none
    | some (.dT l), some (.inr k) => if l.length < sizeLine ∧ x.below S.length = true then some (S.set n (.dT (dput l k x))) else none
    | _, _ => none
  | _ => none
theorem keyD_l {K : PySem.W.Frag} {W : Wd} {d : D} {w : V} {k' : Key} (r2 : RD K W d w) (e2 : keyD d = some (.inl k')) : w = kV k' := by
  unfold keyD at e2
  split at e2
  · cases e2; cases r2; rfl
  · cases e2; cases r2; rfl
  · rename_i l
    cases h : keysP l with
    | none => rw [h] at e2; cases e2
    | some ks => rw [h] at e2; cases e2
  · cases e2
theorem keyD_r {K : PySem.W.Frag} {W : Wd} {d : D} {w : V} {ks : List Key} (r2 : RD K W d w) (e2 : keyD d = some (.inr ks)) : ∃ b, w = .ref b ∧ W.H b = some (.tup (ks.map kV)) := by
  unfold keyD at e2
  split at e2
  · cases e2
  · cases e2
  · rename_i l
    cases h : keysP l with
    | none => rw [h] at e2; cases e2
    | some ks =>
      rw [h] at e2; cases e2
      cases r2 with
      | tup h3 h4 =>
        have := keysP_ok h4 h
        subst this
        exact ⟨_, rfl, h3⟩
  · cases e2
theorem vr_setK {K : PySem.W.Frag} : VR3 K gSetK (fun o i v H Q => ∃ a H', o = .ref a ∧ DPut H a i v H' ∧ Q H') := by
  intro W o i x vo vi vx S' Q s r1 r2 r3 e q
  unfold gSetK at e
  split at e
  · rename_i n
    obtain ⟨a, ea, rfl⟩ := r1
    split at e
    · rename_i l k el ek
      split at e
      · rename_i h
        cases e
        obtain ⟨kvs, h1, h2⟩ := s.obj n _ a el ea
        have hk := keyD_l r2 ek
        subst hk
        have xx := Ext.put (u := .dK (putK kvs k vx)) (o' := .dK (dput l k x)) s ea el rfl
        exact ⟨a, _, rfl, .inl ⟨kvs, k, h1, rfl, by rw [← paired_length h2]; exact h.1, rfl⟩,
          q _ ⟨xx, s.put ea el rfl ⟨_, upd_same, RDk.ext xx (dput_rel h2 k r3)⟩ (dput_below (s.wf n _ el) h.2), rfl⟩⟩
      · cases e
    · rename_i l k el ek
      split at e
      · rename_i h
        cases e
        obtain ⟨kvs, h1, h2⟩ := s.obj n _ a el ea
        obtain ⟨b, rfl, hb⟩ := keyD_r r2 ek
        have xx := Ext.put (u := .dT (putK kvs k vx)) (o' := .dT (dput l k x)) s ea el rfl
        exact ⟨a, _, rfl, .inr ⟨kvs, k, b, h1, rfl, hb, by rw [← paired_length h2]; exact h.1, rfl⟩,
          q _ ⟨xx, s.put ea el rfl ⟨_, upd_same, RDk.ext xx (dput_rel h2 k r3)⟩ (dput_below (s.wf n _ el) h.2), rfl⟩⟩
      · cases e
    · cases e
  · cases e
def gSetA : G3 := fun o i x S => match gSetL o i x S with
  | some r => some r
  | none => gSetK o i x S
theorem dg_item {X : Cx} {o i : Expr} {fo fi : FE} {pos : Pos} (hu : X.A.units + 1 < cLine) (ho : DE X o fo) (hi : DE X i fi)
    (ha : ∀ v, assign (.Subscript o i pos) X.env v = (do
      let ov ← holding [v] (eval o X.env)
      let iv ← holding [v, ov] (eval i X.env)
      standAt pos
      holding [v, ov, iv] (setItem ov iv v)
      release [v, ov, iv] []) := by intro _; rfl) : DG X (.Subscript o i pos) (gSet fo fi gSetA) := by
  refine dg_sub ho hi (PSet.or set_list (set_dict hu)) ?_ ha
  intro W o i x vo vi vx S' Q s r1 r2 r3 e q
  unfold gSetA at e
  split at e
  · rename_i r er
    cases e
    exact .inl (vr_setL W o i x vo vi vx _ Q s r1 r2 r3 er q)
  · exact .inr (vr_setK W o i x vo vi vx _ Q s r1 r2 r3 e q)
end CK
/-! CkK: what is walked: lists, tuples, texts, ranges, enumerate, zip. -/
namespace CK
open PySem PySem.Spec PyProof.Rows L2

theorem PI.or {X : Cx} {tg iter : Expr} {t t' : TI} (h : PI X tg iter t) (h' : PI X tg iter t') : PI X tg iter (fun σ H R => t σ H R ∨ t' σ H R) := ⟨fun pins s σ H R I q => by
  rcases q with q | q
  · exact h.run pins s σ H R I q
  · exact h'.run pins s σ H R I q⟩
def sgns (z : Str) : List P := z.cps.toList.map fun c => .str ⟨#[c]⟩
/-- the items of what is walked; what must stay as it is -/
def itD (S : DH) : D → Option (List D × (DH → Prop))
  | .p (.tup l) => some (l.map .p, fun _ => True)
  | .p (.ktup l) => some (l.map .p, fun _ => True)
  | .p (.ftup l) => some (l.map .p, fun _ => True)
  | .p (.lst l) => some (l.map .p, fun _ => True)
  | .p (.flst l) => some (l.map .p, fun _ => True)
  | .p (.str z) => some ((sgns z).map .p, fun _ => True)
  | .ref i => match S[i]? with
    | some (.lst l) => some (l, fun S => S[i]? = some (.lst l))
    | _ => none
  | _ => none
def fIt (fe : FE) : FI := fun ds S => match fe ds S with
  | none => none
  | some (d, S1) => match itD S1 d with
    | none => none
    | some (l, chk) => some (l, chk, S1)
section
variable {K : PySem.W.Frag} {W0 : Wd} {its : List D} {chk : DH → Prop}
theorem wk_list {a : Addr} (h : ∀ W, Ext W0 W → RS K W → chk W.S → ∃ vs, SqL K W.H a vs ∧ RDs K W its vs) : Wk K W0 its chk (Itl K a) where
  go := fun W i d x s hc e => by
    obtain ⟨vs, h1, h2⟩ := h W x s hc
    obtain ⟨v, h3, h4⟩ := rds_get h2 e
    refine ⟨⟨vs, v, h1, h3⟩, fun u H' y => ?_⟩
    obtain ⟨e1, y⟩ := y
    have := y vs h1
    rw [h3] at this; cases this
    exact ⟨W, e1.symm, To.refl s, h4⟩
  stop := fun W x s hc => by
    obtain ⟨vs, h1, h2⟩ := h W x s hc
    exact ⟨vs, h1, by rw [rds_length h2]; exact Nat.le_refl _⟩
theorem wk_tup {a : Addr} (h : ∀ W, Ext W0 W → RS K W → chk W.S → ∃ vs, SqT K W.H a vs ∧ RDs K W its vs) : Wk K W0 its chk (Itt K a) where
  go := fun W i d x s hc e => by
    obtain ⟨vs, h1, h2⟩ := h W x s hc
    obtain ⟨v, h3, h4⟩ := rds_get h2 e
    refine ⟨⟨vs, v, h1, h3⟩, fun u H' y => ?_⟩
    obtain ⟨e1, y⟩ := y
    have := y vs h1
    rw [h3] at this; cases this
    exact ⟨W, e1.symm, To.refl s, h4⟩
  stop := fun W x s hc => by
    obtain ⟨vs, h1, h2⟩ := h W x s hc
    exact ⟨vs, h1, by rw [rds_length h2]; exact Nat.le_refl _⟩
theorem wk_str {z : Str} : Wk K W0 ((sgns z).map .p) (fun _ => True) (Its z) where
  go := fun W i d x s hc e => by
    have hi : i < z.cps.size := by
      have := get_lt e
      simpa [sgns] using this
    refine ⟨hi, fun u H' y => ?_⟩
    obtain ⟨e1, c, hc, rfl⟩ := y
    refine ⟨W, e1.symm, To.refl s, ?_⟩
    have e2 : ((sgns z).map D.p)[i]? = some (.p (.str ⟨#[c]⟩)) := by
      simp only [sgns, List.map_map, List.getElem?_map, Array.getElem?_toList, hc]
      rfl
    rw [e] at e2
    cases e2
    exact .str _
  stop := fun W x s hc => by
    show z.cps.size ≤ ((sgns z).map D.p).length
    simp [sgns]
def rangeD (lo : Int) (n : Nat) : List D := (List.range n).map fun (i : Nat) => .p (.int (lo + (i : Int)))
theorem rangeD_get {lo : Int} {n i : Nat} {d : D} (e : (rangeD lo n)[i]? = some d) : i < n ∧ d = .p (.int (lo + (i : Int))) := by
  have hi := get_lt e
  have hi' : i < n := by simpa [rangeD] using hi
  refine ⟨hi', ?_⟩
  unfold rangeD at e
  rw [List.getElem?_map, List.getElem?_range hi'] at e
  cases e; rfl
theorem wk_range {lo : Int} {n : Nat} : Wk K W0 (rangeD lo n) (fun _ => True) (Itr lo n) where
  go := fun W i d x s hc e => by
    obtain ⟨hi, rfl⟩ := rangeD_get e
    refine ⟨hi, fun u H' y => ?_⟩
    obtain ⟨e1, rfl⟩ := y
    exact ⟨W, e1.symm, To.refl s, .int _⟩
  stop := fun W x s hc => by
    show n ≤ (rangeD lo n).length
    simp [rangeD]
end
theorem di_it {X : Cx} {tg e : Expr} {fe : FE} (he : DE X e fe) : DI X tg e (fIt fe) := PI.imp (PI.or (pi_list he) (PI.or (pi_tup he) (pi_str he))) fun σ H R ⟨W, ds, its, chk, S', eH, s, re, e, q⟩ => by
  unfold fIt at e
  split at e
  · cases e
  rename_i d S1 e1
  split at e
  · cases e
  rename_i l chk' e2
  cases e
  cases d with
  | p x =>
    cases x with
    | tup l =>
      cases e2
      refine .inr (.inl ⟨W, ds, _, _, eH, s, re, e1, fun W1 v t1 r1 => ?_⟩)
      have r0 := r1
      cases r1 with
      | @tup a vs _ h1 h2 =>
        refine ⟨a, rfl, ⟨vs, SqT.of h1⟩, q W1 _ t1 (wk_tup fun W2 x2 s2 _ => ?_)⟩
        have r2 := r0.ext x2
        cases r2 with
        | tup h3 h4 => exact ⟨_, SqT.of h3, rps_ds h4⟩
    | ktup l =>
      cases e2
      refine .inr (.inl ⟨W, ds, _, _, eH, s, re, e1, fun W1 v t1 r1 => ?_⟩)
      have r0 := r1
      cases r1 with
      | @ktup a vs _ h1 h2 =>
        refine ⟨a, rfl, ⟨vs, h1.sq⟩, q W1 _ t1 (wk_tup fun W2 x2 s2 _ => ?_)⟩
        have r2 := r0.ext x2
        cases r2 with
        | ktup h3 h4 => exact ⟨_, h3.sq, rps_ds h4⟩
    | ftup l =>
      cases e2
      refine .inr (.inl ⟨W, ds, _, _, eH, s, re, e1, fun W1 v t1 r1 => ?_⟩)
      have r0 := r1
      cases r1 with
      | @ftup a vs _ h1 _ h2 =>
        refine ⟨a, rfl, ⟨vs, h1.sq⟩, q W1 _ t1 (wk_tup fun W2 x2 s2 _ => ?_)⟩
        have r2 := r0.ext x2
        cases r2 with
        | ftup h3 _ h4 => exact ⟨_, h3.sq, rps_ds h4⟩
    | lst l =>
      cases e2
      refine .inl ⟨W, ds, _, _, eH, s, re, e1, fun W1 v t1 r1 => ?_⟩
      have r0 := r1
      cases r1 with
      | @lst a vs _ h1 _ h2 =>
        refine ⟨a, rfl, ⟨vs, SqL.of h1⟩, q W1 _ t1 (wk_list fun W2 x2 s2 _ => ?_)⟩
        have r2 := r0.ext x2
        cases r2 with
        | lst h3 _ h4 => exact ⟨_, SqL.of h3, rps_ds h4⟩
    | flst l =>
      cases e2
      refine .inl ⟨W, ds, _, _, eH, s, re, e1, fun W1 v t1 r1 => ?_⟩
      have r0 := r1
      cases r1 with
      | @flst a vs _ h1 h2 =>
        refine ⟨a, rfl, ⟨vs, flst_sq h1⟩, q W1 _ t1 (wk_list fun W2 x2 s2 _ => ?_)⟩
        have r2 := r0.ext x2
        cases r2 with
        | flst h3 h4 => exact ⟨_, flst_sq h3, rps_ds h4⟩
    | str z =>
      cases e2
      refine .inr (.inr ⟨W, ds, _, _, eH, s, re, e1, fun W1 v t1 r1 => ?_⟩)
      cases r1
      exact ⟨z, rfl, q W1 _ t1 wk_str⟩
    | _ => cases e2
  | ref i =>
    have e2 : (match S'[i]? with
      | some (.lst l) => some (l, fun (S : DH) => S[i]? = some (.lst l))
      | _ => none) = some (its, chk) := e2
    split at e2
    · rename_i l' el
      cases e2
      refine .inl ⟨W, ds, _, _, eH, s, re, e1, fun W1 v t1 r1 => ?_⟩
      obtain ⟨a, ea, rfl⟩ := r1
      obtain ⟨vs, h1, h2⟩ := t1.s.obj i _ a (by rw [t1.e]; exact el) ea
      refine ⟨a, rfl, ⟨vs, SqL.of h1⟩, q W1 _ t1 (wk_list fun W2 x2 s2 hc => ?_)⟩
      obtain ⟨ws, h3, h4⟩ := s2.obj i _ a hc (pre_get x2.pre ea)
      exact ⟨ws, SqL.of h3, h4⟩
    · cases e2
/-! ### range -/
/-- within the bounds of a range (not to be reckoned out: see CkWP) -/
noncomputable def inW (i : Int) : Bool := @decide (-(2 ^ 62) ≤ i ∧ i < 2 ^ 62) (Classical.propDecidable _)
theorem inW_ok {i : Int} (h : inW i = true) : -(2 ^ 62) ≤ i ∧ i < 2 ^ 62 := @of_decide_eq_true _ (Classical.propDecidable _) h
theorem inW_of {i : Int} (h1 : -(2 ^ 62) ≤ i) (h2 : i < 2 ^ 62) : inW i = true := @decide_eq_true _ (Classical.propDecidable _) ⟨h1, h2⟩
noncomputable def fRange (fs : FA) : FI := fun ds S => match fs ds S with
  | some ([.p (.int j)], S1) => if inW j = true then some (rangeD 0 j.toNat, fun _ => True, S1) else none
  | some ([.p (.int i), .p (.int j)], S1) => if (inW i && inW j) = true then some (rangeD i (j - i).toNat, fun _ => True, S1) else none
  | _ => none
theorem di_range1 {X : Cx} {tg a : Expr} {fs : FA} {p pos : Pos} (hg : Gl X "range") (hm : X.mg "range" = none) (ha : DA X [a] fs) (hl : ∀ ds S l S', fs ds S = some (l, S') → l.length = 1) (hs : starEach [a] X.env = [(false, eval a X.env)] := by rfl) : DI X tg (.Call (.Name "range" p) [a] [] pos) (fRange fs) :=
  PI.imp (pi_range1 hg hm ha hs) fun σ H R ⟨W, ds, its, chk, S', eH, s, re, e, q⟩ => by
    unfold fRange at e
    split at e
    · rename_i j S1 e1
      split at e
      · rename_i h
        cases e
        refine ⟨W, ds, _, _, eH, s, re, e1, fun W1 vs t1 r1 => ?_⟩
        cases r1 with
        | cons a t =>
          cases t
          cases a
          exact ⟨j, rfl, (inW_ok h).1, (inW_ok h).2, q W1 _ t1 wk_range⟩
      · cases e
    · rename_i i j S1 e1
      have := hl _ _ _ _ e1
      simp at this
    · cases e
theorem di_range2 {X : Cx} {tg a b : Expr} {fs : FA} {p pos : Pos} (hg : Gl X "range") (hm : X.mg "range" = none) (ha : DA X [a, b] fs) (hl : ∀ ds S l S', fs ds S = some (l, S') → l.length = 2) (hs : starEach [a, b] X.env = [(false, eval a X.env), (false, eval b X.env)] := by rfl) (hs2 : starEach [b] X.env = [(false, eval b X.env)] := by rfl) : DI X tg (.Call (.Name "range" p) [a, b] [] pos) (fRange fs) :=
  PI.imp (pi_range2 hg hm ha hs hs2) fun σ H R ⟨W, ds, its, chk, S', eH, s, re, e, q⟩ => by
    unfold fRange at e
    split at e
    · rename_i j S1 e1
      have := hl _ _ _ _ e1
      simp at this
    · rename_i i j S1 e1
      split at e
      · rename_i h
        cases e
        rw [Bool.and_eq_true] at h
        refine ⟨W, ds, _, _, eH, s, re, e1, fun W1 vs t1 r1 => ?_⟩
        cases r1 with
        | cons a t =>
          cases t with
          | cons b t =>
            cases t
            cases a
            cases b
            exact ⟨i, j, rfl, ⟨(inW_ok h.1).1, (inW_ok h.1).2, (inW_ok h.2).1, (inW_ok h.2).2⟩, q W1 _ t1 wk_range⟩
      · cases e
    · cases e
/-! ### enumerate, zip: new pairs -/
def enumD : Nat → List P → List D
  | _, [] => []
  | n, x :: r => .p (.tup [.int (n : Int), x]) :: enumD (n + 1) r
theorem enumD_get : ∀ {l : List P} {n i : Nat} {d : D}, (enumD n l)[i]? = some d → ∃ x, l[i]? = some x ∧ d = .p (.tup [.int ((n + i : Nat) : Int), x])
  | [], _, _, _, e => by simp [enumD] at e
  | x :: r, n, 0, d, e => by simp [enumD] at e; exact ⟨x, rfl, by simp [e]⟩
  | x :: r, n, i + 1, d, e => by
    obtain ⟨y, h1, h2⟩ := enumD_get (l := r) (n := n + 1) (i := i) (d := d) (by simpa [enumD] using e)
    exact ⟨y, by simpa using h1, by rw [h2]; congr 5; omega⟩
theorem enumD_length : ∀ (l : List P) (n : Nat), (enumD n l).length = l.length
  | [], _ => rfl
  | _ :: r, n => by unfold enumD; rw [List.length_cons, List.length_cons, enumD_length r]
def chkD (S : DH) : D → DH → Prop
  | .ref i, S' => S'[i]? = S[i]?
  | _, _ => True
def fEnum (fs : FA) : FI := fun ds S => match fs ds S with
  | some ([x], S1) => match lstD S1 x with
    | some l => (allP l).map fun ps => (enumD 0 ps, chkD S1 x, S1)
    | none => none
  | _ => none
theorem lstD_stay {K : PySem.W.Frag} {W0 W : Wd} {d : D} {v : V} {l : List D} (s : RS K W) (x : Ext W0 W) (r : RD K W0 d v) (h : lstD W0.S d = some l) (hc : chkD W0.S d W.S) : ∃ a vs, v = .ref a ∧ SqL K W.H a vs ∧ RDs K W l vs := by
  refine lstD_ok s (r.ext x) ?_
  cases d with
  | p y => cases y <;> first | exact h | cases h
  | ref i =>
    have hc : W.S[i]? = W0.S[i]? := hc
    show (match W.S[i]? with | some (.lst l) => some l | _ => none) = some l
    rw [hc]; exact h
theorem pair_new {K : PySem.W.Frag} {W : Wd} {T : Addr} {p q : P} {x y : V} (s : RS K W) (hT : W.H T = none) (r1 : RP K W.H W.L p x) (r2 : RP K W.H W.L q y) : ∃ W', W'.H = upd W.H T (.tup [x, y]) ∧ To K W W.S W' ∧ RD K W' (.p (.tup [p, q])) (.ref T) := by
  obtain ⟨t, r⟩ := new_tup s hT (.cons r1 (.cons r2 .nil))
  exact ⟨_, rfl, t, r⟩
theorem di_enum {X : Cx} {e : Expr} {fs : FA} {p pos tpos : Pos} {elts : List Expr} {kk : Nat} (hg : Gl X "enumerate") (hm : X.mg "enumerate" = none) (ha : DA X [e] fs) (hs : starEach [e] X.env = [(false, eval e X.env)] := by rfl) :
    DI X (.Tuple elts kk tpos) (.Call (.Name "enumerate" p) [e] [] pos) (fEnum fs) := PI.imp (pi_enum hg hm ha hs) fun σ H R ⟨W, ds, its, chk, S', eH, s, re, e, q⟩ => by
  unfold fEnum at e
  split at e
  · rename_i x S1 e1
    split at e
    · rename_i l el
      cases hp : allP l with
      | none => rw [hp] at e; cases e
      | some ps =>
        rw [hp] at e; cases e
        refine ⟨W, ds, _, _, eH, s, re, e1, fun W1 vs t1 r1 => ?_⟩
        cases r1 with
        | cons rx t =>
          cases t
          obtain ⟨a, us, rfl, h1, h2⟩ := lstD_ok t1.s rx (by rw [t1.e]; exact el)
          refine ⟨a, us, rfl, h1, q W1 _ t1 ⟨fun W2 i d x2 s2 hc e2 => ?_, fun W2 x2 s2 hc => ?_⟩⟩
          · obtain ⟨b, ws, eb, h3, h4⟩ := lstD_stay s2 x2 rx (by rw [t1.e]; exact el) (by rw [t1.e]; exact hc)
            cases eb
            obtain ⟨y, h5, rfl⟩ := enumD_get e2
            obtain ⟨v, h6, h7⟩ := rps_get (allP_rel hp h4) h5
            refine ⟨⟨ws, v, h3, h6⟩, fun u H' hy => ?_⟩
            obtain ⟨T, x', rfl, hT, rfl, hx⟩ := hy
            have := hx ws h3
            rw [h6] at this; cases this
            obtain ⟨W', h8, h9, h10⟩ := pair_new s2 hT (.int ((0 + i : Nat) : Int)) h7
            rw [Nat.zero_add] at h8 h10 ⊢
            exact ⟨W', h8, h9, h10⟩
          · obtain ⟨b, ws, eb, h3, h4⟩ := lstD_stay s2 x2 rx (by rw [t1.e]; exact el) (by rw [t1.e]; exact hc)
            cases eb
            exact ⟨ws, h3, by rw [enumD_length, rps_length (allP_rel hp h4)]; exact Nat.le_refl _⟩
    · cases e
  · cases e
def zipD : List P → List P → List D
  | x :: r, y :: s => .p (.tup [x, y]) :: zipD r s
  | _, _ => []
theorem zipD_get : ∀ {l m : List P} {i : Nat} {d : D}, (zipD l m)[i]? = some d → ∃ x y, l[i]? = some x ∧ m[i]? = some y ∧ d = .p (.tup [x, y])
  | [], _, _, _, e => by simp [zipD] at e
  | _ :: _, [], _, _, e => by simp [zipD] at e
  | x :: r, y :: s, 0, d, e => by simp [zipD] at e; exact ⟨x, y, rfl, rfl, by simp [e]⟩
  | x :: r, y :: s, i + 1, d, e => by
    obtain ⟨a, b, h1, h2, h3⟩ := zipD_get (l := r) (m := s) (i := i) (d := d) (by simpa [zipD] using e)
    exact ⟨a, b, by simpa using h1, by simpa using h2, h3⟩
theorem zipD_length : ∀ (l m : List P), (zipD l m).length = min l.length m.length
  | [], _ => by simp [zipD]
  | _ :: _, [] => by simp [zipD]
  | _ :: r, _ :: s => by unfold zipD; rw [List.length_cons, zipD_length r s, List.length_cons, List.length_cons]; omega
def fZip (fs : FA) : FI := fun ds S => match fs ds S with
  | some ([x, y], S1) => match tupD x, tupD y with
    | some l, some m => some (zipD l m, fun _ => True, S1)
    | _, _ => match lstD S1 x, lstD S1 y with
      | some l, some m => match allP l, allP m with
        | some ps, some qs => some (zipD ps qs, fun S => chkD S1 x S ∧ chkD S1 y S, S1)
        | _, _ => none
      | _, _ => none
  | _ => none
theorem di_zip {X : Cx} {e e2 : Expr} {fs : FA} {p pos tpos : Pos} {elts : List Expr} {kk : Nat} (hg : Gl X "zip") (hm : X.mg "zip" = none) (ha : DA X [e, e2] fs)
    (hs : starEach [e, e2] X.env = (false, eval e X.env) :: starEach [e2] X.env := by rfl) (hpl : (backTo pos (starEach [e2] X.env)).any (·.1) = false := by rfl) :
    DI X (.Tuple elts kk tpos) (.Call (.Name "zip" p) [e, e2] [] pos) (fZip fs) := PI.imp (RZ.pi_zipA hg hm ha hs hpl) fun σ H R ⟨W, ds, its, chk, S', eH, s, re, e, q⟩ => by
  unfold fZip at e
  split at e
  · rename_i x y S1 e1
    refine ⟨W, ds, _, _, eH, s, re, e1, fun W1 vs t1 r1 => ?_⟩
    cases r1 with
    | cons rx t =>
      cases t with
      | cons ry t =>
        cases t
        split at e
        · rename_i l m el em
          cases e
          obtain ⟨a, us, rfl, h1, h2⟩ := tupD_ok rx el
          obtain ⟨b, ws, rfl, h3, h4⟩ := tupD_ok ry em
          refine ⟨a, b, us, ws, rfl, .inr ⟨h1, h3, q W1 _ t1 ⟨fun W2 i d x2 s2 hc e2 => ?_, fun W2 x2 s2 hc => ?_⟩⟩⟩
          · obtain ⟨a', us', ea, k1, k2⟩ := tupD_ok (rx.ext x2) el
            obtain ⟨b', ws', eb, k3, k4⟩ := tupD_ok (ry.ext x2) em
            cases ea; cases eb
            obtain ⟨p, q', h5, h6, rfl⟩ := zipD_get e2
            obtain ⟨v, h7, h8⟩ := rps_get k2 h5
            obtain ⟨w, h9, h10⟩ := rps_get k4 h6
            refine ⟨⟨us', ws', v, w, k1, k3, h7, h9⟩, fun u H' hy => ?_⟩
            obtain ⟨T, x', y', rfl, hT, rfl, hx, hy⟩ := hy
            have := hx us' k1
            rw [h7] at this; cases this
            have := hy ws' k3
            rw [h9] at this; cases this
            exact pair_new s2 hT h8 h10
          · obtain ⟨a', us', ea, k1, k2⟩ := tupD_ok (rx.ext x2) el
            obtain ⟨b', ws', eb, k3, k4⟩ := tupD_ok (ry.ext x2) em
            cases ea; cases eb
            exact ⟨us', ws', k1, k3, by rw [zipD_length, rps_length k2, rps_length k4]; omega⟩
        · split at e
          · rename_i l m el em
            split at e
            · rename_i ps qs ep eq
              cases e
              obtain ⟨a, us, rfl, h1, h2⟩ := lstD_ok t1.s rx (by rw [t1.e]; exact el)
              obtain ⟨b, ws, rfl, h3, h4⟩ := lstD_ok t1.s ry (by rw [t1.e]; exact em)
              refine ⟨a, b, us, ws, rfl, .inl ⟨h1, h3, q W1 _ t1 ⟨fun W2 i d x2 s2 hc e2 => ?_, fun W2 x2 s2 hc => ?_⟩⟩⟩
              · obtain ⟨a', us', ea, k1, k2⟩ := lstD_stay s2 x2 rx (by rw [t1.e]; exact el) (by rw [t1.e]; exact hc.1)
                obtain ⟨b', ws', eb, k3, k4⟩ := lstD_stay s2 x2 ry (by rw [t1.e]; exact em) (by rw [t1.e]; exact hc.2)
                cases ea; cases eb
                obtain ⟨p, q', h5, h6, rfl⟩ := zipD_get e2
                obtain ⟨v, h7, h8⟩ := rps_get (allP_rel ep k2) h5
                obtain ⟨w, h9, h10⟩ := rps_get (allP_rel eq k4) h6
                refine ⟨⟨us', ws', v, w, k1, k3, h7, h9⟩, fun u H' hy => ?_⟩
                obtain ⟨T, x', y', rfl, hT, rfl, hx, hy⟩ := hy
                have := hx us' k1
                rw [h7] at this; cases this
                have := hy ws' k3
                rw [h9] at this; cases this
                exact pair_new s2 hT h8 h10
              · obtain ⟨a', us', ea, k1, k2⟩ := lstD_stay s2 x2 rx (by rw [t1.e]; exact el) (by rw [t1.e]; exact hc.1)
                obtain ⟨b', ws', eb, k3, k4⟩ := lstD_stay s2 x2 ry (by rw [t1.e]; exact em) (by rw [t1.e]; exact hc.2)
                cases ea; cases eb
                exact ⟨us', ws', k1, k3, by rw [zipD_length, rps_length (allP_rel ep k2), rps_length (allP_rel eq k4)]; omega⟩
            · cases e
          · cases e
  · cases e
end CK
/-! CkL: short words for printed derivations; a module's constants; the law's end. -/
namespace CK
open PySem PySem.Spec PyProof.Rows L2

theorem dv {X : Cx} (i : Nat) {x : Str} {pos : Pos} (hN : X.N[i]? = some x := by rfl) (hv : Vis X.env.scope x := by first | exact Or.inl rfl | exact Or.inr (Or.inl rfl) | exact Or.inr (Or.inr rfl)) (hd : (x == ("__debug__" : Str)) = false := by decide)
    (hcd : (x == ("__classdict__" : Str)) = false := by decide) : DE X (.Name x pos) (fVar i) := de_var hN hv hd hcd
theorem u65 {k : Nat} {A : Around} (r : Room k A) : A.units + 65 < cLine := by have := r.un; omega
theorem u64 {k : Nat} {A : Around} (r : Room k A) : A.units + 64 < cLine := by have := r.un; omega
theorem u1 {k : Nat} {A : Around} (r : Room k A) : A.units + 1 < cLine := by have := r.un; omega
theorem ix_ok {b : Expr} (h : ∀ o i, subscripted b false o i = operate [o, i] (getItem o i)) : PlainIx b := h

theorem gc_str {K : PySem.W.Frag} {mg : Str → Option Value} {x y : Str} {t : Tok} (h : mg x = some (.str y t)) : Gc K mg x (.str y) := ⟨.str y, _, h, ⟨t, rfl⟩, fun _ _ => .str y⟩
theorem gc_int {K : PySem.W.Frag} {mg : Str → Option Value} {x : Str} {i : Int} {t : Tok} (h : mg x = some (.int i t)) : Gc K mg x (.int i) := ⟨.int i, _, h, ⟨t, rfl⟩, fun _ _ => .int i⟩
theorem rps_str {K : PySem.W.Frag} {H : Hp} {L : Addr → Prop} : ∀ l : List Str, RPs K H L (l.map P.str) (l.map V.str)
  | [] => .nil
  | x :: r => .cons (.str x) (rps_str r)
theorem gc_tup {K : PySem.W.Frag} {mg : Str → Option Value} {x : Str} {a : Addr} {dd : Option Addr} {its : Array Value} {n : Nat} {sl : Array (Option Value)} (l : List Str) (h : mg x = some (.ref a)) (lk : K.lookup a = some ⟨.type "tuple", dd, .seq its n, sl⟩)
    (hv : Vals (l.map V.str) its.toList) (hz : its.size ≤ sizeLine) : Gc K mg x (.ktup (l.map P.str)) :=
  ⟨.ref a, _, h, rfl, fun _ _ => .ktup ⟨_, its, n, lk, rfl, rfl, hz, hv⟩ (rps_str l)⟩

section
variable {P : Program} {w : World} {K : PySem.W.Frag} {mg : Str → Option Value} {base : Heap}
theorem fnok_of {x qual : Str} {st : Stmt} {f : Addr} {fd : FuncData} {N ps : List Str} {k n : Nat} {keep : Bool} {fb : FS} (F : Fun K x qual st f fd) (S : FnScope N ps (defScope st)) (hn : ps.length = n)
    (body : ∀ (cdv : Value) (A : Around) (outer : List Env) (s : Shared) (H : Hp) (E : XK), Room k (A.deeper (envOfC qual (defScope st) s.heap.objs.size f cdv)) → DCs (cxOf CX0 P w K mg base N qual (defScope st) f cdv A outer s H E).nox (defBody st) fb) :
    FnOk P w K mg base CX0 (k + 1) f fd ps (spD K (gFn N.length keep fb) n) := by
  refine F.ok S (fun vs H Q E h => by rw [hn]; exact h.1) fun cdv A outer s H vs Q E hr h => ⟨_, body cdv A outer s H E hr, ?_⟩
  obtain ⟨hl, W, xs, d, S', eH, rs, rd, e, q⟩ := h
  unfold gFn at e
  split at e
  · rename_i d1 S1 e1
    exact ⟨W, _, _, _, eH, rs, re_start rd, e1, fun W' t v r => leave_ok rs t r e q⟩
  · rename_i ds1 S1 e1
    exact ⟨W, _, .nx ds1, _, eH, rs, re_start rd, e1, fun W' t σ' _ => leave_ok (d := .p .non) rs t .non e q⟩
  · cases e
end
def spLaw (K : PySem.W.Frag) : Sp := fun vs H Q _ => ∃ (a : Addr) (ns : List Int), vs = [.ref a] ∧ Only H ∧ SqL K H a (ns.map V.int) ∧ ns.length ≤ 63 ∧ ∀ H', Q (.bl true) H'
theorem rps_int {K : PySem.W.Frag} {H : Hp} {L : Addr → Prop} : ∀ l : List Int, RPs K H L (l.map P.int) (l.map V.int)
  | [] => .nil
  | x :: r => .cons (.int x) (rps_int r)
/-- the law by what its own reckoning gives -/
theorem law_imp {P : Program} {w : World} {K : PySem.W.Frag} {mg : Str → Option Value} {base : Heap} {k : Nat} {f : Addr} {fd : FuncData} {g : GN} (F : FnOk P w K mg base CX0 k f fd ["script"] (spD K g 1))
    (h : ∀ ns : List Int, ns.length ≤ 63 → ∃ S', g [.p (.flst (ns.map .int))] [] = some (.p (.bl true), S')) : FnOk P w K mg base CX0 k f fd ["script"] (spLaw K) := by
  refine F.imp fun vs H Q E hs => ?_
  obtain ⟨a, ns, rfl, hO, hS, hl, q⟩ := hs
  obtain ⟨S', e⟩ := h ns hl
  refine ⟨rfl, ⟨H, fun _ => False, [], []⟩, [.p (.flst (ns.map .int))], .p (.bl true), S', rfl, ⟨rfl, fun i j a h => by simp at h, fun i a h => by simp at h, fun i o a h => by simp at h, fun i a h => by simp at h, fun a h => h.elim, fun i o h => by simp at h⟩, .cons ?_ .nil, e, fun W' v t r => ?_⟩
  · refine RP.flst (vs := ns.map V.int) ?_ (rps_int ns)
    rcases hS with (hS | hS) | hS
    · rcases hO a with z | ⟨o, xs, z⟩
      · rw [hS] at z; cases z
      · rw [hS] at z; cases z
    · refine .inl ⟨hS, fun l => ?_⟩
      rcases l with r | ⟨i, o, e1, _⟩
      · exact r
      · simp at e1
    · exact .inr hS
  · cases r
    exact q W'.H
end CK
/-! CkM: text.index. -/
namespace CK
open PySem PySem.Spec PyProof.Rows L2

def gIndex : GM := fun x xs S => match x, xs with
  | .p (.str a), [.p (.str b)] => match Builtin.Str.occurrences a b 0 a.length 1 with
    | i :: _ => some (.p (.int (i : Nat)), S)
    | [] => none
  | _, _ => none
theorem m_index {X : Cx} : Meth1 X "str.index" gIndex := by
  refine ⟨_, L2.mt_sindex, ?_⟩
  intro W x v xs vs z S' Q s r1 r2 e q
  unfold gIndex at e
  split at e
  · rename_i a b
    split at e
    · rename_i i rest h
      cases e
      cases r1
      cases r2 with
      | cons rd t =>
        cases t
        cases rd
        exact ⟨a, b, i, rest, rfl, rfl, h, q W _ (To.refl s) (.int _)⟩
    · cases e
  · cases e
end CK
/-! CkS: the reckoning, unfolded where it is applied. -/
namespace CK
open PySem PySem.Spec PyProof.Rows L2

section
variable {ds : DS} {S : DH}
@[simp] theorem sNil_eq : sNil ds S = some (.nx ds, S) := rfl
@[simp] theorem sSeq_eq {f g : FS} : sSeq f g ds S = match f ds S with
  | some (.nx ds', S') => g ds' S'
  | some (r, S') => some (r, S')
  | none => none := rfl
@[simp] theorem sCont_eq : sCont ds S = some (.ct ds, S) := rfl
@[simp] theorem sBreak_eq : sBreak ds S = some (.bk ds, S) := rfl
@[simp] theorem sExpr_eq {f : FE} : sExpr f ds S = match f ds S with
  | none => none
  | some (_, S1) => some (.nx ds, S1) := rfl
@[simp] theorem sRet_eq {f : FE} : sRet f ds S = match f ds S with
  | none => none
  | some (d, S1) => some (.rt d, S1) := rfl
@[simp] theorem sRetN_eq : sRetN ds S = some (.rt (.p .non), S) := rfl
@[simp] theorem sIf_eq {t : FT} {f g : FS} : sIf t f g ds S = match t ds S with
  | none => none
  | some (true, S1) => f ds S1
  | some (false, S1) => g ds S1 := rfl
@[simp] theorem sAsg_eq {f : FE} {g : FG} : sAsg f g ds S = match f ds S with
  | none => none
  | some (d, S1) => match g d ds S1 with
    | none => none
    | some (ds', S2) => some (.nx ds', S2) := rfl
@[simp] theorem sPar_eq {i j : Nat} {f : FA} : sPar i j f ds S = match f ds S with
  | some ([x, y], S1) => some (.nx ((ds.set i (some x)).set j (some y)), S1)
  | _ => none := rfl
@[simp] theorem gN_eq {i : Nat} {d : D} : gN i d ds S = some (ds.set i (some d), S) := rfl
@[simp] theorem gTupN_eq {is : List Nat} {d : D} : gTupN is d ds S = match tupD d with
  | none => none
  | some ps => (setAll is (ps.map .p) ds).map fun ds' => (ds', S) := rfl
@[simp] theorem gSet_eq {fo fi : FE} {g : G3} {d : D} : gSet fo fi g d ds S = match fo ds S with
  | none => none
  | some (o, S1) => match fi ds S1 with
    | none => none
    | some (i, S2) => (g o i d S2).map fun S3 => (ds, S3) := rfl
@[simp] theorem fVar_eq {i : Nat} : fVar i ds S = match ds[i]? with
  | some (some d) => some (d, S)
  | _ => none := rfl
@[simp] theorem fC_eq {x : P} : fC x ds S = some (.p x, S) := rfl
@[simp] theorem fBin_eq {g : G2} {fa fb : FE} : fBin g fa fb ds S = match fa ds S with
  | none => none
  | some (x, S1) => match fb ds S1 with
    | none => none
    | some (y, S2) => g x y S2 := rfl
@[simp] theorem fChain_eq {g g' : G2} {fa fb fc : FE} : fChain g g' fa fb fc ds S = match fa ds S with
  | none => none
  | some (x, S1) => match fb ds S1 with
    | none => none
    | some (y, S2) => match g x y S2 with
      | some (.p (.bl true), S3) => (match fc ds S3 with
        | none => none
        | some (z, S4) => g' y z S4)
      | some (.p (.bl false), S3) => some (.p (.bl false), S3)
      | _ => none := rfl
@[simp] theorem fTest_eq {f : FE} : fTest f ds S = match f ds S with
  | some (.p (.bl b), S') => some (b, S')
  | _ => none := rfl
@[simp] theorem fAnd_eq {t u : FT} : fAnd t u ds S = match t ds S with
  | none => none
  | some (true, S1) => u ds S1
  | some (false, S1) => some (false, S1) := rfl
@[simp] theorem fOr_eq {t u : FT} : fOr t u ds S = match t ds S with
  | none => none
  | some (true, S1) => some (true, S1)
  | some (false, S1) => u ds S1 := rfl
@[simp] theorem fNot_eq {t : FT} : fNot t ds S = match t ds S with
  | none => none
  | some (b, S1) => some (!b, S1) := rfl
@[simp] theorem fAndV_eq {fa fb : FE} : fAndV fa fb ds S = match fa ds S with
  | some (.p (.bl true), S1) => fb ds S1
  | some (.p (.bl false), S1) => some (.p (.bl false), S1)
  | _ => none := rfl
@[simp] theorem fOrV_eq {fa fb : FE} : fOrV fa fb ds S = match fa ds S with
  | some (.p (.bl true), S1) => some (.p (.bl true), S1)
  | some (.p (.bl false), S1) => fb ds S1
  | _ => none := rfl
@[simp] theorem fNotV_eq {fa : FE} : fNotV fa ds S = match fa ds S with
  | some (.p (.bl b), S1) => some (.p (.bl (!b)), S1)
  | _ => none := rfl
@[simp] theorem fIf_eq {t : FT} {fa fb : FE} : fIf t fa fb ds S = match t ds S with
  | none => none
  | some (true, S1) => fa ds S1
  | some (false, S1) => fb ds S1 := rfl
@[simp] theorem fNeg_eq {fa : FE} : fNeg fa ds S = match fa ds S with
  | some (.p (.int i), S1) => some (.p (.int (-i)), S1)
  | _ => none := rfl
@[simp] theorem aNil_eq : aNil ds S = some ([], S) := rfl
@[simp] theorem aCons_eq {fe : FE} {fs : FA} : aCons fe fs ds S = match fe ds S with
  | none => none
  | some (x, S1) => match fs ds S1 with
    | none => none
    | some (l, S2) => some (x :: l, S2) := rfl
@[simp] theorem fTup_eq {fs : FA} : fTup fs ds S = match fs ds S with
  | none => none
  | some (l, S1) => if l.length ≤ sizeLine then (allP l).map fun ps => (.p (.tup ps), S1) else none := rfl
@[simp] theorem fLst_eq {fs : FA} : fLst fs ds S = match fs ds S with
  | none => none
  | some (l, S1) => if l.length ≤ sizeLine then (allP l).map fun ps => (.p (.lst ps), S1) else none := rfl
@[simp] theorem fLstH_eq {fs : FA} : fLstH fs ds S = match fs ds S with
  | none => none
  | some (l, S1) => if l.length ≤ sizeLine then some (.ref S1.length, S1 ++ [.lst l]) else none := rfl
@[simp] theorem fCall_eq {g : GN} {fs : FA} : fCall g fs ds S = match fs ds S with
  | none => none
  | some (l, S1) => g l S1 := rfl
@[simp] theorem fMeth_eq {T : String} {g : GM} {fo : FE} {fs : FA} : fMeth T g fo fs ds S = match fo ds S with
  | none => none
  | some (x, S1) => if isTy T x S1 = true then (match fs ds S1 with
    | none => none
    | some (l, S2) => g x l S2) else none := rfl
@[simp] theorem oNone_eq : oNone ds S = some (none, S) := rfl
@[simp] theorem oSome_eq {fe : FE} : oSome fe ds S = match fe ds S with
  | some (.p (.int i), S1) => some (some i, S1)
  | _ => none := rfl
@[simp] theorem fSl_eq {g : GS} {fe : FE} {fl fh : FO} : fSl g fe fl fh ds S = match fe ds S with
  | none => none
  | some (x, S1) => match fl ds S1 with
    | none => none
    | some (l, S2) => match fh ds S2 with
      | none => none
      | some (h, S3) => g x l h S3 := rfl
@[simp] theorem fIt_eq {fe : FE} : fIt fe ds S = match fe ds S with
  | none => none
  | some (d, S1) => match itD S1 d with
    | none => none
    | some (l, chk) => some (l, chk, S1) := rfl
@[simp] theorem fRange_eq {fs : FA} : fRange fs ds S = match fs ds S with
  | some ([.p (.int j)], S1) => if inW j = true then some (rangeD 0 j.toNat, fun _ => True, S1) else none
  | some ([.p (.int i), .p (.int j)], S1) => if (inW i && inW j) = true then some (rangeD i (j - i).toNat, fun _ => True, S1) else none
  | _ => none := rfl
@[simp] theorem sFor_eq {fi : FI} {g : FG} {fb : FS} : sFor fi g fb ds S = match fi ds S with
  | none => none
  | some (its, chk, S1) => forL chk g fb its ds S1 := rfl
@[simp] theorem fComp_eq {fi : FI} {g : FG} {ft : FT} {fe : FE} {vs : List Nat} : fComp fi g ft fe vs ds S = match fi ds S with
  | none => none
  | some (its, chk, S1) => match compL chk g ft fe (wipeD ds vs) 0 its S1 with
    | none => none
    | some (l, S2) => (allP l).map fun ps => (.p (.lst ps), S2) := rfl
@[simp] theorem fCompH_eq {fi : FI} {g : FG} {ft : FT} {fe : FE} {vs : List Nat} : fCompH fi g ft fe vs ds S = match fi ds S with
  | none => none
  | some (its, chk, S1) => match compL chk g ft fe (wipeD ds vs) 0 its S1 with
    | none => none
    | some (l, S2) => some (.ref S2.length, S2 ++ [.lst l]) := rfl
@[simp] theorem fYes_eq : fYes ds S = some (true, S) := rfl
end
section
variable {S : DH}
@[simp] theorem alt2_eq {g h : G2} {x y : D} : alt2 g h x y S = match g x y S with
  | some r => some r
  | none => h x y S := rfl
@[simp] theorem altN_eq {g h : GN} {x : List D} : altN g h x S = match g x S with
  | some r => some r
  | none => h x S := rfl
@[simp] theorem altM_eq {g h : GM} {x : D} {y : List D} : altM g h x y S = match g x y S with
  | some r => some r
  | none => h x y S := rfl
@[simp] theorem altS_eq {g h : GS} {x : D} {lo hi : Option Int} : altS g h x lo hi S = match g x lo hi S with
  | some r => some r
  | none => h x lo hi S := rfl
@[simp] theorem pure2_eq {h : P → P → Option P} {a b : P} : pure2 h (.p a) (.p b) S = (h a b).map fun c => (.p c, S) := rfl
@[simp] theorem pure2_l {h : P → P → Option P} {a : Nat} {b : D} : pure2 h (.ref a) b S = none := by cases b <;> rfl
@[simp] theorem pure2_r {h : P → P → Option P} {a : D} {b : Nat} : pure2 h a (.ref b) S = none := by cases a <;> rfl
end
@[simp] theorem pI_int {f : Int → Int → Option P} {i j : Int} : pI f (.int i) (.int j) = f i j := rfl
@[simp] theorem pAddS_int {i j : Int} : pAddS (.int i) (.int j) = none := rfl
@[simp] theorem allP_nil : allP [] = some [] := rfl
@[simp] theorem allP_cons {x : P} {r : List D} : allP (.p x :: r) = (allP r).map (x :: ·) := rfl
@[simp] theorem allP_map (l : List P) : allP (l.map D.p) = some l := by
  induction l with
  | nil => rfl
  | cons x r ih => rw [List.map_cons, allP_cons, ih]; rfl
theorem mulOk_r {i j : Int} (h1 : -(2 ^ 64) < j) (h2 : j < 2 ^ 64) : mulOk i j = true := by
  unfold mulOk
  rw [Bool.or_eq_true, Bool.and_eq_true, Bool.and_eq_true, decide_eq_true_eq, decide_eq_true_eq, decide_eq_true_eq, decide_eq_true_eq]
  exact .inr ⟨h1, h2⟩
theorem mulOk_l {i j : Int} (h1 : -(2 ^ 64) < i) (h2 : i < 2 ^ 64) : mulOk i j = true := by
  unfold mulOk
  rw [Bool.or_eq_true, Bool.and_eq_true, Bool.and_eq_true, decide_eq_true_eq, decide_eq_true_eq, decide_eq_true_eq, decide_eq_true_eq]
  exact .inl ⟨h1, h2⟩
theorem modOk_of {i j : Int} (h : 0 < j) : modOk i j = true := decide_eq_true h
theorem divOk_of {i j : Int} (h : 0 < j) (h2 : j < 2 ^ 64) : divOk i j = true := by
  unfold divOk; rw [decide_eq_true h, decide_eq_true h2]; rfl
theorem size_le {n : Nat} (h : n ≤ 16777216) : n ≤ sizeLine := by rw [sizeLine_eq]; exact h
theorem size_lt {n : Nat} (h : n < 16777216) : n < sizeLine := by rw [sizeLine_eq]; exact h
/-! ### operators by kinds -/
section
variable {S : DH} {i j : Int} {x y : Str}
@[simp] theorem gAdd_int : gAdd (.p (.int i)) (.p (.int j)) S = some (.p (.int (i + j)), S) := rfl
@[simp] theorem gSub_int : gSub (.p (.int i)) (.p (.int j)) S = some (.p (.int (i - j)), S) := rfl
@[simp] theorem gMul_int : gMul (.p (.int i)) (.p (.int j)) S = if mulOk i j = true then some (.p (.int (i * j)), S) else none := by
  show ((if mulOk i j = true then some (P.int (i * j)) else none).map fun c => (D.p c, S)) = _
  split <;> rfl
@[simp] theorem gMod_int : gMod (.p (.int i)) (.p (.int j)) S = if modOk i j = true then some (.p (.int (i % j)), S) else none := by
  show ((if modOk i j = true then some (P.int (i % j)) else none).map fun c => (D.p c, S)) = _
  split <;> rfl
@[simp] theorem gDiv_int : gDiv (.p (.int i)) (.p (.int j)) S = if divOk i j = true then some (.p (.int (i / j)), S) else none := by
  show ((if divOk i j = true then some (P.int (i / j)) else none).map fun c => (D.p c, S)) = _
  split <;> rfl
@[simp] theorem gPow_int : gPow (.p (.int i)) (.p (.int j)) S = if powOk i j = true then some (.p (.int (i ^ j.toNat)), S) else none := by
  show ((if powOk i j = true then some (P.int (i ^ j.toNat)) else none).map fun c => (D.p c, S)) = _
  split <;> rfl
theorem gAdd_str (h : x.length + y.length ≤ 16777216) : gAdd (.p (.str x)) (.p (.str y)) S = some (.p (.str (x ++ y)), S) := by
  have := size_le h
  simp [gAdd, pI, pAddS, this]
theorem gAdd_tup {l m : List P} (h : l.length + m.length ≤ 16777216) : gAdd (.p (.tup l)) (.p (.tup m)) S = some (.p (.tup (l ++ m)), S) := by
  have := size_le h
  simp [gAdd, pI, pAddS, gAddT, this]
theorem gAdd_lst {l m : List P} (h : l.length + m.length ≤ 16777216) : gAdd (.p (.lst l)) (.p (.lst m)) S = some (.p (.lst (l ++ m)), S) := by
  have := size_le h
  have e : allP (l.map D.p ++ m.map D.p) = some (l ++ m) := by rw [← List.map_append]; exact allP_map _
  simp [gAdd, pI, pAddS, gAddT, gAddL, tupD, lstE, this, e]
@[simp] theorem gLt_int : gLt (.p (.int i)) (.p (.int j)) S = some (.p (.bl (decide (i < j))), S) := rfl
@[simp] theorem gLe_int : gLe (.p (.int i)) (.p (.int j)) S = some (.p (.bl (decide (i ≤ j))), S) := rfl
@[simp] theorem gGt_int : gGt (.p (.int i)) (.p (.int j)) S = some (.p (.bl (decide (j < i))), S) := rfl
@[simp] theorem gGe_int : gGe (.p (.int i)) (.p (.int j)) S = some (.p (.bl (decide (j ≤ i))), S) := rfl
@[simp] theorem gLt_str : gLt (.p (.str x)) (.p (.str y)) S = some (.p (.bl (decide (x.cps.toList < y.cps.toList))), S) := rfl
@[simp] theorem gLe_str : gLe (.p (.str x)) (.p (.str y)) S = some (.p (.bl (!decide (y.cps.toList < x.cps.toList))), S) := rfl
@[simp] theorem gGt_str : gGt (.p (.str x)) (.p (.str y)) S = some (.p (.bl (decide (y.cps.toList < x.cps.toList))), S) := rfl
@[simp] theorem gGe_str : gGe (.p (.str x)) (.p (.str y)) S = some (.p (.bl (!decide (x.cps.toList < y.cps.toList))), S) := rfl
@[simp] theorem gEq_int : gEq (.p (.int i)) (.p (.int j)) S = some (.p (.bl (decide (i = j))), S) := rfl
@[simp] theorem gEq_str : gEq (.p (.str x)) (.p (.str y)) S = some (.p (.bl (decide (x = y))), S) := rfl
@[simp] theorem gEq_bl {a b : Bool} : gEq (.p (.bl a)) (.p (.bl b)) S = some (.p (.bl (decide (a = b))), S) := rfl
@[simp] theorem gNe_int : gNe (.p (.int i)) (.p (.int j)) S = some (.p (.bl (!decide (i = j))), S) := rfl
@[simp] theorem gNe_str : gNe (.p (.str x)) (.p (.str y)) S = some (.p (.bl (!decide (x = y))), S) := rfl
@[simp] theorem gNe_bl {a b : Bool} : gNe (.p (.bl a)) (.p (.bl b)) S = some (.p (.bl (!decide (a = b))), S) := rfl
/-- == of things that are no scalars -/
theorem gEq_D {a b : D} (h : pure2 (fun x y => (scalEq x y).map fun b => P.bl (if false then !b else b)) a b S = none) : gEq a b S = gEqD false a b S := by
  show (match gEqS false a b S with | some r => some r | none => gEqD false a b S) = _
  have : gEqS false a b S = none := h
  rw [this]
theorem gNe_D {a b : D} (h : pure2 (fun x y => (scalEq x y).map fun b => P.bl (if true then !b else b)) a b S = none) : gNe a b S = gEqD true a b S := by
  show (match gEqS true a b S with | some r => some r | none => gEqD true a b S) = _
  have : gEqS true a b S = none := h
  rw [this]
@[simp] theorem gIs_bl {a b : Bool} : gIs (.p (.bl a)) (.p (.bl b)) S = some (.p (.bl (decide (a = b))), S) := rfl
@[simp] theorem gIsNot_bl {a b : Bool} : gIsNot (.p (.bl a)) (.p (.bl b)) S = some (.p (.bl (!decide (a = b))), S) := rfl
@[simp] theorem gIs_non : gIs (.p .non) (.p .non) S = some (.p (.bl true), S) := rfl
@[simp] theorem gIsNot_non : gIsNot (.p .non) (.p .non) S = some (.p (.bl false), S) := rfl
@[simp] theorem gIn_str : gIn (.p (.str x)) (.p (.str y)) S = some (.p (.bl (strIn x y)), S) := rfl
@[simp] theorem gNotIn_str : gNotIn (.p (.str x)) (.p (.str y)) S = some (.p (.bl (!strIn x y)), S) := rfl
theorem keyD_any (x : P) : True := trivial
theorem gIn_lst {a : P} {l : List P} (h1 : flatP a = true) (h2 : l.all flatP = true) : gIn (.p a) (.p (.lst l)) S = some (.p (.bl (inP a l)), S) := by
  have e1 : dget S (.p (.lst l)) (.p a) = none := by unfold dget dictD; rfl
  simp [gIn, gInK, gInF, seqP, e1, h1]
  cases a <;> simp_all
theorem gIn_ktup {a : P} {l : List P} (h1 : flatP a = true) (h2 : l.all flatP = true) : gIn (.p a) (.p (.ktup l)) S = some (.p (.bl (inP a l)), S) := by
  have e1 : dget S (.p (.ktup l)) (.p a) = none := by unfold dget dictD; rfl
  simp [gIn, gInK, gInF, seqP, e1, h1]
  cases a <;> simp_all
theorem gIn_tup {a : P} {l : List P} (h1 : flatP a = true) (h2 : l.all flatP = true) : gIn (.p a) (.p (.tup l)) S = some (.p (.bl (inP a l)), S) := by
  have e1 : dget S (.p (.tup l)) (.p a) = none := by unfold dget dictD; rfl
  simp [gIn, gInK, gInF, seqP, e1, h1]
  cases a <;> simp_all
theorem gNotIn_lst {a : P} {l : List P} (h1 : flatP a = true) (h2 : l.all flatP = true) : gNotIn (.p a) (.p (.lst l)) S = some (.p (.bl (!inP a l)), S) := by
  have e1 : dget S (.p (.lst l)) (.p a) = none := by unfold dget dictD; rfl
  simp [gNotIn, gInK, gInF, seqP, e1, h1]
  cases a <;> simp_all
@[simp] theorem gIx_lst {l : List P} : gIx (.p (.lst l)) (.p (.int i)) S = (atI l i).map fun d => (.p d, S) := by
  have : atI (l.map D.p) i = (atI l i).map D.p := by unfold atI; rw [List.length_map]; cases ixN l.length i <;> simp
  simp [gIx, gIxL, lstD, this]
  cases h : atI l i <;> simp [gIxT, tupD, gIxS, gIxK, dget, dictD]
@[simp] theorem gIx_flst {l : List P} : gIx (.p (.flst l)) (.p (.int i)) S = (atI l i).map fun d => (.p d, S) := by
  have : atI (l.map D.p) i = (atI l i).map D.p := by unfold atI; rw [List.length_map]; cases ixN l.length i <;> simp
  simp [gIx, gIxL, lstD, this]
  cases h : atI l i <;> simp [gIxT, tupD, gIxS, gIxK, dget, dictD]
@[simp] theorem gIx_tup {l : List P} : gIx (.p (.tup l)) (.p (.int i)) S = (atI l i).map fun d => (.p d, S) := by
  simp [gIx, gIxL, lstD, gIxT, tupD]
  cases h : atI l i <;> simp [gIxS, gIxK, dget, dictD]
theorem gIx_ref {n : Nat} {l : List D} (h : S[n]? = some (.lst l)) : gIx (.ref n) (.p (.int i)) S = (atI l i).map fun d => (d, S) := by
  simp [gIx, gIxL, lstD, h]
  cases h2 : atI l i <;> simp [gIxT, tupD, gIxS, gIxK, dget, dictD, h]
theorem gIx_str {c : Nat} (h : x.length ≤ 16777216) (e : atI x.cps.toList i = some c) : gIx (.p (.str x)) (.p (.int i)) S = some (.p (.str ⟨#[c]⟩), S) := by
  have := size_le h
  simp [gIx, gIxL, gIxT, gIxS, lstD, tupD, this, e]
theorem gSl_str {lo hi : Option Int} (h : x.length ≤ 16777216) : gSl (.p (.str x)) lo hi S = some (.p (.str (cutS x lo hi)), S) := by
  have := size_le h
  simp [gSl, gSlL, gSlT, gSlS, lstD, this]
@[simp] theorem gSl_tup {l : List P} {lo hi : Option Int} : gSl (.p (.tup l)) lo hi S = some (.p (.tup (cut l lo hi)), S) := by
  simp [gSl, gSlL, gSlT, lstD]
@[simp] theorem gSl_lst {l : List P} {lo hi : Option Int} : gSl (.p (.lst l)) lo hi S = some (.p (.lst (cut l lo hi)), S) := by
  simp [gSl, gSlL, lstD, map_cut]
theorem gLen_str (h : x.length ≤ 16777216) : gLen [.p (.str x)] S = some (.p (.int x.length), S) := by
  have := size_le h
  simp [gLen, this]
@[simp] theorem gLen_lst {l : List P} : gLen [.p (.lst l)] S = some (.p (.int l.length), S) := by simp [gLen, seqD]
@[simp] theorem gLen_flst {l : List P} : gLen [.p (.flst l)] S = some (.p (.int l.length), S) := by simp [gLen, seqD]
@[simp] theorem gLen_tup {l : List P} : gLen [.p (.tup l)] S = some (.p (.int l.length), S) := by simp [gLen, seqD]
theorem gLen_ref {n : Nat} {l : List D} (h : S[n]? = some (.lst l)) : gLen [.ref n] S = some (.p (.int l.length), S) := by simp [gLen, seqD, h]
theorem gIsi_eq {d : D} {b : String} {k : Bool} (h1 : isiOk (tyD S d) b = true) (h2 : isi (tyD S d) b = k) : gIsi [d, .p (.ty b)] S = some (.p (.bl k), S) := by
  simp [gIsi, h1, h2]
end
theorem gIsi_t {S : DH} {x : P} {a b : String} {k : Bool} (h : tyP x = a) (h1 : isiOk a b = true) (h2 : isi a b = k) : gIsi [.p x, .p (.ty b)] S = some (.p (.bl k), S) := by
  subst h; exact gIsi_eq h1 h2
@[simp] theorem allBl_map (l : List Bool) : allBl ((l.map P.bl).map D.p) = some l := by
  induction l with
  | nil => rfl
  | cons x r ih => rw [List.map_cons, List.map_cons]; unfold allBl; rw [ih]; rfl
@[simp] theorem allInt_map (l : List Int) : allInt ((l.map P.int).map D.p) = some l := by
  induction l with
  | nil => rfl
  | cons x r ih => rw [List.map_cons, List.map_cons]; unfold allInt; rw [ih]; rfl
@[simp] theorem allStr_map (l : List Str) : allStr ((l.map P.str).map D.p) = some l := by
  induction l with
  | nil => rfl
  | cons x r ih => rw [List.map_cons, List.map_cons]; unfold allStr; rw [ih]; rfl
theorem gAll_bl {l : List Bool} {S : DH} : gAll [.p (.lst (l.map P.bl))] S = some (.p (.bl (l.all id)), S) := by
  show ((allBl ((l.map P.bl).map D.p)).map fun (bs : List Bool) => (D.p (.bl (bs.all id)), S)) = _
  rw [allBl_map]; rfl
theorem gAny_bl {l : List Bool} {S : DH} : gAny [.p (.lst (l.map P.bl))] S = some (.p (.bl (l.any id)), S) := by
  show ((allBl ((l.map P.bl).map D.p)).map fun (bs : List Bool) => (D.p (.bl (bs.any id)), S)) = _
  rw [allBl_map]; rfl
theorem gSum_int {l : List Int} {S : DH} : gSum [.p (.lst (l.map P.int))] S = some (.p (.int l.sum), S) := by
  show ((allInt ((l.map P.int).map D.p)).map fun (bs : List Int) => (D.p (.int bs.sum), S)) = _
  rw [allInt_map]; rfl
theorem set_get {S : DH} {n : Nat} {o o' : DO} (h : S[n]? = some o) : (S.set n o')[n]? = some o' := List.getElem?_set_self (get_lt h)
theorem gSetA_lst {S : DH} {n j : Nat} {i : Int} {l : List D} {x : P} (h : S[n]? = some (.lst l)) (hj : ixN l.length i = some j) : gSetA (.ref n) (.p (.int i)) (.p x) S = some (S.set n (.lst (l.set j (.p x)))) := by
  simp [gSetA, gSetL, h, hj, D.below]
theorem gAppend_p {S : DH} {n : Nat} {l : List D} {x : P} (h : S[n]? = some (.lst l)) (hl : l.length < 16777216) : gAppend (.ref n) [.p x] S = some (.p .non, S.set n (.lst (l ++ [.p x]))) := by
  have := size_lt hl
  simp [gAppend, h, this, D.below]
/-! ### turns -/
theorem atI_ok {α : Type} {l : List α} {n : Nat} {x : α} {i : Int} (h : l[n]? = some x) (hi : i = (n : Int)) : atI l i = some x := by subst hi; exact atI_nat h
section
variable {chk : DH → Prop} {g : FG} {fb : FS} {ds : DS} {S : DH}
theorem forL_nil (h : chk S) : forL chk g fb [] ds S = some (.nx ds, S) := by unfold forL; rw [if_pos h]
theorem forL_nx {d : D} {r : List D} {ds1 ds2 : DS} {S1 S2 : DH} (h : chk S) (e1 : g d ds S = some (ds1, S1)) (e2 : fb ds1 S1 = some (.nx ds2, S2)) : forL chk g fb (d :: r) ds S = forL chk g fb r ds2 S2 := by
  rw [forL, if_pos h, e1]; dsimp only; rw [e2]
theorem forL_ct {d : D} {r : List D} {ds1 ds2 : DS} {S1 S2 : DH} (h : chk S) (e1 : g d ds S = some (ds1, S1)) (e2 : fb ds1 S1 = some (.ct ds2, S2)) : forL chk g fb (d :: r) ds S = forL chk g fb r ds2 S2 := by
  rw [forL, if_pos h, e1]; dsimp only; rw [e2]
theorem forL_rt {d x : D} {r : List D} {ds1 : DS} {S1 S2 : DH} (h : chk S) (e1 : g d ds S = some (ds1, S1)) (e2 : fb ds1 S1 = some (.rt x, S2)) : forL chk g fb (d :: r) ds S = some (.rt x, S2) := by
  rw [forL, if_pos h, e1]; dsimp only; rw [e2]
/-- a comprehension whose element and test are pure functions of the item -/
theorem compL_pure {ft : FT} {fe : FE} {ds0 : DS} {α : Type} {f : α → P} {t : α → Bool} {inn : α → D} (hk : ∀ S, chk S) : ∀ (n : Nat) (l : List α), n + l.length ≤ 16777216 →
    (∀ x ∈ l, ∃ ds1, g (inn x) ds0 S = some (ds1, S) ∧ ft ds1 S = some (t x, S) ∧ (t x = true → fe ds1 S = some (.p (f x), S))) →
    compL chk g ft fe ds0 n (l.map inn) S = some (((l.filter t).map f).map .p, S)
  | n, [], _, _ => by rw [List.map_nil, compL, if_pos (hk S)]; rfl
  | n, x :: r, hn, h => by
    obtain ⟨ds1, e1, e2, e3⟩ := h x List.mem_cons_self
    rw [List.map_cons, compL, if_pos (hk S), e1]
    dsimp only
    rw [e2]
    rw [List.length_cons] at hn
    cases ht : t x with
    | false =>
      dsimp only
      rw [compL_pure hk n r (by omega) fun y hy => h y (List.mem_cons_of_mem _ hy), List.filter_cons, if_neg (by rw [ht]; exact Bool.false_ne_true)]
    | true =>
      dsimp only
      rw [e3 ht]
      dsimp only
      rw [if_pos (size_lt (by omega)), compL_pure hk (n + 1) r (by omega) fun y hy => h y (List.mem_cons_of_mem _ hy), List.filter_cons, if_pos ht]
      rfl
end
/-! ### defs -/
theorem gFn_rt {nN : Nat} {keep : Bool} {fb : FS} {xs : List D} {S S' : DH} {d : D} (h : fb (xs.map some ++ List.replicate (nN - xs.length) none) S = some (.rt d, S')) : gFn nN keep fb xs S = leave keep S d S' := by
  unfold gFn; rw [h]
theorem gFn_nx {nN : Nat} {keep : Bool} {fb : FS} {xs : List D} {S S' : DH} {ds : DS} (h : fb (xs.map some ++ List.replicate (nN - xs.length) none) S = some (.nx ds, S')) : gFn nN keep fb xs S = leave keep S (.p .non) S' := by
  unfold gFn; rw [h]
theorem leave_p {S0 : DH} {x : P} {S : DH} (h : Safe S0 S) : leave false S0 (.p x) S = some (.p x, S.take S0.length) := by
  unfold leave
  rw [if_neg (by decide), if_pos h]
theorem Safe.refl {S : DH} : Safe S S := fun _ _ _ h => .inl h
theorem Safe.app {S Y : DH} : Safe S (S ++ Y) := fun i o hi h => .inl (by rw [List.getElem?_append_left hi] at h; exact h)
theorem Safe.app2 {S T Y : DH} (hl : T.length = S.length) (h : Safe S T) : Safe S (T ++ Y) := fun i o hi e => h i o hi (by rw [List.getElem?_append_left (by omega)] at e; exact e)
theorem leave_same {x : P} {S : DH} : leave false S (.p x) S = some (.p x, S) := by rw [leave_p Safe.refl, List.take_length]
theorem leave_len {S0 : DH} {x : P} {S : DH} (h : S.length = S0.length) (hs : Safe S0 S) : leave false S0 (.p x) S = some (.p x, S) := by rw [leave_p hs, ← h, List.take_length]
end CK
/-! CkN: dict displays. -/
namespace CK
open PySem PySem.Spec PyProof.Rows L2

def evPairs : List (FE × FE) → DS → DH → Option (List (D × D) × DH)
  | [], _, S => some ([], S)
  | (k, v) :: r, ds, S => match k ds S with
    | none => none
    | some (x, S1) => match v ds S1 with
      | none => none
      | some (y, S2) => match evPairs r ds S2 with
        | none => none
        | some (l, S3) => some ((x, y) :: l, S3)
abbrev RDD (K : PySem.W.Frag) (W : Wd) : List (D × D) → List (V × V) → Prop := Paired fun p q => RD K W p.1 q.1 ∧ RD K W p.2 q.2
theorem tPairs_ok {K : PySem.W.Frag} {ds : DS} {σ : L2.St} : ∀ {prs : List (FE × FE)} {W : Wd} {l : List (D × D)} {S' : DH} {H : Hp} {Q : List (V × V) → Hp → Prop}, W.H = H → RS K W → RE K W ds σ → evPairs prs ds W.S = some (l, S') →
    (∀ W' ps, To K W S' W' → RDD K W' l ps → Q ps W'.H) → L2.tPairs (prs.map fun p => (tD K p.1, tD K p.2)) σ H Q
  | [], W, l, S', H, Q, eH, s, re, e, q => by
    subst eH
    cases e
    exact q W [] (To.refl s) .nil
  | (k, v) :: r, W, l, S', H, Q, eH, s, re, e, q => by
    unfold evPairs at e
    split at e
    · cases e
    rename_i x S1 e1
    split at e
    · cases e
    rename_i y S2 e2
    split at e
    · cases e
    rename_i m S3 e3
    cases e
    refine ⟨W, ds, x, S1, eH, s, re, e1, fun W1 u t1 r1 => ⟨W1, ds, y, S2, rfl, t1.s, re.ext t1.x, by rw [t1.e]; exact e2, fun W2 w t2 r2 => ?_⟩⟩
    refine tPairs_ok (W := W2) rfl t2.s (re.ext (t1.x.trans t2.x)) (by rw [t2.e]; exact e3) fun W3 ps t3 r3 => ?_
    exact q W3 _ ((t1.after t2).after t3) (.cons ⟨r1.ext (t2.x.trans t3.x), r2.ext t3.x⟩ r3)
def keysOf : List (D × D) → Option (List (Key × D))
  | [] => some []
  | (x, y) :: r => match keyD x, keysOf r with
    | some (.inl k), some l => some ((k, y) :: l)
    | _, _ => none
theorem keysOf_ok {K : PySem.W.Frag} {W : Wd} : ∀ {l : List (D × D)} {ps : List (V × V)} {kl : List (Key × D)}, keysOf l = some kl → RDD K W l ps → ∃ kvs : List (Key × V), ps = kvs.map (fun kv => (kV kv.1, kv.2)) ∧ RDk K W kl kvs ∧ kvs.length = l.length
  | [], _, _, e, .nil => by cases e; exact ⟨[], rfl, .nil, rfl⟩
  | (x, y) :: r, (u, w) :: ps, _, e, .cons a t => by
    unfold keysOf at e
    split at e
    · rename_i k l e1 e2
      cases e
      obtain ⟨kvs, h1, h2, h3⟩ := keysOf_ok e2 t
      have := keyD_l a.1 e1
      dsimp only at this
      subst this
      exact ⟨(k, w) :: kvs, by rw [h1]; rfl, .cons ⟨rfl, a.2⟩ h2, by rw [List.length_cons, List.length_cons, h3]⟩
    · cases e
def mergeD (acc more : List (Key × D)) : List (Key × D) := more.foldl (fun acc kv => dput acc kv.1 kv.2) acc
theorem mergeD_rel {K : PySem.W.Frag} {W : Wd} : ∀ {more : List (Key × D)} {mv : List (Key × V)} {acc : List (Key × D)} {av : List (Key × V)}, RDk K W more mv → RDk K W acc av → RDk K W (mergeD acc more) (mergeK av mv)
  | [], [], _, _, .nil, h => h
  | (k, x) :: more, (k', v) :: mv, acc, av, .cons a t, h => by
    obtain ⟨e, r⟩ := a
    dsimp only at e r
    subst e
    exact mergeD_rel (more := more) (mv := mv) t (dput_rel h k r)
def allPk : List (Key × D) → Option (List (Key × P))
  | [] => some []
  | (k, .p x) :: r => (allPk r).map ((k, x) :: ·)
  | (_, .ref _) :: _ => none
theorem allPk_rel {K : PySem.W.Frag} {W : Wd} : ∀ {l : List (Key × D)} {vs : List (Key × V)} {ps : List (Key × P)}, allPk l = some ps → RDk K W l vs → RPk K W.H W.L ps vs
  | [], _, _, e, .nil => by cases e; exact .nil
  | (k, .p x) :: r, (k', v) :: vs, _, e, .cons a t => by
    unfold allPk at e
    cases q : allPk r with
    | none => rw [q] at e; cases e
    | some ps =>
      rw [q] at e; cases e
      obtain ⟨e, a⟩ := a
      dsimp only at e a
      subst e
      exact .cons a (allPk_rel q t)
  | (_, .ref _) :: _, _, _, e, _ => by cases e
def fDict (prs : List (FE × FE)) : FE := fun ds S => match evPairs prs ds S with
  | none => none
  | some (l, S1) => match keysOf l with
    | none => none
    | some kl => if l.length ≤ 15 then (allPk (mergeD [] kl)).map fun ps => (.p (.dK ps), S1) else none
def fDictH (prs : List (FE × FE)) : FE := fun ds S => match evPairs prs ds S with
  | none => none
  | some (l, S1) => match keysOf l with
    | none => none
    | some kl => if l.length ≤ 15 then some (.ref S1.length, S1 ++ [.dK (mergeD [] kl)]) else none
section
variable {K : PySem.W.Frag} {prs : List (FE × FE)} {σ : L2.St} {H : Hp} {Q : VK}
theorem disp_core {W : Wd} {ds : DS} {l : List (D × D)} {S1 : DH} {kl : List (Key × D)} (eH : W.H = H) (s : RS K W) (re : RE K W ds σ) (e1 : evPairs prs ds W.S = some (l, S1)) (e2 : keysOf l = some kl) (hl : l.length ≤ 15)
    (q : ∀ (W1 : Wd) (p : Addr) (kvs : List (Key × V)), W.H p = none → Ext W W1 → RS K W1 → W1.R p → W1.S = S1 → W1.H p = some (.dK (mergeK [] kvs)) → RDk K W1 (mergeD [] kl) (mergeK [] kvs) → Q (.ref p) W1.H) : L2.tDisp (prs.map fun p => (tD K p.1, tD K p.2)) σ H Q := by
  subst eH
  intro p hp
  obtain ⟨xh, sh⟩ := hold_start (u := .dK []) rfl s hp
  refine tPairs_ok (W := W.hold p (.dK [])) rfl sh (re.ext xh) e1 fun W1 ps t1 r1 => ?_
  have hR : W1.R p := t1.x.R p (.inr rfl)
  have hH : W1.H p = some (.dK []) := (t1.x.rs p (.inr rfl)).trans upd_same
  obtain ⟨kvs, h1, h2, h3⟩ := keysOf_ok e2 r1
  refine ⟨hH, kvs, h1, by rw [h3]; exact hl, ?_⟩
  exact q (W1.upR p (.dK (mergeK [] kvs))) p kvs hp (upR_ext s hp t1.s hR (xh.trans t1.x)) (upR_s rfl t1.s hR) hR t1.e upd_same (mergeD_rel (Paired.mono (fun _ _ z => ⟨z.1, upR_rd t1.s hR z.2⟩) h2) .nil)
/-- what an expression has laid is locked for good -/
def tFrz (t : TE) : TE := fun σ H Q => t σ H fun x H1 => ∃ d u, x = .ref d ∧ H1 d = some u ∧ Mut (some u) ∧ ∀ od, Q x (upd H1 d (.frz od u))
theorem pe_frz {X : Cx} {e : Expr} {t : TE} (h : PE X e t) : PE X e (tFrz t) := by
  refine ⟨fun pins s σ H Q I hw => thn (h.run pins s σ H _ I hw) fun v s1 ⟨x, H1, I1, r, d, u, ex, hd, mu, q⟩ => ?_⟩
  obtain ⟨od, I2⟩ := I1.lock hd mu
  exact ⟨x, _, I2, r, q od⟩
theorem tD_dict (h : tD K (fDict prs) σ H Q) : tFrz (L2.tDisp (prs.map fun p => (tD K p.1, tD K p.2))) σ H Q := by
  obtain ⟨W, ds, d, S', eH, s, re, e, q⟩ := h
  unfold fDict at e
  split at e
  · cases e
  rename_i l S1 e1
  split at e
  · cases e
  rename_i kl e2
  split at e
  · rename_i hl
    cases hp : allPk (mergeD [] kl) with
    | none => rw [hp] at e; cases e
    | some ps =>
      rw [hp] at e; cases e
      refine disp_core eH s re e1 e2 hl fun W1 p kvs hn x1 s1 hR eS hH r => ?_
      refine ⟨p, _, rfl, hH, True.intro, fun od => ?_⟩
      have x2 := upR_ext (u := .frz od (.dK (mergeK [] kvs))) s hn s1 hR x1
      have s2 := upR_s (u := .frz od (.dK (mergeK [] kvs))) rfl s1 hR
      exact q ((W1.upR p (.frz od (.dK (mergeK [] kvs)))).free W.R) _ ⟨free_ext x1.R x2, free_s x1.R s2, eS⟩
        (RP.dK ⟨od, upd_same⟩ (held_free s hn x2 s2 hR) (allPk_rel hp (Paired.mono (fun _ _ z => ⟨z.1, free_rd (W := W1.upR p (.frz od (.dK (mergeK [] kvs)))) (R := W.R) x1.R (upR_rd s1 hR z.2)⟩) r)))
  · cases e
theorem tD_dictH (h : tD K (fDictH prs) σ H Q) : L2.tDisp (prs.map fun p => (tD K p.1, tD K p.2)) σ H Q := by
  obtain ⟨W, ds, d, S', eH, s, re, e, q⟩ := h
  unfold fDictH at e
  split at e
  · cases e
  rename_i l S1 e1
  split at e
  · cases e
  rename_i kl e2
  split at e
  · rename_i hl
    cases e
    refine disp_core eH s re e1 e2 hl fun W1 p kvs hn x1 s1 hR eS hH r => ?_
    refine q (W1.join W.R p (.dK (mergeD [] kl))) _ ⟨join_ext s hn x1 s1 hR, join_s s hn x1 s1 hR hH ⟨_, hH, Paired.mono (fun _ _ z => ⟨z.1, join_rd s1 x1.R hR z.2⟩) r⟩ (RDk.below s1 r), by rw [← eS]; rfl⟩ ⟨p, ?_, rfl⟩
    show (W1.ι ++ [p])[S1.length]? = some p
    rw [← eS, ← s1.len]; simp
  · cases e
end
/-- keys and values of a display -/
def DPs (X : Cx) (pos : Pos) (keys : List (Option Expr)) (values : List Expr) (prs : List (FE × FE)) : Prop := L2.PPs X pos keys values (prs.map fun p => (tD X.K p.1, tD X.K p.2))
section
variable {X : Cx} {pos : Pos} {k v : Expr} {ks : List (Option Expr)} {vs : List Expr} {fk fv : FE} {prs : List (FE × FE)}
theorem dps_nil : DPs X pos [] [] [] := L2.pps_nil
theorem dps_cons (hk : DE X k fk) (hv : DE X v fv) (hr : DPs X pos ks vs prs) : DPs X pos (some k :: ks) (v :: vs) ((fk, fv) :: prs) := L2.pps_cons hk hv hr
theorem de_dict (h : DPs X pos ks vs prs) (hall : ks.all (·.isSome) = true) (hl : ks.length = vs.length) (h0 : ks ≠ []) (h15 : ks.length ≤ 15) : DE X (.Dict ks vs pos) (fDict prs) := PE.imp (pe_frz (L2.pe_disp h hall hl h0 h15)) fun _ _ _ h => tD_dict h
theorem de_dictH (h : DPs X pos ks vs prs) (hall : ks.all (·.isSome) = true) (hl : ks.length = vs.length) (h0 : ks ≠ []) (h15 : ks.length ≤ 15) : DE X (.Dict ks vs pos) (fDictH prs) := PE.imp (L2.pe_disp h hall hl h0 h15) fun _ _ _ h => tD_dictH h
end
def fNewK : FE := fun _ S => some (.ref S.length, S ++ [.dK []])
def fNewT : FE := fun _ S => some (.ref S.length, S ++ [.dT []])
section
variable {X : Cx} {pos : Pos}
theorem de_empty : DE X (.Dict [] [] pos) (fC (.dK [])) := PE.imp (pe_frz pe_dnewK) fun σ H Q ⟨W, ds, d, S', eH, s, re, e, q⟩ => by
  subst eH
  cases e
  intro p hp
  refine ⟨p, _, rfl, upd_same, True.intro, fun od => ?_⟩
  rw [upd_upd]
  have x := Ext.new (u := .frz od (.dK [])) s hp
  exact q (W.new p (.frz od (.dK []))) _ ⟨x, s.new hp, rfl⟩ (.dK ⟨od, upd_same⟩ (RP.fresh s hp) .nil)
theorem de_newK : DE X (.Dict [] [] pos) fNewK := PE.imp pe_dnewK fun σ H Q ⟨W, ds, d, S', eH, s, re, e, q⟩ => by
  subst eH
  cases e
  intro p hp
  have x := Ext.add (u := .dK []) (o := .dK []) s hp
  refine q (W.add p (.dK []) (.dK [])) _ ⟨x, s.add hp ⟨[], upd_same, .nil⟩ rfl, rfl⟩ ⟨p, ?_, rfl⟩
  show (W.ι ++ [p])[W.S.length]? = some p
  rw [← s.len]; simp
theorem de_newT : DE X (.Dict [] [] pos) fNewT := PE.imp pe_dnewT fun σ H Q ⟨W, ds, d, S', eH, s, re, e, q⟩ => by
  subst eH
  cases e
  intro p hp
  have x := Ext.add (u := .dT []) (o := .dT []) s hp
  refine q (W.add p (.dT []) (.dT [])) _ ⟨x, s.add hp ⟨[], upd_same, .nil⟩ rfl, rfl⟩ ⟨p, ?_, rfl⟩
  show (W.ι ++ [p])[W.S.length]? = some p
  rw [← s.len]; simp
end
@[simp] theorem fDict_eq {prs : List (FE × FE)} {ds : DS} {S : DH} : fDict prs ds S = match evPairs prs ds S with
  | none => none
  | some (l, S1) => match keysOf l with
    | none => none
    | some kl => if l.length ≤ 15 then (allPk (mergeD [] kl)).map fun ps => (.p (.dK ps), S1) else none := rfl
@[simp] theorem fDictH_eq {prs : List (FE × FE)} {ds : DS} {S : DH} : fDictH prs ds S = match evPairs prs ds S with
  | none => none
  | some (l, S1) => match keysOf l with
    | none => none
    | some kl => if l.length ≤ 15 then some (.ref S1.length, S1 ++ [.dK (mergeD [] kl)]) else none := rfl
@[simp] theorem evPairs_nil {ds : DS} {S : DH} : evPairs [] ds S = some ([], S) := rfl
@[simp] theorem evPairs_cons {k v : FE} {r : List (FE × FE)} {ds : DS} {S : DH} : evPairs ((k, v) :: r) ds S = match k ds S with
  | none => none
  | some (x, S1) => match v ds S1 with
    | none => none
    | some (y, S2) => match evPairs r ds S2 with
      | none => none
      | some (l, S3) => some ((x, y) :: l, S3) := rfl
@[simp] theorem fNewK_eq {ds : DS} {S : DH} : fNewK ds S = some (.ref S.length, S ++ [.dK []]) := rfl
@[simp] theorem fNewT_eq {ds : DS} {S : DH} : fNewT ds S = some (.ref S.length, S ++ [.dT []]) := rfl
end CK
/-! CkO: == of plain data is equality. -/
namespace CK
open PySem PySem.Spec PyProof.Rows L2

mutual
/-- plain data: None, whole numbers, texts, tuples and lists of such -/
def clean : P → Bool
  | .non => true
  | .int _ => true
  | .str x => PyData.strOk x
  | .tup l => cleans l
  | .lst l => cleans l
  | _ => false
def cleans : List P → Bool
  | [] => true
  | x :: r => clean x && cleans r
end
mutual
def pdep : P → Nat
  | .tup l => pdeps l + 1
  | .lst l => pdeps l + 1
  | _ => 0
def pdeps : List P → Nat
  | [] => 0
  | x :: r => max (pdep x) (pdeps r)
end
mutual
def py : P → PyData
  | .int i => .int i
  | .str x => .str x
  | .tup l => .tuple (pys l)
  | .lst l => .list (pys l)
  | _ => .none
def pys : List P → List PyData
  | [] => []
  | x :: r => py x :: pys r
end
mutual
theorem py_ok : ∀ {x : P}, clean x = true → toPy x = some (py x) ∧ (py x).canLay0 = true ∧ (py x).depth = pdep x
  | .non, _ => ⟨rfl, rfl, rfl⟩
  | .int _, _ => ⟨rfl, rfl, rfl⟩
  | .str x, h => ⟨rfl, h, rfl⟩
  | .tup l, h => by
    obtain ⟨h1, h2, h3⟩ := pys_ok (l := l) h
    exact ⟨by unfold toPy py; rw [h1]; rfl, h2, by show PyData.depthAll (pys l) + 1 = pdeps l + 1; rw [h3]⟩
  | .lst l, h => by
    obtain ⟨h1, h2, h3⟩ := pys_ok (l := l) h
    exact ⟨by unfold toPy py; rw [h1]; rfl, h2, by show PyData.depthAll (pys l) + 1 = pdeps l + 1; rw [h3]⟩
  | .bl _, h => by cases h
  | .ty _, h => by cases h
  | .ktup _, h => by cases h
  | .ftup _, h => by cases h
  | .flst _, h => by cases h
  | .dK _, h => by cases h
  | .dT _, h => by cases h
theorem pys_ok : ∀ {l : List P}, cleans l = true → toPys l = some (pys l) ∧ PyData.canLayAll0 (pys l) = true ∧ PyData.depthAll (pys l) = pdeps l
  | [], _ => ⟨rfl, rfl, rfl⟩
  | x :: r, h => by
    unfold cleans at h
    rw [Bool.and_eq_true] at h
    obtain ⟨h1, h2, h3⟩ := py_ok h.1
    obtain ⟨h4, h5, h6⟩ := pys_ok h.2
    refine ⟨by unfold toPys pys; rw [h1, h4], ?_, ?_⟩
    · show (PyData.canLay0 (py x) && PyData.canLayAll0 (pys r)) = true
      rw [h2, h5]; rfl
    · show max (PyData.depth (py x)) (PyData.depthAll (pys r)) = max (pdep x) (pdeps r)
      rw [h3, h6]
end
mutual
theorem eqv_clean : ∀ {x y : P}, clean x = true → clean y = true → (PyData.eqv (py x) (py y) = true ↔ x = y)
  | x, y, h, k => by
    cases x with
    | non => cases y <;> first | cases k; done | simp [py, PyData.eqv]
    | int i => cases y <;> first | cases k; done | simp [py, PyData.eqv]
    | str i => cases y <;> first | cases k; done | simp [py, PyData.eqv]
    | tup l =>
      cases y with
      | tup m =>
        have := eqvs_clean (l := l) (m := m) h k
        simp only [py, PyData.eqv, P.tup.injEq]
        exact this
      | _ => first | (cases k; done) | simp [py, PyData.eqv]
    | lst l =>
      cases y with
      | lst m =>
        have := eqvs_clean (l := l) (m := m) h k
        simp only [py, PyData.eqv, P.lst.injEq]
        exact this
      | _ => first | (cases k; done) | simp [py, PyData.eqv]
    | _ => cases h
theorem eqvs_clean : ∀ {l m : List P}, cleans l = true → cleans m = true → (PyData.eqvAll (pys l) (pys m) = true ↔ l = m)
  | [], [], _, _ => by simp [pys, PyData.eqvAll]
  | [], _ :: _, _, _ => by simp [pys, PyData.eqvAll]
  | _ :: _, [], _, _ => by simp [pys, PyData.eqvAll]
  | x :: r, y :: s, h, k => by
    unfold cleans at h k
    rw [Bool.and_eq_true] at h k
    have h1 := eqv_clean h.1 k.1
    have h2 := eqvs_clean h.2 k.2
    simp only [pys, PyData.eqvAll, Bool.and_eq_true, List.cons.injEq]
    exact and_congr h1 h2
end
open Classical in
/-- == of plain data -/
theorem eqD_clean {neg : Bool} {x y : P} {S : DH} (h1 : clean x = true) (h2 : clean y = true) (d1 : pdep x ≤ 64) (d2 : pdep y ≤ 64) : gEqD neg (.p x) (.p y) S = some (.p (.bl (if neg then !decide (x = y) else decide (x = y))), S) := by
  obtain ⟨a1, a2, a3⟩ := py_ok h1
  obtain ⟨b1, b2, b3⟩ := py_ok h2
  have s1 : SeqAt.shaped (py x) = true := by unfold SeqAt.shaped; rw [a2, a3, decide_eq_true d1]; rfl
  have s2 : SeqAt.shaped (py y) = true := by unfold SeqAt.shaped; rw [b2, b3, decide_eq_true d2]; rfl
  have e : PyData.eqv (py x) (py y) = decide (x = y) := by
    rw [Bool.eq_iff_iff, decide_eq_true_eq]
    exact eqv_clean h1 h2
  unfold gEqD
  rw [show toPyD S (.p x) = some (py x) from a1, show toPyD S (.p y) = some (py y) from b1]
  dsimp only
  rw [s1, s2, e]
  rfl
theorem scal_none {x y : P} (hx : flatP x = false) : scalEq x y = none ∧ scalEq y x = none := by
  cases x <;> first | (cases hx; done) | (refine ⟨rfl, ?_⟩; cases y <;> rfl)
open Classical in
theorem gEq_clean {x y : P} {S : DH} (h1 : clean x = true) (h2 : clean y = true) (d1 : pdep x ≤ 64) (d2 : pdep y ≤ 64) : gEq (.p x) (.p y) S = some (.p (.bl (decide (x = y))), S) := by
  by_cases hf : scalEq x y = none
  · rw [gEq_D (by rw [pure2_eq, hf]; rfl), eqD_clean h1 h2 d1 d2]; rfl
  · show (match pure2 (fun x y => (scalEq x y).map fun b => P.bl (if false then !b else b)) (.p x) (.p y) S with | some r => some r | none => gEqD false (.p x) (.p y) S) = _
    rw [pure2_eq]
    have : scalEq x y = some (decide (x = y)) := by
      cases x <;> first | (cases h1; done) | (cases y <;> first | (cases h2; done) | (exact absurd rfl hf) | (simp [scalEq]))
    rw [this]; rfl
open Classical in
theorem gNe_clean {x y : P} {S : DH} (h1 : clean x = true) (h2 : clean y = true) (d1 : pdep x ≤ 64) (d2 : pdep y ≤ 64) : gNe (.p x) (.p y) S = some (.p (.bl (!decide (x = y))), S) := by
  by_cases hf : scalEq x y = none
  · rw [gNe_D (by rw [pure2_eq, hf]; rfl), eqD_clean h1 h2 d1 d2]; rfl
  · show (match pure2 (fun x y => (scalEq x y).map fun b => P.bl (if true then !b else b)) (.p x) (.p y) S with | some r => some r | none => gEqD true (.p x) (.p y) S) = _
    rw [pure2_eq]
    have : scalEq x y = some (decide (x = y)) := by
      cases x <;> first | (cases h1; done) | (cases y <;> first | (cases h2; done) | (exact absurd rfl hf) | (simp [scalEq]))
    rw [this]; rfl
theorem cleans_map_str {l : List Str} (h : ∀ x ∈ l, PyData.strOk x = true) : cleans (l.map P.str) = true ∧ pdeps (l.map P.str) = 0 := by
  induction l with
  | nil => exact ⟨rfl, rfl⟩
  | cons x r ih =>
    obtain ⟨h1, h2⟩ := ih fun y hy => h y (List.mem_cons_of_mem _ hy)
    refine ⟨?_, ?_⟩
    · show (PyData.strOk x && cleans (r.map P.str)) = true
      rw [h x List.mem_cons_self, h1]; rfl
    · show max 0 (pdeps (r.map P.str)) = 0
      rw [h2]; rfl
theorem cleans_all : ∀ {l : List P}, (∀ x ∈ l, clean x = true) → cleans l = true
  | [], _ => rfl
  | x :: r, h => by
    show (clean x && cleans r) = true
    rw [h x List.mem_cons_self, cleans_all fun y hy => h y (List.mem_cons_of_mem _ hy)]; rfl
theorem pdeps_le {n : Nat} : ∀ {l : List P}, (∀ x ∈ l, pdep x ≤ n) → pdeps l ≤ n
  | [], _ => Nat.zero_le _
  | x :: r, h => by
    show max (pdep x) (pdeps r) ≤ n
    exact Nat.max_le.mpr ⟨h x List.mem_cons_self, pdeps_le fun y hy => h y (List.mem_cons_of_mem _ hy)⟩
end CK
/-! CkP: loops and comprehensions by an invariant; texts. -/
namespace CK
open PySem PySem.Spec PyProof.Rows L2

section
variable {chk : DH → Prop} {g : FG} {ft : FT} {fe : FE} {fb : FS} {ds0 : DS}
theorem compL_inv {Inv : Nat → DH → Prop} {Good : D → Prop} : ∀ (l : List D) (n0 k : Nat) (S : DH), k + l.length ≤ 16777216 → Inv n0 S →
    (∀ (n : Nat) (S : DH) (x : D), n0 ≤ n → n < n0 + l.length → x ∈ l → Inv n S → chk S ∧ ∃ ds1 S1, g x ds0 S = some (ds1, S1) ∧
      ((∃ S2, ft ds1 S1 = some (false, S2) ∧ Inv (n + 1) S2) ∨ ∃ S2 y S3, ft ds1 S1 = some (true, S2) ∧ fe ds1 S2 = some (y, S3) ∧ Good y ∧ Inv (n + 1) S3)) →
    (∀ S, Inv (n0 + l.length) S → chk S) → ∃ ys S', compL chk g ft fe ds0 k l S = some (ys, S') ∧ ys.length ≤ l.length ∧ (∀ y ∈ ys, Good y) ∧ Inv (n0 + l.length) S'
  | [], n0, k, S, _, h0, _, hc => ⟨[], S, by rw [compL, if_pos (hc S h0)], Nat.le_refl _, (fun _ h => by cases h), h0⟩
  | x :: r, n0, k, S, hk, h0, hs, hc => by
    rw [List.length_cons] at hk
    obtain ⟨c, ds1, S1, e1, h⟩ := hs n0 S x (Nat.le_refl _) (by simp) List.mem_cons_self h0
    have next : ∀ S2 k, k + r.length ≤ 16777216 → Inv (n0 + 1) S2 → ∃ ys S', compL chk g ft fe ds0 k r S2 = some (ys, S') ∧ ys.length ≤ r.length ∧ (∀ y ∈ ys, Good y) ∧ Inv (n0 + 1 + r.length) S' := fun S2 k hk h2 =>
      compL_inv r (n0 + 1) k S2 hk h2 (fun n S y a b hy hi => hs n S y (by omega) (by simp; omega) (List.mem_cons_of_mem _ hy) hi) (fun S hi => hc S (by rw [List.length_cons]; rw [show n0 + (r.length + 1) = n0 + 1 + r.length by omega]; exact hi))
    rw [compL, if_pos c, e1]
    rw [show n0 + (x :: r).length = n0 + 1 + r.length by simp; omega]
    dsimp only
    rcases h with ⟨S2, e2, h2⟩ | ⟨S2, y, S3, e2, e3, gy, h3⟩
    · obtain ⟨ys, S', e, h4, h5, h6⟩ := next S2 k (by omega) h2
      rw [e2]
      exact ⟨ys, S', e, by rw [List.length_cons]; omega, h5, h6⟩
    · obtain ⟨ys, S', e, h4, h5, h6⟩ := next S3 (k + 1) (by omega) h3
      rw [e2]
      dsimp only
      rw [e3]
      dsimp only
      rw [if_pos (size_lt (by omega)), e]
      refine ⟨y :: ys, S', rfl, by rw [List.length_cons, List.length_cons]; omega, fun z hz => ?_, h6⟩
      rcases List.mem_cons.mp hz with rfl | hz
      · exact gy
      · exact h5 z hz
theorem forL_inv {Inv : Nat → DS → DH → Prop} : ∀ (l : List D) (n0 : Nat) (ds : DS) (S : DH), Inv n0 ds S →
    (∀ (n : Nat) (ds : DS) (S : DH) (x : D), n0 ≤ n → n < n0 + l.length → x ∈ l → Inv n ds S → chk S ∧ ∃ ds1 S1 ds2 S2, g x ds S = some (ds1, S1) ∧ (fb ds1 S1 = some (.nx ds2, S2) ∨ fb ds1 S1 = some (.ct ds2, S2)) ∧ Inv (n + 1) ds2 S2) →
    (∀ ds S, Inv (n0 + l.length) ds S → chk S) → ∃ ds' S', forL chk g fb l ds S = some (.nx ds', S') ∧ Inv (n0 + l.length) ds' S'
  | [], n0, ds, S, h0, _, hc => ⟨ds, S, forL_nil (hc ds S h0), h0⟩
  | x :: r, n0, ds, S, h0, hs, hc => by
    obtain ⟨c, ds1, S1, ds2, S2, e1, e2, h2⟩ := hs n0 ds S x (Nat.le_refl _) (by simp) List.mem_cons_self h0
    obtain ⟨ds', S', e, h⟩ := forL_inv r (n0 + 1) ds2 S2 h2 (fun n ds S y a b hy hi => hs n ds S y (by omega) (by simp; omega) (List.mem_cons_of_mem _ hy) hi) (fun ds S hi => hc ds S (by rw [List.length_cons]; rw [show n0 + (r.length + 1) = n0 + 1 + r.length by omega]; exact hi))
    rw [show n0 + (x :: r).length = n0 + 1 + r.length by simp; omega]
    refine ⟨ds', S', ?_, h⟩
    rcases e2 with e2 | e2
    · rw [forL_nx c e1 e2]; exact e
    · rw [forL_ct c e1 e2]; exact e
/-- each turn in a given state is told: the items are independent -/
theorem forL_each {Inv : DS → Prop} {S : DH} (l : List D) {ds : DS} (h0 : Inv ds) (hk : chk S)
    (hs : ∀ (ds : DS) (x : D), x ∈ l → Inv ds → ∃ ds1 ds2, g x ds S = some (ds1, S) ∧ (fb ds1 S = some (.nx ds2, S) ∨ fb ds1 S = some (.ct ds2, S)) ∧ Inv ds2) : ∃ ds', forL chk g fb l ds S = some (.nx ds', S) ∧ Inv ds' := by
  obtain ⟨ds', S', e, h, rfl⟩ := forL_inv (chk := chk) (g := g) (fb := fb) (Inv := fun _ ds S' => Inv ds ∧ S' = S) l 0 ds S ⟨h0, rfl⟩
    (fun n ds S' x _ _ hx ⟨hi, e⟩ => by
      subst e
      obtain ⟨ds1, ds2, e1, e2, h2⟩ := hs ds x hx hi
      exact ⟨hk, ds1, S', ds2, S', e1, e2, h2, rfl⟩) (fun ds S' ⟨_, e⟩ => by subst e; exact hk)
  exact ⟨ds', e, h⟩
end

/-! ### texts -/
theorem strOk_mk {l : List Nat} : PyData.strOk ⟨l.toArray⟩ = true ↔ ∀ c ∈ l, c < 0x110000 := by
  unfold PyData.strOk
  simp
theorem strOk_iff {x : Str} : PyData.strOk x = true ↔ ∀ c ∈ x.cps.toList, c < 0x110000 := by
  cases x with
  | mk a => cases a with
    | mk l => exact strOk_mk
theorem app_list (x y : Str) : (x ++ y).cps.toList = x.cps.toList ++ y.cps.toList := by
  show (x.cps ++ y.cps).toList = _
  simp
theorem strOk_app {x y : Str} (h1 : PyData.strOk x = true) (h2 : PyData.strOk y = true) : PyData.strOk (x ++ y) = true := by
  rw [strOk_iff] at h1 h2 ⊢
  intro c hc
  rw [app_list, List.mem_append] at hc
  exact hc.elim (h1 c) (h2 c)
theorem app_len (x y : Str) : (x ++ y).length = x.length + y.length := by
  show (x.cps ++ y.cps).size = _
  rw [Array.size_append]; rfl
theorem strOk_cut {x : Str} {lo hi : Option Int} (h : PyData.strOk x = true) : PyData.strOk (cutS x lo hi) = true := by
  rw [strOk_iff] at h
  unfold cutS
  rw [strOk_mk]
  intro c hc
  exact h c (List.mem_of_mem_drop (List.mem_of_mem_take hc))
theorem cut_len (x : Str) (lo hi : Option Int) : (cutS x lo hi).length ≤ x.length := L2.cutS_length x lo hi
theorem empty_is : ("" : Str) = ⟨#[]⟩ := by decide +kernel
theorem join_signs : ∀ cs : List Nat, Txt.join "" (cs.map fun c => (⟨#[c]⟩ : Str)) = ⟨cs.toArray⟩ := by
  have h : ∀ cs : List Nat, (Str.join "" (cs.map fun c => (⟨#[c]⟩ : Str))).cps.toList = cs := by
    intro cs
    induction cs with
    | nil => rfl
    | cons c r ih =>
      cases r with
      | nil => rfl
      | cons d r =>
        show ((⟨#[c]⟩ : Str) ++ "" ++ Str.join "" ((d :: r).map fun c => (⟨#[c]⟩ : Str))).cps.toList = _
        rw [app_list, app_list, ih, empty_is]
        rfl
  intro cs
  rw [TL.join_eq]
  have e := h cs
  cases hx : Str.join "" (cs.map fun c => (⟨#[c]⟩ : Str)) with
  | mk a =>
    rw [hx] at e
    congr 1
    rw [← e]
theorem allStr_signs : ∀ {ys : List D}, (∀ y ∈ ys, ∃ c, y = .p (.str ⟨#[c]⟩)) → ∃ cs : List Nat, ys = cs.map (fun c => .p (.str ⟨#[c]⟩)) ∧ allStr ys = some (cs.map fun c => ⟨#[c]⟩)
  | [], _ => ⟨[], rfl, rfl⟩
  | y :: r, h => by
    obtain ⟨c, rfl⟩ := h y List.mem_cons_self
    obtain ⟨cs, rfl, e⟩ := allStr_signs (ys := r) fun y hy => h y (List.mem_cons_of_mem _ hy)
    exact ⟨c :: cs, rfl, by show (allStr (cs.map fun c => D.p (.str ⟨#[c]⟩))).map _ = _; rw [e]; rfl⟩
theorem gJoin_lst {a : Str} {l : List P} {ys : List Str} {S : DH} (h : allStr (l.map .p) = some ys) (hz : (ys.map (·.length)).sum + ys.length * a.length ≤ 16777216) : gJoin (.p (.str a)) [.p (.lst l)] S = some (.p (.str (Txt.join a ys)), S) := by
  simp [-List.map_map, gJoin, seqD, h, hz]
theorem allP_of : ∀ {ys : List D}, (∀ y ∈ ys, ∃ x, y = .p x) → ∃ ps : List P, ys = ps.map .p ∧ allP ys = some ps
  | [], _ => ⟨[], rfl, rfl⟩
  | y :: r, h => by
    obtain ⟨x, rfl⟩ := h y List.mem_cons_self
    obtain ⟨ps, rfl, e⟩ := allP_of (ys := r) fun y hy => h y (List.mem_cons_of_mem _ hy)
    exact ⟨x :: ps, rfl, by show (allP (ps.map D.p)).map _ = _; rw [e]; rfl⟩
theorem abc_eq : ("abcdefghijklmnopqrstuvwxyz" : Str).cps.toList = (List.range 26).map (97 + ·) := by decide +kernel
theorem abc_length : ("abcdefghijklmnopqrstuvwxyz" : Str).length = 26 := by decide +kernel
/-- the letter at a drawn place -/
theorem gIx_abc {i : Int} {S : DH} (h0 : 0 ≤ i) (h1 : i < 26) : gIx (.p (.str "abcdefghijklmnopqrstuvwxyz")) (.p (.int i)) S = some (.p (.str ⟨#[97 + i.toNat]⟩), S) := by
  refine gIx_str (by rw [abc_length]; decide) ?_
  rw [abc_eq]
  refine atI_ok (n := i.toNat) ?_ (by omega)
  rw [List.getElem?_map, List.getElem?_range (by omega)]; rfl
def letter (c : Nat) : Bool := decide (97 ≤ c) && decide (c ≤ 122)
open Classical in
theorem gEq_cl {x y : P} {S : DH} {b : Bool} (h1 : clean x = true) (h2 : clean y = true) (d1 : pdep x ≤ 64) (d2 : pdep y ≤ 64) (h : b = true ↔ x = y) : gEq (.p x) (.p y) S = some (.p (.bl b), S) := by
  rw [gEq_clean h1 h2 d1 d2]
  have : decide (x = y) = b := by
    rw [Bool.eq_iff_iff, decide_eq_true_eq]; exact h.symm
  rw [this]
open Classical in
theorem gNe_cl {x y : P} {S : DH} {b : Bool} (h1 : clean x = true) (h2 : clean y = true) (d1 : pdep x ≤ 64) (d2 : pdep y ≤ 64) (h : b = true ↔ x = y) : gNe (.p x) (.p y) S = some (.p (.bl (!b)), S) := by
  rw [gNe_clean h1 h2 d1 d2]
  have : decide (x = y) = b := by
    rw [Bool.eq_iff_iff, decide_eq_true_eq]; exact h.symm
  rw [this]
@[simp] theorem sizeLine_is : sizeLine = 16777216 := sizeLine_eq
@[simp] theorem isTy_str {x : Str} {S : DH} : isTy "str" (.p (.str x)) S = true := rfl
theorem atI_mp {α β : Type} {f : α → β} {l : List α} {i : Int} : atI (l.map f) i = (atI l i).map f := by
  unfold atI; rw [List.length_map]; cases ixN l.length i <;> simp
theorem atI_mem {α : Type} {l : List α} {i : Int} (h0 : 0 ≤ i) (h1 : i < l.length) : ∃ x ∈ l, atI l i = some x :=
  ⟨l[i.toNat]'(by omega), List.getElem_mem _, atI_ok (n := i.toNat) (List.getElem?_eq_getElem (by omega)) (by omega)⟩
theorem strIn_abc (c : Nat) : strIn ⟨#[c]⟩ "abcdefghijklmnopqrstuvwxyz" = letter c := by
  show decide (c ∈ ("abcdefghijklmnopqrstuvwxyz" : Str).cps.toList) = _
  rw [abc_eq]
  unfold letter
  rw [Bool.eq_iff_iff]
  simp only [List.mem_map, List.mem_range, decide_eq_true_eq, Bool.and_eq_true]
  exact ⟨fun ⟨a, h, e⟩ => by omega, fun h => ⟨c - 97, by omega, by omega⟩⟩
end CK
/-! CkQ: dict(x) of pairs, of a dict; d.get. -/
namespace CK
open PySem PySem.Spec PyProof.Rows L2

/-- a list, or a tuple that is known to have no dict -/
def SqP (K : PySem.W.Frag) (H : Hp) (a : Addr) (vs : List V) : Prop := SqL K H a vs ∨ Ft H a vs
section
variable {X : Cx} {pins : List (Addr × Obj)} {σ : L2.St} {H : Hp} {s : Shared}
theorem sqp_plain {a : Addr} {vs : List V} (I : Inv X pins σ H s) (h : SqP X.K H a vs) : ∃ (T : String) (its : List Value), (T = "list" ∨ T = "tuple") ∧ Vals vs its ∧ PlainSeq T s.heap a its.toArray ∧ vs.length ≤ sizeLine := by
  rcases h with h | ⟨o, h, hd⟩
  · obtain ⟨its, rv, ⟨o, n, h1, h2, h3, h4⟩, hz⟩ := I.list h
    exact ⟨"list", its, .inl rfl, rv, ⟨o, n, h1, h2, h3, h4⟩, hz⟩
  · obtain ⟨h0, hz, its, rv, o', h1, h2, n, h3⟩ := (show ObjOk X.prog X.w H s.heap a (.frz o (.tup vs)) from I.hok a _ h)
    rw [h0] at h1; cases h1
    exact ⟨"tuple", its, .inr rfl, rv, ⟨o, n, h0, h2, hd, h3⟩, hz⟩
theorem pairK_of (I : Inv X pins σ H s) : ∀ {ps : List Addr} {kvs : List (Key × V)}, Paired (fun p kv => SqT X.K H p [kV kv.1, kv.2]) ps kvs →
    ∃ (vs : List (Key × Value)) (prs : List (Value × Value)), KV kvs vs ∧ vs.length = ps.length ∧ prs.length = ps.length ∧ ∀ (j : Nat) k v, prs[j]? = some (k, v) → ∃ b key, ps[j]? = some b ∧ PairAt s.heap b k v ∧ vs[j]? = some (key, v) ∧ keyIs key k = true
  | _, _, .nil => ⟨[], [], .nil, rfl, rfl, fun j k v e => by simp at e⟩
  | _, _, .cons (a := p) (b := kv) h t => by
    obtain ⟨vs, prs, r, l1, l2, hp⟩ := pairK_of I t
    obtain ⟨its, rv, ht, _⟩ := I.tuple h
    obtain ⟨u, y, ei, ru, ry⟩ := vals2 rv
    subst ei
    refine ⟨(kv.1, y) :: vs, (u, y) :: prs, .cons ⟨rfl, ry⟩ r, by simp [l1], by simp [l2], fun j k v e => ?_⟩
    cases j with
    | zero =>
      have e' : (u, y) = (k, v) := Option.some.inj e
      cases e'
      exact ⟨p, kv.1, rfl, .inl ht, rfl, kV_is (P := X.prog) (w := X.w) ru⟩
    | succ j =>
      obtain ⟨b, key, e1, e2, e3, e4⟩ := hp j k v (by simpa using e)
      exact ⟨b, key, by simpa using e1, e2, by simpa using e3, e4⟩
theorem pairT_of (I : Inv X pins σ H s) : ∀ {ps : List Addr} {kvs : List (List Key × V)}, Paired (fun p kv => ∃ c, SqT X.K H p [.ref c, kv.2] ∧ H c = some (.tup (kv.1.map kV))) ps kvs →
    ∃ (vs : List (List Key × Addr × Value)) (prs : List (Value × Value)), KT H kvs vs ∧ vs.length = ps.length ∧ prs.length = ps.length ∧ ∀ (j : Nat) k v, prs[j]? = some (k, v) → ∃ b key c, ps[j]? = some b ∧ PairAt s.heap b k v ∧ vs[j]? = some (key, c, v) ∧ k = .ref c
  | _, _, .nil => ⟨[], [], .nil, rfl, rfl, fun j k v e => by simp at e⟩
  | _, _, .cons (a := p) (b := kv) ⟨c, h, hc⟩ t => by
    obtain ⟨vs, prs, r, l1, l2, hp⟩ := pairT_of I t
    obtain ⟨its, rv, ht, _⟩ := I.tuple h
    obtain ⟨u, y, ei, ru, ry⟩ := vals2 rv
    subst ei
    cases ru
    refine ⟨(kv.1, c, y) :: vs, (.ref c, y) :: prs, .cons ⟨rfl, hc, ry⟩ r, by simp [l1], by simp [l2], fun j k v e => ?_⟩
    cases j with
    | zero =>
      have e' : (Value.ref c, y) = (k, v) := Option.some.inj e
      cases e'
      exact ⟨p, kv.1, c, rfl, .inl ht, rfl, rfl⟩
    | succ j =>
      obtain ⟨b, key, c', e1, e2, e3, e4⟩ := hp j k v (by simpa using e)
      exact ⟨b, key, c', by simpa using e1, e2, by simpa using e3, e4⟩
end
def mergeT (kvs more : List (List Key × V)) : List (List Key × V) := more.foldl (fun acc kv => putK acc kv.1 kv.2) kvs
theorem KT.merge {H : Hp} : ∀ {more : List (List Key × V)} {rs : List (List Key × Addr × Value)} {kvs : List (List Key × V)} {vs : List (List Key × Addr × Value)}, KT H more rs → KT H kvs vs → KT H (mergeT kvs more) (storedAllH vs rs) := by
  intro more rs kvs vs r
  induction r generalizing kvs vs with
  | nil => intro q; exact q
  | @cons p q ps qs h t ih =>
    intro r0
    have e : KT H (putK kvs p.1 p.2) (storedH vs q.1 q.2.1 q.2.2) := by
      have := r0.put p.1 h.2.1 h.2.2
      rw [← h.1]; exact this
    exact ih e
theorem length_mergeT : ∀ (more kvs : List (List Key × V)), (mergeT kvs more).length ≤ kvs.length + more.length
  | [], kvs => by show kvs.length ≤ kvs.length + 0; omega
  | p :: r, kvs => by
    have h1 := length_mergeT r (putK kvs p.1 p.2)
    have h2 := length_putK kvs p.1 p.2
    show (mergeT (putK kvs p.1 p.2) r).length ≤ _
    rw [List.length_cons]; omega
section
variable {X : Cx}
theorem refs_of {ps : List Addr} {us : List Value} (r : Vals (ps.map V.ref) us) (j : Nat) (b : Addr) (h : ps[j]? = some b) : us[j]? = some (.ref b) := by
  rw [refs_at r, List.getElem?_map, h]; rfl
theorem arg_of {pins : List (Addr × Obj)} {σ : L2.St} {H : Hp} {s : Shared} {a : Addr} {ps : List Addr} {prs : List (Value × Value)} (I : Inv X pins σ H s) (h : SqP X.K H a (ps.map V.ref)) (hl : prs.length = ps.length)
    (hp : ∀ (j : Nat) k v, prs[j]? = some (k, v) → ∃ b, ps[j]? = some b ∧ PairAt s.heap b k v) : ∃ (T : String) (fp : List Addr) (OK : Heap → Prop), PairArg X.prog X.w T a fp [] prs.length (PairRel prs) OK ∧ OK s.heap ∧ prs.length ≤ sizeLine := by
  obtain ⟨T, its, hT, rv, pl, hz⟩ := sqp_plain I h
  have hs := rv.length
  rw [List.length_map] at hz hs
  have hi : PairItems s.heap its.toArray (fun j => ps.getD j 0) prs := by
    refine ⟨by rw [List.size_toArray]; omega, fun j k v e => ?_⟩
    obtain ⟨b, e1, e2⟩ := hp j k v e
    have e3 : ps.getD j 0 = b := by rw [List.getD_eq_getElem?_getD, e1]; rfl
    show its.toArray[j]? = some (Value.ref (ps.getD j 0)) ∧ PairAt s.heap (ps.getD j 0) k v
    rw [e3]
    refine ⟨?_, e2⟩
    simpa using refs_of rv j b e1
  rcases hT with rfl | rfl
  · exact ⟨_, _, _, PairArg.list a its.toArray (fun j => ps.getD j 0) prs, ⟨pl, hi⟩, by omega⟩
  · exact ⟨_, _, _, PairArg.tuple a its.toArray (fun j => ps.getD j 0) prs, ⟨pl, hi⟩, by omega⟩
theorem cr_dictK (hc : X.calm = true) : CallR X (.type "dict") (fun xs H Q => ∃ (a : Addr) (ps : List Addr) (kvs : List (Key × V)), xs = [.ref a] ∧ SqP X.K H a (ps.map V.ref) ∧ Paired (fun p kv => SqT X.K H p [kV kv.1, kv.2]) ps kvs ∧
    ((∀ p, H p = none → Q (.ref p) (upd H p (.dK (mergeK [] kvs)))) ∨ ∀ p od, H p = none → Q (.ref p) (upd H p (.frz od (.dK (mergeK [] kvs)))))) := by
  intro pins s σ H xs us Q I r q
  obtain ⟨a, ps, kvs, ex, hq, hp, q⟩ := q
  subst ex
  obtain ⟨u, eu, rx⟩ := vals1 r
  subst eu
  cases rx
  obtain ⟨vs, prs, rel, l1, l2, hpr⟩ := pairK_of I hp
  obtain ⟨T, fp, OK, P, ok, hz⟩ := arg_of I hq l2 (fun j k v e => by obtain ⟨b, key, e1, e2, _⟩ := hpr j k v e; exact ⟨b, e1, e2⟩)
  refine PySem.call_dict_pairs (knd := mixKind X.prog X.w) (kvs := vs) P (I.ok.hd hc) ok ⟨by omega, fun j k v e => ?_⟩ hz fun h' tk hd' k => ?_
  · obtain ⟨b, key, _, _, e3, e4⟩ := hpr j k v e
    exact ⟨key, e3, e4⟩
  · have hm : (s.heap.objs.size == sysModules) = false := beq_eq_false_iff_ne.mpr (Nat.ne_of_gt I.big)
    have hlen : (mergeK [] kvs).length ≤ sizeLine := by
      refine Nat.le_trans (length_mergeK kvs []) ?_
      rw [List.length_nil, Nat.zero_add, rel.length]
      omega
    have I2 := I.laid (t' := tk) (fun b o e => k b o (fun z => nomatch z) e) (Nat.le_refl _) (show ObjOk X.prog X.w _ _ _ (.dK (mergeK [] kvs)) from ⟨hlen, hm, merged [] vs, KV.merge rel .nil, hd'⟩)
    rcases q with q | q
    · exact ⟨.ref s.heap.objs.size, _, I2, rfl, q _ (I.hok.fresh (Nat.le_refl _))⟩
    · obtain ⟨od, I3⟩ := I2.lock upd_same True.intro
      rw [upd_upd] at I3
      exact ⟨.ref s.heap.objs.size, _, I3, rfl, q _ od (I.hok.fresh (Nat.le_refl _))⟩
theorem cr_dictT (hc : X.calm = true) (hu : X.A.units + 8 < cLine) : CallR X (.type "dict") (fun xs H Q => ∃ (a : Addr) (ps : List Addr) (kvs : List (List Key × V)), xs = [.ref a] ∧ SqP X.K H a (ps.map V.ref) ∧ Paired (fun p kv => ∃ c, SqT X.K H p [.ref c, kv.2] ∧ H c = some (.tup (kv.1.map kV))) ps kvs ∧
    ((∀ p, H p = none → Q (.ref p) (upd H p (.dT (mergeT [] kvs)))) ∨ ∀ p od, H p = none → Q (.ref p) (upd H p (.frz od (.dT (mergeT [] kvs)))))) := by
  intro pins s σ H xs us Q I r q
  obtain ⟨a, ps, kvs, ex, hq, hp, q⟩ := q
  subst ex
  obtain ⟨u, eu, rx⟩ := vals1 r
  subst eu
  cases rx
  obtain ⟨vs, prs, rel, l1, l2, hpr⟩ := pairT_of I hp
  obtain ⟨T, fp, OK, P, ok, hz⟩ := arg_of I hq l2 (fun j k v e => by obtain ⟨b, key, c, e1, e2, _⟩ := hpr j k v e; exact ⟨b, e1, e2⟩)
  have keys : ∀ {l : List (List Key × V)} {m : List (List Key × Addr × Value)}, KT H l m → ∀ x ∈ m, ∃ o its n, s.heap.get? x.2.1 = some o ∧ o.cls = .type "tuple" ∧ o.data = .seq its n ∧ H x.2.1 = some (.tup (x.1.map kV)) ∧ (tupleKind (mixKind X.prog X.w)).is s.heap x.1 x.2.1 := by
    intro l m q
    induction q with
    | nil => intro x hx; exact nomatch hx
    | @cons p q ps qs hq t ih =>
      intro x hx
      rcases List.mem_cons.mp hx with e | hx
      · subst e
        have hc : H x.2.1 = some (.tup (x.1.map kV)) := by rw [← hq.1]; exact hq.2.1
        obtain ⟨_, its, r, o, h1, h2, n, h3⟩ := (show ObjOk X.prog X.w H s.heap x.2.1 (.tup (x.1.map kV)) from I.hok _ _ hc)
        exact ⟨o, its.toArray, n, h1, h2, h3, hc, key_of I.hok hc⟩
      · exact ih x hx
  refine PySem.call_dict_pairsH (knd := tupleKind (mixKind X.prog X.w)) (ps := vs) P (I.ok.hd hc) ?_ ok ⟨by omega, fun j k v e => ?_⟩ (fun h' hk x hx => ?_) hz fun h' tk hd' k => ?_
  · exact tupleKind_room_in1 (A := X.A.in1) (show X.A.units + 1 + 1 < cLine by omega)
  · obtain ⟨b, key, c, _, _, e3, e4⟩ := hpr j k v e
    exact ⟨key, c, e3, e4⟩
  · obtain ⟨o, its, n, h1, h2, h3, h4, h5⟩ := keys rel x hx
    obtain ⟨o', its', n', g1, g2, g3, g4⟩ := h5
    exact ⟨o', its', n', hk _ _ (Nat.ne_of_lt (Heap.lt_size g1)) (fun z => nomatch z) g1, g2, g3, g4⟩
  · have hm : (s.heap.objs.size == sysModules) = false := beq_eq_false_iff_ne.mpr (Nat.ne_of_gt I.big)
    have hlen : (mergeT [] kvs).length ≤ sizeLine := by
      refine Nat.le_trans (length_mergeT kvs []) ?_
      rw [List.length_nil, Nat.zero_add, Paired.length rel]
      omega
    obtain ⟨o, es, ep, g1, g2, g3, g4, g5, g6⟩ := hd'
    have hn : ∀ b xs, H b = some (.tup xs) → upd H s.heap.objs.size (.dT (mergeT [] kvs)) b = some (.tup xs) := fun b xs e => by
      have : b ≠ s.heap.objs.size := by
        obtain ⟨_, its, r, o, h1, _⟩ := (show ObjOk X.prog X.w H s.heap b (.tup xs) from I.hok _ _ e)
        exact Nat.ne_of_lt (Heap.lt_size h1)
      exact (upd_ne this).trans e
    have I2 := I.laid (t' := tk) (fun b o e => k b o (fun z => nomatch z) e) (Nat.le_refl _)
      (show ObjOk X.prog X.w _ _ _ (.dT (mergeT [] kvs)) from ⟨hlen, hm, storedAllH [] vs, (KT.merge rel .nil).keeps hn, o, es, ep, g1, g2, g3, g4, g6⟩)
    rcases q with q | q
    · exact ⟨.ref s.heap.objs.size, _, I2, rfl, q _ (I.hok.fresh (Nat.le_refl _))⟩
    · obtain ⟨od, I3⟩ := I2.lock upd_same True.intro
      rw [upd_upd] at I3
      exact ⟨.ref s.heap.objs.size, _, I3, rfl, q _ od (I.hok.fresh (Nat.le_refl _))⟩
theorem call_dictDF : CallR X (.type "dict") (fun xs H Q => ∃ (a : Addr) (kvs : List (Key × V)), xs = [.ref a] ∧ Rd H a (.dK kvs) ∧ ((∀ p, H p = none → Q (.ref p) (upd H p (.dK kvs))) ∨ ∀ p od, H p = none → Q (.ref p) (upd H p (.frz od (.dK kvs))))) := by
  intro pins s σ H xs us Q I r q
  obtain ⟨a, kvs, ex, hd, q⟩ := q
  subst ex
  obtain ⟨u, eu, rx⟩ := vals1 r
  subst eu
  cases rx
  obtain ⟨z, lo, vs, rel, dd⟩ := dk_rd I.hok hd
  refine kt_call_dict lo dd (by rw [← rel.length]; exact z) fun h' d' hs => ?_
  have hm : (s.heap.objs.size == sysModules) = false := beq_eq_false_iff_ne.mpr (Nat.ne_of_gt I.big)
  have I2 := I.laid (t' := s.toks) (fun b u e => (hs.2 b (Nat.ne_of_lt (Heap.lt_size e))).trans (Heap.get?_push_of_some _ e)) (Nat.le_refl _)
    (show ObjOk X.prog X.w _ _ _ (.dK kvs) from ⟨z, hm, vs, rel, d'⟩)
  rcases q with q | q
  · exact ⟨.ref s.heap.objs.size, _, I2, rfl, q _ (I.hok.fresh (Nat.le_refl _))⟩
  · obtain ⟨od, I3⟩ := I2.lock upd_same True.intro
    rw [upd_upd] at I3
    exact ⟨.ref s.heap.objs.size, _, I3, rfl, q _ od (I.hok.fresh (Nat.le_refl _))⟩
end

/-! ### by values -/
/-- the items of a list, or of a tuple without a dict -/
def srcP (S : DH) : D → Option (List P)
  | .p (.lst l) => some l
  | .p (.flst l) => some l
  | .p (.ftup l) => some l
  | .ref i => match S[i]? with
    | some (.lst l) => allP l
    | _ => none
  | _ => none
theorem srcP_ok {K : PySem.W.Frag} {W : Wd} (s : RS K W) {d : D} {v : V} {l : List P} (r : RD K W d v) (h : srcP W.S d = some l) : ∃ a vs, v = .ref a ∧ SqP K W.H a vs ∧ RPs K W.H W.L l vs := by
  unfold srcP at h
  split at h
  · cases h; cases r with | lst h1 _ h2 => exact ⟨_, _, rfl, .inl (SqL.of h1), h2⟩
  · cases h; cases r with | flst h1 h2 => exact ⟨_, _, rfl, .inl (flst_sq h1), h2⟩
  · cases h; cases r with | ftup h1 _ h2 => exact ⟨_, _, rfl, .inr h1, h2⟩
  · rename_i i
    obtain ⟨a, ea, rfl⟩ := r
    split at h
    · rename_i l' el
      obtain ⟨vs, h1, h2⟩ := s.obj i _ a el ea
      exact ⟨a, vs, rfl, .inl (SqL.of h1), allP_rel h h2⟩
    · cases h
  · cases h
def pair2 : P → Option (P × P)
  | .tup [a, b] => some (a, b)
  | .ktup [a, b] => some (a, b)
  | .ftup [a, b] => some (a, b)
  | _ => none
section
variable {K : PySem.W.Frag} {H : Hp} {L : Addr → Prop}
theorem rps2 {a b : P} {vs : List V} (r : RPs K H L [a, b] vs) : ∃ u w, vs = [u, w] ∧ RP K H L a u ∧ RP K H L b w := by
  cases r with
  | cons h1 t =>
    cases t with
    | cons h2 t => cases t; exact ⟨_, _, rfl, h1, h2⟩
theorem pair2_ok {x : P} {v : V} {a b : P} (r : RP K H L x v) (h : pair2 x = some (a, b)) : ∃ p u w, v = .ref p ∧ SqT K H p [u, w] ∧ RP K H L a u ∧ RP K H L b w := by
  unfold pair2 at h
  split at h
  · cases h; cases r with | tup h1 h2 => obtain ⟨u, w, rfl, r1, r2⟩ := rps2 h2; exact ⟨_, u, w, rfl, SqT.of h1, r1, r2⟩
  · cases h; cases r with | ktup h1 h2 => obtain ⟨u, w, rfl, r1, r2⟩ := rps2 h2; exact ⟨_, u, w, rfl, h1.sq, r1, r2⟩
  · cases h; cases r with | ftup h1 _ h2 => obtain ⟨u, w, rfl, r1, r2⟩ := rps2 h2; exact ⟨_, u, w, rfl, h1.sq, r1, r2⟩
  · cases h
def keyP : P → Option Key
  | .int i => some (.inl i)
  | .str x => some (.inr x)
  | _ => none
def keyT : P → Option (List Key)
  | .tup l => keysP l
  | _ => none
def prsK : List P → Option (List (Key × P))
  | [] => some []
  | x :: r => match pair2 x with
    | none => none
    | some (a, b) => match keyP a with
      | none => none
      | some k => (prsK r).map ((k, b) :: ·)
def prsT : List P → Option (List (List Key × P))
  | [] => some []
  | x :: r => match pair2 x with
    | none => none
    | some (a, b) => match keyT a with
      | none => none
      | some k => (prsT r).map ((k, b) :: ·)
theorem prsK_ok : ∀ {l : List P} {vs : List V} {kl : List (Key × P)}, RPs K H L l vs → prsK l = some kl → ∃ (ps : List Addr) (kvs : List (Key × V)), vs = ps.map V.ref ∧ Paired (fun p kv => SqT K H p [kV kv.1, kv.2]) ps kvs ∧ RPk K H L kl kvs
  | [], _, _, .nil, e => by cases e; exact ⟨[], [], rfl, .nil, .nil⟩
  | x :: r, _, _, .cons h t, e => by
    unfold prsK at e
    split at e
    · cases e
    rename_i a b e1
    split at e
    · cases e
    rename_i k e2
    cases e3 : prsK r with
    | none => rw [e3] at e; cases e
    | some kl =>
      rw [e3] at e; cases e
      obtain ⟨ps, kvs, rfl, h1, h2⟩ := prsK_ok t e3
      obtain ⟨p, u, w, rfl, h3, r1, r2⟩ := pair2_ok h e1
      have : u = kV k := by
        unfold keyP at e2
        split at e2
        · cases e2; cases r1; rfl
        · cases e2; cases r1; rfl
        · cases e2
      subst this
      exact ⟨p :: ps, (k, w) :: kvs, rfl, .cons h3 h1, .cons r2 h2⟩
theorem prsT_ok : ∀ {l : List P} {vs : List V} {kl : List (List Key × P)}, RPs K H L l vs → prsT l = some kl → ∃ (ps : List Addr) (kvs : List (List Key × V)), vs = ps.map V.ref ∧ Paired (fun p kv => ∃ c, SqT K H p [.ref c, kv.2] ∧ H c = some (.tup (kv.1.map kV))) ps kvs ∧ RPt K H L kl kvs
  | [], _, _, .nil, e => by cases e; exact ⟨[], [], rfl, .nil, .nil⟩
  | x :: r, _, _, .cons h t, e => by
    unfold prsT at e
    split at e
    · cases e
    rename_i a b e1
    split at e
    · cases e
    rename_i k e2
    cases e3 : prsT r with
    | none => rw [e3] at e; cases e
    | some kl =>
      rw [e3] at e; cases e
      obtain ⟨ps, kvs, rfl, h1, h2⟩ := prsT_ok t e3
      obtain ⟨p, u, w, rfl, h3, r1, r2⟩ := pair2_ok h e1
      unfold keyT at e2
      split at e2
      · rename_i l
        cases r1 with
        | tup g1 g2 =>
          have := keysP_ok g2 e2
          subst this
          exact ⟨p :: ps, (k, w) :: kvs, rfl, .cons ⟨_, h3, g1⟩ h1, .cons r2 h2⟩
      · cases e2
end
def mergeG {κ α : Type} [DecidableEq κ] (acc more : List (κ × α)) : List (κ × α) := more.foldl (fun acc kv => dput acc kv.1 kv.2) acc
section
variable {K : PySem.W.Frag} {W : Wd}
theorem mergeG_k : ∀ {more : List (Key × D)} {mv : List (Key × V)} {acc : List (Key × D)} {av : List (Key × V)}, RDk K W more mv → RDk K W acc av → RDk K W (mergeG acc more) (mergeK av mv)
  | [], [], _, _, .nil, h => h
  | (k, x) :: more, (k', v) :: mv, acc, av, .cons a t, h => by
    obtain ⟨e, r⟩ := a
    dsimp only at e r
    subst e
    exact mergeG_k (more := more) (mv := mv) t (dput_rel h k r)
theorem mergeG_t : ∀ {more : List (List Key × D)} {mv : List (List Key × V)} {acc : List (List Key × D)} {av : List (List Key × V)}, RDk K W more mv → RDk K W acc av → RDk K W (mergeG acc more) (mergeT av mv)
  | [], [], _, _, .nil, h => h
  | (k, x) :: more, (k', v) :: mv, acc, av, .cons a t, h => by
    obtain ⟨e, r⟩ := a
    dsimp only at e r
    subst e
    exact mergeG_t (more := more) (mv := mv) t (dput_rel h k r)
theorem dput_map {κ α β : Type} [DecidableEq κ] (f : α → β) (l : List (κ × α)) (k : κ) (x : α) : dput (l.map fun q => (q.1, f q.2)) k (f x) = (dput l k x).map fun q => (q.1, f q.2) := by
  unfold dput
  rw [List.any_map]
  show (if (l.any fun kv => decide (kv.1 = k)) = true then _ else _) = _
  split
  · rw [List.map_map, List.map_map]
    refine List.map_congr_left fun q _ => ?_
    show (if q.1 = k then _ else _) = _
    by_cases h : q.1 = k <;> simp [h]
  · simp
theorem mergeG_map {κ α β : Type} [DecidableEq κ] (f : α → β) : ∀ (more acc : List (κ × α)), mergeG (acc.map fun q => (q.1, f q.2)) (more.map fun q => (q.1, f q.2)) = (mergeG acc more).map fun q => (q.1, f q.2)
  | [], _ => rfl
  | q :: r, acc => by
    show mergeG (dput _ q.1 (f q.2)) (r.map _) = _
    rw [dput_map, mergeG_map f r]; rfl
theorem rpk_of_d : ∀ {l : List (Key × P)} {kvs : List (Key × V)}, RDk K W (l.map fun q => (q.1, D.p q.2)) kvs → RPk K W.H W.L l kvs
  | [], _, .nil => .nil
  | (k, x) :: l, (k', v) :: kvs, .cons h t => by
    obtain ⟨e, r⟩ := h
    dsimp only at e r
    subst e
    exact .cons r (rpk_of_d t)
theorem rpt_of_d : ∀ {l : List (List Key × P)} {kvs : List (List Key × V)}, RDk K W (l.map fun q => (q.1, D.p q.2)) kvs → RPt K W.H W.L l kvs
  | [], _, .nil => .nil
  | (k, x) :: l, (k', v) :: kvs, .cons h t => by
    obtain ⟨e, r⟩ := h
    dsimp only at e r
    subst e
    exact .cons r (rpt_of_d t)
theorem mergeG_pk {more : List (Key × P)} {mv : List (Key × V)} (h : RPk K W.H W.L more mv) : RPk K W.H W.L (mergeG [] more) (mergeK [] mv) := by
  refine rpk_of_d ?_
  rw [← mergeG_map D.p more []]
  exact mergeG_k (rpk_d h) .nil
theorem mergeG_pt {more : List (List Key × P)} {mv : List (List Key × V)} (h : RPt K W.H W.L more mv) : RPt K W.H W.L (mergeG [] more) (mergeT [] mv) := by
  refine rpt_of_d ?_
  rw [← mergeG_map D.p more []]
  exact mergeG_t (rpt_d h) .nil
theorem new_dK {od : Obj} {p : Addr} {l : List (Key × P)} {kvs : List (Key × V)} (s : RS K W) (hp : W.H p = none) (r : RPk K W.H W.L l kvs) : To K W W.S (W.new p (.frz od (.dK kvs))) ∧ RD K (W.new p (.frz od (.dK kvs))) (.p (.dK l)) (.ref p) := by
  have x := Ext.new (u := .frz od (.dK kvs)) s hp
  exact ⟨⟨x, s.new hp, rfl⟩, RP.dK ⟨od, upd_same⟩ (RP.fresh s hp) (RPk.mono x.keep x.tups r)⟩
theorem new_dT {od : Obj} {p : Addr} {l : List (List Key × P)} {kvs : List (List Key × V)} (s : RS K W) (hp : W.H p = none) (r : RPt K W.H W.L l kvs) : To K W W.S (W.new p (.frz od (.dT kvs))) ∧ RD K (W.new p (.frz od (.dT kvs))) (.p (.dT l)) (.ref p) := by
  have x := Ext.new (u := .frz od (.dT kvs)) s hp
  exact ⟨⟨x, s.new hp, rfl⟩, RP.dT ⟨od, upd_same⟩ (RP.fresh s hp) (RPt.mono x.keep x.tups r)⟩
theorem add_dK {p : Addr} {l : List (Key × D)} {kvs : List (Key × V)} (s : RS K W) (hp : W.H p = none) (r : RDk K W l kvs) : To K W (W.S ++ [.dK l]) (W.add p (.dK kvs) (.dK l)) ∧ RD K (W.add p (.dK kvs) (.dK l)) (.ref W.S.length) (.ref p) := by
  have x := Ext.add (u := .dK kvs) (o := .dK l) s hp
  refine ⟨⟨x, s.add hp ⟨kvs, upd_same, RDk.ext x r⟩ (RDk.below s r), rfl⟩, p, ?_, rfl⟩
  show (W.ι ++ [p])[W.S.length]? = some p
  rw [← s.len]; simp
end
/-- dict(x), keys whole numbers or texts: as a value -/
def gDict : GN := fun xs S => match xs with
  | [x] => match srcP S x with
    | some l => (prsK l).map fun kl => (.p (.dK (mergeG [] kl)), S)
    | none => match dictD S x with
      | some (.inl l) => (allPk l).map fun ps => (.p (.dK ps), S)
      | _ => none
  | _ => none
/-- on the heap of its own -/
def gDictH : GN := fun xs S => match xs with
  | [x] => match srcP S x with
    | some l => (prsK l).map fun kl => (.ref S.length, S ++ [.dK ((mergeG [] kl).map fun q => (q.1, .p q.2))])
    | none => match dictD S x with
      | some (.inl l) => some (.ref S.length, S ++ [.dK l])
      | _ => none
  | _ => none
/-- keys tuples -/
def gDictT : GN := fun xs S => match xs with
  | [x] => match srcP S x with
    | some l => (prsT l).map fun kl => (.p (.dT (mergeG [] kl)), S)
    | none => none
  | _ => none
theorem rds1 {K : PySem.W.Frag} {W : Wd} {x : D} {vs : List V} (r : RDs K W [x] vs) : ∃ v, vs = [v] ∧ RD K W x v := by
  cases r with
  | cons a t => cases t; exact ⟨_, rfl, a⟩
section
variable {X : Cx}
theorem f_dict (hc : X.calm = true) : Fun1 X (.type "dict") gDict := by
  refine ⟨_, CallR.or (cr_dictK hc) call_dictDF, ?_⟩
  intro W xs vs z S' Q s r e q
  unfold gDict at e
  split at e
  · rename_i x
    obtain ⟨v, rfl, rv⟩ := rds1 r
    split at e
    · rename_i l el
      cases ek : prsK l with
      | none => rw [ek] at e; cases e
      | some kl =>
        rw [ek] at e; cases e
        obtain ⟨a, vs, rfl, h1, h2⟩ := srcP_ok s rv el
        obtain ⟨ps, kvs, rfl, h3, h4⟩ := prsK_ok h2 ek
        refine .inl ⟨a, ps, kvs, rfl, h1, h3, .inr fun p od hp => ?_⟩
        obtain ⟨t, r⟩ := new_dK s hp (mergeG_pk h4)
        exact q _ _ t r
    · split at e
      · rename_i l el
        cases ek : allPk l with
        | none => rw [ek] at e; cases e
        | some ps =>
          rw [ek] at e; cases e
          obtain ⟨a, rfl, kvs, h1, h2⟩ := dictD_ok s rv el
          refine .inr ⟨a, kvs, rfl, h1, .inr fun p od hp => ?_⟩
          obtain ⟨t, r⟩ := new_dK s hp (allPk_rel ek h2)
          exact q _ _ t r
      · cases e
  · cases e
theorem f_dictH (hc : X.calm = true) : Fun1 X (.type "dict") gDictH := by
  refine ⟨_, CallR.or (cr_dictK hc) call_dictDF, ?_⟩
  intro W xs vs z S' Q s r e q
  unfold gDictH at e
  split at e
  · rename_i x
    obtain ⟨v, rfl, rv⟩ := rds1 r
    split at e
    · rename_i l el
      cases ek : prsK l with
      | none => rw [ek] at e; cases e
      | some kl =>
        rw [ek] at e; cases e
        obtain ⟨a, vs, rfl, h1, h2⟩ := srcP_ok s rv el
        obtain ⟨ps, kvs, rfl, h3, h4⟩ := prsK_ok h2 ek
        refine .inl ⟨a, ps, kvs, rfl, h1, h3, .inl fun p hp => ?_⟩
        obtain ⟨t, r⟩ := add_dK s hp (rpk_d (mergeG_pk h4))
        exact q _ _ t r
    · split at e
      · rename_i l el
        cases e
        obtain ⟨a, rfl, kvs, h1, h2⟩ := dictD_ok s rv el
        refine .inr ⟨a, kvs, rfl, h1, .inl fun p hp => ?_⟩
        obtain ⟨t, r⟩ := add_dK s hp h2
        exact q _ _ t r
      · cases e
  · cases e
theorem f_dictT (hc : X.calm = true) (hu : X.A.units + 8 < cLine) : Fun1 X (.type "dict") gDictT := by
  refine ⟨_, cr_dictT hc hu, ?_⟩
  intro W xs vs z S' Q s r e q
  unfold gDictT at e
  split at e
  · rename_i x
    obtain ⟨v, rfl, rv⟩ := rds1 r
    split at e
    · rename_i l el
      cases ek : prsT l with
      | none => rw [ek] at e; cases e
      | some kl =>
        rw [ek] at e; cases e
        obtain ⟨a, vs, rfl, h1, h2⟩ := srcP_ok s rv el
        obtain ⟨ps, kvs, rfl, h3, h4⟩ := prsT_ok h2 ek
        refine ⟨a, ps, kvs, rfl, h1, h3, .inr fun p od hp => ?_⟩
        obtain ⟨t, r⟩ := new_dT s hp (mergeG_pt h4)
        exact q _ _ t r
    · cases e
  · cases e
end
/-! ### d.get -/
def fGet1 (fo fk : FE) : FE := fun ds S => match fo ds S with
  | none => none
  | some (x, S1) => match dictD S1 x with
    | none => none
    | some _ => match fk ds S1 with
      | none => none
      | some (k, S2) => match dget S2 x k with
        | none => none
        | some o => some (o.getD (.p .non), S2)
def fGet2 (fo fk fd : FE) : FE := fun ds S => match fo ds S with
  | none => none
  | some (x, S1) => match dictD S1 x with
    | none => none
    | some _ => match fk ds S1 with
      | none => none
      | some (k, S2) => match fd ds S2 with
        | none => none
        | some (y, S3) => match dget S3 x k with
          | none => none
          | some o => some (o.getD y, S3)
theorem isD_of {K : PySem.W.Frag} {W : Wd} (s : RS K W) {d : D} {v : V} {kd : KD} (r : RD K W d v) (h : dictD W.S d = some kd) : ∃ a, v = .ref a ∧ IsD W.H a := by
  obtain ⟨a, rfl, h⟩ := dictD_ok s r h
  cases kd with
  | inl l => obtain ⟨kvs, h1, _⟩ := h; exact ⟨a, rfl, .inl ⟨kvs, h1⟩⟩
  | inr l => obtain ⟨kvs, h1, _⟩ := h; exact ⟨a, rfl, .inr ⟨kvs, h1⟩⟩
section
variable {X : Cx} {o e f : Expr} {apos cpos : Pos} {fo fk fd : FE}
theorem de_get1 (hu : X.A.units + 1 < cLine) (ho : DE X o fo) (he : DE X e fk) (m : M1 X o "get" apos e cpos) : DE X (.Call (.Attribute o "get" apos) [e] [] cpos) (fGet1 fo fk) :=
  PE.imp (pe_dget1 hu ho he m) fun σ H Q ⟨W, ds, d, S', eH, s, re, ev, q⟩ => by
    unfold fGet1 at ev
    split at ev
    · cases ev
    rename_i x S1 e1
    split at ev
    · cases ev
    rename_i kd e0
    split at ev
    · cases ev
    rename_i k S2 e2
    split at ev
    · cases ev
    rename_i ov e3
    cases ev
    refine ⟨W, ds, x, S1, eH, s, re, e1, fun W1 u t1 r1 => ?_⟩
    obtain ⟨a, rfl, hd⟩ := isD_of t1.s r1 (by rw [t1.e]; exact e0)
    refine ⟨a, rfl, hd, W1, ds, k, S', rfl, t1.s, re.ext t1.x, by rw [t1.e]; exact e2, fun W2 w t2 r2 => ?_⟩
    obtain ⟨a', ov', ea, g, h⟩ := dget_ok t2.s (r1.ext t2.x) r2 (by rw [t2.e]; exact e3)
    cases ea
    refine ⟨ov', g, q W2 _ (t1.after t2) ?_⟩
    rcases h with ⟨rfl, rfl⟩ | ⟨x, u, rfl, rfl, h⟩
    · exact .non
    · exact h
theorem de_get2 (hu : X.A.units + 1 < cLine) (ho : DE X o fo) (he : DE X e fk) (hf : DE X f fd) (m : M2 X o "get" apos e f cpos) : DE X (.Call (.Attribute o "get" apos) [e, f] [] cpos) (fGet2 fo fk fd) :=
  PE.imp (pe_dget2 hu ho he hf m) fun σ H Q ⟨W, ds, d, S', eH, s, re, ev, q⟩ => by
    unfold fGet2 at ev
    split at ev
    · cases ev
    rename_i x S1 e1
    split at ev
    · cases ev
    rename_i kd e0
    split at ev
    · cases ev
    rename_i k S2 e2
    split at ev
    · cases ev
    rename_i y S3 e4
    split at ev
    · cases ev
    rename_i ov e3
    cases ev
    refine ⟨W, ds, x, S1, eH, s, re, e1, fun W1 u t1 r1 => ?_⟩
    obtain ⟨a, rfl, hd⟩ := isD_of t1.s r1 (by rw [t1.e]; exact e0)
    refine ⟨a, rfl, hd, W1, ds, k, S2, rfl, t1.s, re.ext t1.x, by rw [t1.e]; exact e2, fun W2 w t2 r2 => ⟨W2, ds, y, S', rfl, t2.s, re.ext (t1.x.trans t2.x), by rw [t2.e]; exact e4, fun W3 w3 t3 r3 => ?_⟩⟩
    obtain ⟨a', ov', ea, g, h⟩ := dget_ok t3.s (r1.ext (t2.x.trans t3.x)) (r2.ext t3.x) (by rw [t3.e]; exact e3)
    cases ea
    refine ⟨ov', g, q W3 _ ((t1.after t2).after t3) ?_⟩
    rcases h with ⟨rfl, rfl⟩ | ⟨x, u, rfl, rfl, h⟩
    · exact r3
    · exact h
end
end CK
/-! CkR: walks over dicts; locks. -/
namespace CK
open PySem PySem.Spec PyProof.Rows L2

def kP : Key → P
  | .inl i => .int i
  | .inr x => .str x
def kTP (k : List Key) : P := .tup (k.map kP)
theorem kP_ok {K : PySem.W.Frag} {H : Hp} {L : Addr → Prop} : ∀ k : Key, RP K H L (kP k) (kV k)
  | .inl i => .int i
  | .inr x => .str x
theorem kPs_ok {K : PySem.W.Frag} {H : Hp} {L : Addr → Prop} : ∀ k : List Key, RPs K H L (k.map kP) (k.map kV)
  | [] => .nil
  | k :: r => .cons (kP_ok k) (kPs_ok r)
def itK (S : DH) : D → Option (List D)
  | .p (.dK l) => some (l.map fun q => .p (kP q.1))
  | .p (.dT l) => some (l.map fun q => .p (kTP q.1))
  | .ref i => match S[i]? with
    | some (.kK l) => some (l.map fun q => .p (kP q.1))
    | some (.kT l) => some (l.map fun q => .p (kTP q.1))
    | _ => none
  | _ => none
/-- over a dict (locked, where it stands on the own heap) -/
def fItK (fe : FE) : FI := fun ds S => match fe ds S with
  | none => none
  | some (d, S1) => match itK S1 d with
    | none => none
    | some l => some (l, fun _ => True, S1)
section
variable {K : PySem.W.Frag} {W0 : Wd} {a : Addr} {o : Obj}
theorem keys_get {κ : Type} {F : κ → D} {l : List (κ × D)} {kvs : List (κ × V)} {i : Nat} {d : D} (r : RDk K W0 l kvs) (e : (l.map fun q => F q.1)[i]? = some d) : ∃ k v, kvs[i]? = some (k, v) ∧ d = F k := by
  rw [List.getElem?_map] at e
  cases h : l[i]? with
  | none => rw [h] at e; cases e
  | some q =>
    rw [h] at e; cases e
    obtain ⟨kv, h1, h2, _⟩ := paired_get r h
    exact ⟨kv.1, kv.2, h1, by show F q.1 = F kv.1; rw [h2]⟩
theorem wk_keysK {l : List (Key × D)} {kvs : List (Key × V)} (h : W0.H a = some (.frz o (.dK kvs))) (r : RDk K W0 l kvs) : Wk K W0 (l.map fun q => .p (kP q.1)) (fun _ => True) (Itk a o kvs) where
  go := fun W i d x s _ e => by
    obtain ⟨k, v, h1, rfl⟩ := keys_get (F := fun k => D.p (kP k)) r e
    refine ⟨⟨x.frz _ _ _ h, get_lt h1⟩, fun u H' y => ?_⟩
    obtain ⟨e1, k', v', h2, rfl⟩ := y
    rw [h1] at h2; cases h2
    exact ⟨W, e1.symm, To.refl s, kP_ok k⟩
  stop := fun W x s _ => ⟨x.frz _ _ _ h, by rw [List.length_map, Paired.length r]; exact Nat.le_refl _⟩
theorem wk_keysT {l : List (List Key × D)} {kvs : List (List Key × V)} (h : W0.H a = some (.frz o (.dT kvs))) (r : RDk K W0 l kvs) : Wk K W0 (l.map fun q => .p (kTP q.1)) (fun _ => True) (Itkt a o kvs) where
  go := fun W i d x s _ e => by
    obtain ⟨k, v, h1, rfl⟩ := keys_get (F := fun k => D.p (kTP k)) r e
    refine ⟨⟨x.frz _ _ _ h, get_lt h1⟩, fun u H' y => ?_⟩
    obtain ⟨e1, k', v', q, h2, rfl, h3⟩ := y
    rw [h1] at h2; cases h2
    exact ⟨W, e1.symm, To.refl s, .tup h3 (kPs_ok k)⟩
  stop := fun W x s _ => ⟨x.frz _ _ _ h, by rw [List.length_map, Paired.length r]; exact Nat.le_refl _⟩
end
theorem di_keys {X : Cx} {tg e : Expr} {fe : FE} (he : DE X e fe) : DI X tg e (fItK fe) := PI.imp (pi_keys he) fun σ H R ⟨W, ds, its, chk, S', eH, s, re, e, q⟩ => by
  unfold fItK at e
  split at e
  · cases e
  rename_i d S1 e1
  split at e
  · cases e
  rename_i l e2
  cases e
  refine ⟨W, ds, _, _, eH, s, re, e1, fun W1 v t1 r1 => ?_⟩
  cases d with
  | p x =>
    cases x with
    | dK l =>
      cases e2
      have r0 := r1
      cases r1 with
      | dK h1 _ h2 =>
        obtain ⟨o, h1⟩ := h1
        refine ⟨_, o, rfl, .inl ⟨_, h1, q W1 _ t1 ?_⟩⟩
        have := wk_keysK h1 (rpk_d h2)
        rw [List.map_map] at this
        exact this
    | dT l =>
      cases e2
      cases r1 with
      | dT h1 _ h2 =>
        obtain ⟨o, h1⟩ := h1
        refine ⟨_, o, rfl, .inr ⟨_, h1, q W1 _ t1 ?_⟩⟩
        have := wk_keysT h1 (rpt_d h2)
        rw [List.map_map] at this
        exact this
    | _ => cases e2
  | ref i =>
    obtain ⟨a, ea, rfl⟩ := r1
    have e2 : (match S'[i]? with
      | some (.kK l) => some (l.map fun q => D.p (kP q.1))
      | some (.kT l) => some (l.map fun q => D.p (kTP q.1))
      | _ => none) = some its := e2
    split at e2
    · rename_i l' el
      cases e2
      obtain ⟨o, kvs, h1, h2⟩ := t1.s.obj i _ a (by rw [t1.e]; exact el) ea
      exact ⟨a, o, rfl, .inl ⟨kvs, h1, q W1 _ t1 (wk_keysK h1 h2)⟩⟩
    · rename_i l' el
      cases e2
      obtain ⟨o, kvs, h1, h2⟩ := t1.s.obj i _ a (by rw [t1.e]; exact el) ea
      exact ⟨a, o, rfl, .inr ⟨kvs, h1, q W1 _ t1 (wk_keysT h1 h2)⟩⟩
    · cases e2

/-! ### locks -/
/-- the locked form of a dict -/
def lkO : DO → Option DO
  | .dK l => some (.kK l)
  | .dT l => some (.kT l)
  | _ => none
section
variable {K : PySem.W.Frag} {W W' : Wd} {i : Nat} {a : Addr} {o o' : DO}
theorem lk_ro (s : RS K W) (e1 : W.ι[i]? = some a) (e2 : W.S[i]? = some o) (hl : lkO o = some o') : ∃ u, W.H a = some u ∧ Mut (some u) ∧ isLk o = false ∧ o.lv = true ∧ o'.lv = true ∧ ∀ od, RO K (W.put i a (.frz od u) o') a o' := by
  have ro := s.obj i o a e2 e1
  cases o with
  | dK l =>
    cases hl
    obtain ⟨kvs, h1, h2⟩ := ro
    refine ⟨_, h1, True.intro, rfl, rfl, rfl, fun od => ⟨od, kvs, upd_same, RDk.ext ?_ h2⟩⟩
    exact Ext.put s e1 e2 rfl
  | dT l =>
    cases hl
    obtain ⟨kvs, h1, h2⟩ := ro
    refine ⟨_, h1, True.intro, rfl, rfl, rfl, fun od => ⟨od, kvs, upd_same, RDk.ext ?_ h2⟩⟩
    exact Ext.put s e1 e2 rfl
  | _ => cases hl
theorem lk_below {n : Nat} (hl : lkO o = some o') (h : o.below n = true) : o'.below n = true := by
  cases o with
  | dK l => cases hl; exact h
  | dT l => cases hl; exact h
  | _ => cases hl
theorem put_L {u : HO} {b : Addr} (e1 : W.ι[i]? = some a) (e2 : W.S[i]? = some o') (n1 : o.lv = true) (n2 : o'.lv = true) (l : (W.put i a u o).L b) : W.L b := by
  rcases l with r | ⟨j, oj, f1, f2, nj⟩
  · exact .inl r
  · have f2 : (W.S.set i o)[j]? = some oj := f2
    by_cases hj : i = j
    · subst hj
      have f1 : W.ι[i]? = some b := f1
      rw [e1] at f1; cases f1
      exact .inr ⟨i, o', e1, e2, n2⟩
    · rw [List.getElem?_set_ne hj] at f2
      exact .inr ⟨j, oj, f1, f2, nj⟩
/-- the lock let go: W' as it was at i -/
theorem unlock_to {od : Obj} {u : HO} (s : RS K W) (e1 : W.ι[i]? = some a) (e2 : W.S[i]? = some o) (hl : lkO o = some o') (hu : W.H a = some u) (t : Ext (W.put i a (.frz od u) o') W') (s' : RS K W') (e3 : W'.S[i]? = some o') :
    W'.H a = some (.frz od u) ∧ Ext W (W'.put i a u o) ∧ RS K (W'.put i a u o) ∧ ∀ d v, RD K W' d v → RD K (W'.put i a u o) d v := by
  obtain ⟨u', hu', mu, k1, k2, k3, _⟩ := lk_ro s e1 e2 hl
  rw [hu] at hu'; cases hu'
  have x0 : Ext W (W.put i a (.frz od u) o') := Ext.put s e1 e2 k1
  have hf : W'.H a = some (.frz od u) := t.frz a od u upd_same
  have e4 : W'.ι[i]? = some a := pre_get t.pre e1
  have la : W.L a := .inr ⟨i, o, e1, e2, k2⟩
  have la' : W'.L a := .inr ⟨i, o', e4, e3, k3⟩
  have neu : ∀ od' u', u ≠ .frz od' u' := fun od' u' z => by subst z; exact mu
  have net : ∀ vs, u ≠ .tup vs := fun vs z => by subst z; exact mu
  have tr : ∀ d v, RD K W' d v → RD K (W'.put i a u o) d v := fun d v r => by
    cases d with
    | p x =>
      refine RP.mono (H := W'.H) (L := W'.L) (fun c w e n => ⟨(upd_ne (fun z => n (by rw [z]; exact la'))).trans e, fun l => n (put_L e4 e3 k2 k3 l)⟩) (fun c vs e => (upd_ne (fun z => by rw [z, hf] at e; cases e)).trans e) r
    | ref j => exact r
  have x2 : Ext W (W'.put i a u o) := by
    have x1 := x0.trans t
    refine ⟨x1.pre, x1.R, fun b w h n => ?_, fun b r => ?_, fun b vs h => ?_, fun b ob w h => ?_⟩
    · have nb : b ≠ a := fun z => n (by rw [z]; exact la)
      exact ⟨(upd_ne nb).trans (x1.keep b w h n).1, fun l => (x1.keep b w h n).2 (put_L e4 e3 k2 k3 l)⟩
    · have nb : b ≠ a := fun z => by rw [z] at r; exact s.dis i a e1 r
      exact (upd_ne nb).trans (x1.rs b r)
    · have nb : b ≠ a := fun z => by rw [z, hu] at h; cases h; exact net _ rfl
      exact (upd_ne nb).trans (x1.tups b vs h)
    · have nb : b ≠ a := fun z => by rw [z, hu] at h; cases h; exact neu _ _ rfl
      exact (upd_ne nb).trans (x1.frz b ob w h)
  refine ⟨hf, x2, ⟨?_, s'.nd, fun j b e => ?_, fun j oj b h1 h2 => ?_, s'.dis, fun b r => ?_, fun j oj h => ?_⟩, tr⟩
  · show W'.ι.length = (W'.S.set i o).length
    rw [List.length_set]; exact s'.len
  · by_cases hb : b = a
    · subst hb; exact ⟨u, upd_same⟩
    · obtain ⟨y, h⟩ := s'.dom j b e
      exact ⟨y, (upd_ne hb).trans h⟩
  · by_cases hj : i = j
    · subst hj
      have h2 : W'.ι[i]? = some b := h2
      rw [e4] at h2; cases h2
      have h1 : (W'.S.set i o)[i]? = some oj := h1
      rw [List.getElem?_set_self (get_lt e3)] at h1
      cases h1
      have ro := s'.obj i o' a e3 e4
      cases o with
      | dK l =>
        cases hl
        obtain ⟨od', kvs, g1, g2⟩ := ro
        rw [hf] at g1; cases g1
        exact ⟨kvs, upd_same, Paired.mono (fun _ _ q => ⟨q.1, tr _ _ q.2⟩) g2⟩
      | dT l =>
        cases hl
        obtain ⟨od', kvs, g1, g2⟩ := ro
        rw [hf] at g1; cases g1
        exact ⟨kvs, upd_same, Paired.mono (fun _ _ q => ⟨q.1, tr _ _ q.2⟩) g2⟩
      | _ => cases hl
    · have h1 : (W'.S.set i o)[j]? = some oj := h1
      rw [List.getElem?_set_ne hj] at h1
      have nb : b ≠ a := fun z => by subst z; exact hj (s'.nd i j b e4 h2)
      have e : (W'.put i a u o).H b = W'.H b := upd_ne nb
      have ro := s'.obj j oj b h1 h2
      cases oj with
      | lst l => obtain ⟨vs, h1, h2⟩ := ro; exact ⟨vs, by rw [e]; exact h1, Paired.mono (fun _ _ => tr _ _) h2⟩
      | dK l => obtain ⟨vs, h1, h2⟩ := ro; exact ⟨vs, by rw [e]; exact h1, Paired.mono (fun _ _ q => ⟨q.1, tr _ _ q.2⟩) h2⟩
      | dT l => obtain ⟨vs, h1, h2⟩ := ro; exact ⟨vs, by rw [e]; exact h1, Paired.mono (fun _ _ q => ⟨q.1, tr _ _ q.2⟩) h2⟩
      | kK l => obtain ⟨o, vs, h1, h2⟩ := ro; exact ⟨o, vs, by rw [e]; exact h1, Paired.mono (fun _ _ q => ⟨q.1, tr _ _ q.2⟩) h2⟩
      | kT l => obtain ⟨o, vs, h1, h2⟩ := ro; exact ⟨o, vs, by rw [e]; exact h1, Paired.mono (fun _ _ q => ⟨q.1, tr _ _ q.2⟩) h2⟩
      | tpl l => obtain ⟨vs, h1, h2⟩ := ro; exact ⟨vs, by rw [e]; exact h1, Paired.mono (fun _ _ => tr _ _) h2⟩
      | dN w l => obtain ⟨vs, h1, h2⟩ := ro; exact ⟨vs, by rw [e]; exact h1, RN.mono (fun _ _ => tr _ _) h2⟩
      | dead => exact True.intro
  · have nb : b ≠ a := fun z => by rw [z] at r; exact s'.dis i a e4 r
    obtain ⟨xs, e, hxs⟩ := s'.rd b r
    exact ⟨xs, (upd_ne nb).trans e, hxs⟩
  · show oj.below (W'.S.set i o).length = true
    rw [List.length_set]
    have h : (W'.S.set i o)[j]? = some oj := h
    by_cases hj : i = j
    · subst hj
      rw [List.getElem?_set_self (get_lt e3)] at h
      cases h
      refine DO.mono ?_ (s.wf i o e2)
      have hp : W.ι.length ≤ W'.ι.length := by
        obtain ⟨tl, he⟩ := t.pre
        have he' : W.ι ++ tl = W'.ι := he
        rw [← he', List.length_append]; omega
      rw [← s.len, ← s'.len]; exact hp
    · rw [List.getElem?_set_ne hj] at h
      exact s'.wf j oj h
end
/-- the dict that stands at the variable k -/
def lockAt (k : Nat) (ds : DS) (S : DH) : Option (Nat × DO × DO) := match ds[k]? with
  | some (some (.ref i)) => match S[i]? with
    | some o => match lkO o with
      | some o' => some (i, o, o')
      | none => none
    | none => none
  | _ => none
open Classical in
noncomputable def fLock (k : Nat) (fe : FE) : FE := fun ds S => match lockAt k ds S with
  | none => none
  | some (i, o, o') => match fe ds (S.set i o') with
    | none => none
    | some (d, S') => if S'[i]? = some o' then some (d, S'.set i o) else none
open Classical in
noncomputable def sLock (k : Nat) (fb : FS) : FS := fun ds S => match lockAt k ds S with
  | none => none
  | some (i, o, o') => match fb ds (S.set i o') with
    | none => none
    | some (r, S') => if S'[i]? = some o' then some (r, S'.set i o) else none
theorem lockAt_ok {k : Nat} {ds : DS} {S : DH} {i : Nat} {o o' : DO} (h : lockAt k ds S = some (i, o, o')) : S[i]? = some o ∧ lkO o = some o' := by
  unfold lockAt at h
  split at h
  · split at h
    · rename_i e1
      split at h
      · rename_i e2
        cases h
        exact ⟨e1, e2⟩
      · cases h
    · cases h
  · cases h
theorem at_addr {K : PySem.W.Frag} {W : Wd} (s : RS K W) {i : Nat} {o : DO} (h : W.S[i]? = some o) : ∃ a, W.ι[i]? = some a := ⟨W.ι[i]'(by rw [s.len]; exact get_lt h), List.getElem?_eq_getElem _⟩
section
variable {X : Cx} {k : Nat}
theorem de_lock {e : Expr} {fe : FE} (he : DE X e fe) : DE X e (fLock k fe) := PE.imp (pe_lock he) fun σ H Q ⟨W, ds, d, S', eH, s, re, e, q⟩ => by
  subst eH
  unfold fLock at e
  split at e
  · cases e
  rename_i i o o' e0
  obtain ⟨e2, hl⟩ := lockAt_ok e0
  obtain ⟨a, e1⟩ := at_addr s e2
  obtain ⟨u, hu, mu, k1, k2, k3, ro⟩ := lk_ro s e1 e2 hl
  split at e
  · cases e
  rename_i d' S1 e4
  split at e
  · rename_i e3
    cases e
    refine ⟨a, u, hu, mu, fun od => ?_⟩
    have x0 : Ext W (W.put i a (.frz od u) o') := Ext.put s e1 e2 k1
    have s0 : RS X.K (W.put i a (.frz od u) o') := RS.put s e1 e2 k1 (ro od) (lk_below hl (s.wf i o e2))
    refine ⟨W.put i a (.frz od u) o', ds, d, S1, rfl, s0, re.ext x0, e4, fun W' v t r => ?_⟩
    obtain ⟨hf, x2, s2, tr⟩ := unlock_to s e1 e2 hl hu t.x t.s (by rw [t.e]; exact e3)
    refine ⟨hf, q (W'.put i a u o) v ⟨x2, s2, ?_⟩ (tr _ _ r)⟩
    show W'.S.set i o = S1.set i o
    rw [t.e]
  · cases e
theorem dc_lock {st : Stmt} {fb : FS} (hb : DC X st fb) : DC X st (sLock k fb) := PS.imp (ps_lock hb) fun E σ H ⟨W, ds, r, S', eH, s, re, e, q⟩ => by
  subst eH
  unfold sLock at e
  split at e
  · cases e
  rename_i i o o' e0
  obtain ⟨e2, hl⟩ := lockAt_ok e0
  obtain ⟨a, e1⟩ := at_addr s e2
  obtain ⟨u, hu, mu, k1, k2, k3, ro⟩ := lk_ro s e1 e2 hl
  split at e
  · cases e
  rename_i r' S1 e4
  split at e
  · rename_i e3
    cases e
    refine ⟨a, u, hu, mu, fun od => ?_⟩
    have x0 : Ext W (W.put i a (.frz od u) o') := Ext.put s e1 e2 k1
    have s0 : RS X.K (W.put i a (.frz od u) o') := RS.put s e1 e2 k1 (ro od) (lk_below hl (s.wf i o e2))
    refine ⟨W.put i a (.frz od u) o', ds, r, S1, rfl, s0, re.ext x0, e4, fun W' t => ?_⟩
    obtain ⟨hf, x2, s2, tr⟩ := unlock_to s e1 e2 hl hu t.x t.s (by rw [t.e]; exact e3)
    have q := q (W'.put i a u o) ⟨x2, s2, by show W'.S.set i o = S1.set i o; rw [t.e]⟩
    have tre : ∀ ds' σ', RE X.K W' ds' σ' → RE X.K (W'.put i a u o) ds' σ' := fun ds' σ' h => ⟨h.1, fun j d hd => by
      obtain ⟨v, h1, h2⟩ := h.2 j d hd
      exact ⟨v, h1, tr _ _ h2⟩⟩
    cases r with
    | nx ds' => exact fun σ' h => ⟨hf, q σ' (tre _ _ h)⟩
    | rt d => exact fun v h => ⟨hf, q v (tr _ _ h)⟩
    | bk ds' => exact fun σ' h => ⟨hf, q σ' (tre _ _ h)⟩
    | ct ds' => exact fun σ' h => ⟨hf, q σ' (tre _ _ h)⟩
  · cases e
end
@[simp] theorem fItK_eq {fe : FE} {ds : DS} {S : DH} : fItK fe ds S = match fe ds S with
  | none => none
  | some (d, S1) => match itK S1 d with
    | none => none
    | some l => some (l, fun _ => True, S1) := rfl
@[simp] theorem fGet1_eq {fo fk : FE} {ds : DS} {S : DH} : fGet1 fo fk ds S = match fo ds S with
  | none => none
  | some (x, S1) => match dictD S1 x with
    | none => none
    | some _ => match fk ds S1 with
      | none => none
      | some (k, S2) => match dget S2 x k with
        | none => none
        | some o => some (o.getD (.p .non), S2) := rfl
@[simp] theorem fGet2_eq {fo fk fd : FE} {ds : DS} {S : DH} : fGet2 fo fk fd ds S = match fo ds S with
  | none => none
  | some (x, S1) => match dictD S1 x with
    | none => none
    | some _ => match fk ds S1 with
      | none => none
      | some (k, S2) => match fd ds S2 with
        | none => none
        | some (y, S3) => match dget S3 x k with
          | none => none
          | some o => some (o.getD y, S3) := rfl
end CK
/-! CkT: displays of dicts whose keys are tuples. -/
namespace CK
open PySem PySem.Spec PyProof.Rows L2

abbrev KRel (H : Hp) : List (V × V) → List (List Key × V) → Prop := Paired fun pr kv => ∃ c, pr.1 = .ref c ∧ H c = some (.tup (kv.1.map kV)) ∧ pr.2 = kv.2
theorem store_T {X : Cx} {pins : List (Addr × Obj)} {σ : L2.St} {d : Addr} {A : Around} {E : Value → Shared → Prop} (hu : A.units + 1 < cLine) : ∀ (vs : List (Value × Value)) (ps : List (V × V)) (kvs acc : List (List Key × V)) (H : Hp) (s : Shared) (Q : PUnit → Shared → Prop),
    L2.Inv X pins σ H s → H d = some (.dT acc) → VV ps vs → KRel H ps kvs → acc.length + kvs.length ≤ sizeLine → (∀ s', L2.Inv X pins σ (upd H d (.dT (mergeT acc kvs))) s' → Q PUnit.unit s') →
    wpAny (model X.prog X.w) A (storeAll d vs) Q E s := by
  intro vs ps kvs acc H s Q I hd r k hz hQ
  induction r generalizing kvs acc H s with
  | nil =>
    cases k
    unfold storeAll
    rw [List.forIn_nil]
    refine wpAny_pure (hQ s ?_)
    have e : upd H d (.dT (mergeT acc [])) = H := by
      funext b
      unfold upd
      split
      · rename_i h; subst h; exact hd.symm
      · rfl
    rw [e]; exact I
  | @cons p q ps vs h t ih =>
    cases k with
    | @cons _ kv _ kvs hk kt =>
      obtain ⟨c, e1, e2, e3⟩ := hk
      obtain ⟨h1, h2⟩ := h
      obtain ⟨key, v⟩ := q
      dsimp only at h1 h2
      rw [e1] at h1
      cases (show key = Value.ref c from h1)
      rw [List.length_cons] at hz
      unfold storeAll
      rw [List.forIn_cons]
      obtain ⟨z, hs, xs, rel, dd⟩ := dt_of I.hok hd
      refine wpAny_bind (wpAny_bind (wpAny_dictSet_heap (hsz := by rw [← Paired.length rel]; exact z) (show A.units < cLine by omega) (key_of I.hok e2) dd fun h' dd' hs' => wpAny_pure ?_))
      obtain ⟨q, es, ep, hq, g2, g3, g4, _, g5⟩ := dd'
      have hl : (putK acc kv.1 kv.2).length ≤ sizeLine := by have := length_putK acc kv.1 kv.2; omega
      have keep : ∀ c ys, H c = some (.tup ys) → upd H d (.dT (putK acc kv.1 kv.2)) c = some (.tup ys) := fun c ys ec => by
        rw [upd_ne (ne_of ec hd (fun z => nomatch z))]; exact ec
      rw [e3] at h2
      have I2 := d_write (t' := s.toks + (tupleKind (mixKind X.prog X.w)).draws kv.1) I (by rw [hd]; exact True.intro) hs' ⟨q, hq⟩ (show ObjOk X.prog X.w (upd H d (.dT (putK acc kv.1 kv.2))) h' d (.dT (putK acc kv.1 kv.2)) from ⟨hl, hs, _, (rel.put kv.1 e2 h2).keeps keep, q, es, ep, hq, g2, g3, g4, g5⟩)
      refine ih kvs (putK acc kv.1 kv.2) _ _ I2 upd_same (Paired.mono (fun _ _ ⟨c, f1, f2, f3⟩ => ⟨c, f1, keep _ _ f2, f3⟩) kt) (by have := length_putK acc kv.1 kv.2; omega) fun s' I3 => hQ s' ?_
      rw [upd_upd] at I3
      exact I3
def tDispT (trs : List (TE × TE)) : TE := fun σ H Q => ∀ p, H p = none → L2.tPairs trs σ (upd H p (.dT [])) fun ps H2 => H2 p = some (.dT []) ∧ ∃ kvs : List (List Key × V), KRel H2 ps kvs ∧ kvs.length ≤ 15 ∧ Q (.ref p) (upd H2 p (.dT (mergeT [] kvs)))
theorem pe_dispT {X : Cx} {pos : Pos} {keys : List (Option Expr)} {values : List Expr} {trs : List (TE × TE)} (hu : X.A.units + 1 < cLine) (h : L2.PPs X pos keys values trs) (hall : keys.all (·.isSome) = true) (hl : keys.length = values.length) (h0 : keys ≠ [])
    (h15 : keys.length ≤ 15) : PE X (.Dict keys values pos) (tDispT trs) := by
  refine ⟨fun pins s σ H Q I q => ?_⟩
  have hn := I.hok.fresh (Nat.le_refl s.heap.objs.size)
  have I1 := I.laid (a := s.heap.objs.size) (o := .dT []) (h' := s.heap.push { cls := .type "dict", data := .dict #[] }) (t' := s.toks) (fun _ _ q => Heap.get?_push_of_some _ q) (Nat.le_refl _) (dt_empty s.heap I.big)
  refine wpAny_Dict_any hall hl h0 h15 (thn (h.run pins _ σ _ _ I1 (q _ hn)) fun ws s2 ⟨ps, H2, I2, rel, e, kvs, ep, lk, q2⟩ => ?_)
  exact store_T hu ws ps kvs [] H2 s2 _ I2 e rel ep (by rw [sizeLine_eq, List.length_nil]; omega) fun s' I3 => ⟨.ref s.heap.objs.size, _, I3, rfl, q2⟩

def keysTOf : List (D × D) → Option (List (List Key × D))
  | [] => some []
  | (x, y) :: r => match keyD x, keysTOf r with
    | some (.inr k), some l => some ((k, y) :: l)
    | _, _ => none
theorem keysTOf_ok {K : PySem.W.Frag} {W : Wd} : ∀ {l : List (D × D)} {ps : List (V × V)} {kl : List (List Key × D)}, keysTOf l = some kl → RDD K W l ps → ∃ kvs : List (List Key × V), KRel W.H ps kvs ∧ RDk K W kl kvs ∧ kvs.length = l.length
  | [], _, _, e, .nil => by cases e; exact ⟨[], .nil, .nil, rfl⟩
  | (x, y) :: r, (u, w) :: ps, _, e, .cons a t => by
    unfold keysTOf at e
    split at e
    · rename_i k l e1 e2
      cases e
      obtain ⟨kvs, h1, h2, h3⟩ := keysTOf_ok e2 t
      obtain ⟨a1, a2⟩ := a
      dsimp only at a1 a2
      unfold keyD at e1
      split at e1
      · cases e1
      · cases e1
      · rename_i l
        cases hk : keysP l with
        | none => rw [hk] at e1; cases e1
        | some ks =>
          rw [hk] at e1; cases e1
          cases a1 with
          | @tup b vs _ h4 h5 =>
            have := keysP_ok h5 hk
            subst this
            exact ⟨(k, w) :: kvs, .cons ⟨b, rfl, h4, rfl⟩ h1, .cons ⟨rfl, a2⟩ h2, by rw [List.length_cons, List.length_cons, h3]⟩
      · cases e1
    · cases e
def fDictHT (prs : List (FE × FE)) : FE := fun ds S => match evPairs prs ds S with
  | none => none
  | some (l, S1) => match keysTOf l with
    | none => none
    | some kl => if l.length ≤ 15 then some (.ref S1.length, S1 ++ [.dT (mergeG [] kl)]) else none
section
variable {K : PySem.W.Frag} {prs : List (FE × FE)} {σ : L2.St} {H : Hp} {Q : VK}
theorem tD_dictHT (h : tD K (fDictHT prs) σ H Q) : tDispT (prs.map fun p => (tD K p.1, tD K p.2)) σ H Q := by
  obtain ⟨W, ds, d, S', eH, s, re, e, q⟩ := h
  unfold fDictHT at e
  split at e
  · cases e
  rename_i l S1 e1
  split at e
  · cases e
  rename_i kl e2
  split at e
  · rename_i hl
    cases e
    subst eH
    intro p hp
    obtain ⟨xh, sh⟩ := hold_start (u := .dT []) rfl s hp
    refine tPairs_ok (W := W.hold p (.dT [])) rfl sh (re.ext xh) e1 fun W1 ps t1 r1 => ?_
    have hR : W1.R p := t1.x.R p (.inr rfl)
    have hH : W1.H p = some (.dT []) := (t1.x.rs p (.inr rfl)).trans upd_same
    obtain ⟨kvs, h1, h2, h3⟩ := keysTOf_ok e2 r1
    refine ⟨hH, kvs, h1, by rw [h3]; exact hl, ?_⟩
    have x1 : Ext W (W1.upR p (.dT (mergeT [] kvs))) := upR_ext s hp t1.s hR (xh.trans t1.x)
    have s1 : RS K (W1.upR p (.dT (mergeT [] kvs))) := upR_s rfl t1.s hR
    have r : RDk K (W1.upR p (.dT (mergeT [] kvs))) (mergeG [] kl) (mergeT [] kvs) := mergeG_t (Paired.mono (fun _ _ z => ⟨z.1, upR_rd t1.s hR z.2⟩) h2) .nil
    have eS : (W1.upR p (.dT (mergeT [] kvs))).S = S1 := t1.e
    refine q ((W1.upR p (.dT (mergeT [] kvs))).join W.R p (.dT (mergeG [] kl))) _ ⟨join_ext s hp x1 s1 hR, join_s s hp x1 s1 hR upd_same ⟨_, upd_same, Paired.mono (fun _ _ z => ⟨z.1, join_rd s1 x1.R hR z.2⟩) r⟩ (RDk.below s1 r), by rw [← eS]; rfl⟩ ⟨p, ?_, rfl⟩
    show (W1.ι ++ [p])[S1.length]? = some p
    rw [← t1.e, ← t1.s.len]; simp
  · cases e
end
section
variable {X : Cx} {pos : Pos} {ks : List (Option Expr)} {vs : List Expr} {prs : List (FE × FE)}
theorem de_dictHT (hu : X.A.units + 1 < cLine) (h : DPs X pos ks vs prs) (hall : ks.all (·.isSome) = true) (hl : ks.length = vs.length) (h0 : ks ≠ []) (h15 : ks.length ≤ 15) : DE X (.Dict ks vs pos) (fDictHT prs) := PE.imp (pe_dispT hu h hall hl h0 h15) fun _ _ _ h => tD_dictHT h
end
@[simp] theorem fDictHT_eq {prs : List (FE × FE)} {ds : DS} {S : DH} : fDictHT prs ds S = match evPairs prs ds S with
  | none => none
  | some (l, S1) => match keysTOf l with
    | none => none
    | some kl => if l.length ≤ 15 then some (.ref S1.length, S1 ++ [.dT (mergeG [] kl)]) else none := rfl
end CK
/-! CkU: == forgets how a tuple or a list is held; lists of the own heap; more on dicts. -/
namespace CK
open PySem PySem.Spec PyProof.Rows L2

mutual
def un : P → P
  | .tup l => .tup (uns l)
  | .ktup l => .tup (uns l)
  | .ftup l => .tup (uns l)
  | .lst l => .lst (uns l)
  | .flst l => .lst (uns l)
  | x => x
def uns : List P → List P
  | [] => []
  | x :: r => un x :: uns r
end
mutual
theorem toPy_un : ∀ x : P, toPy (un x) = toPy x
  | .tup l => by show (toPys (uns l)).map _ = (toPys l).map _; rw [toPys_un l]
  | .ktup l => by show (toPys (uns l)).map _ = (toPys l).map _; rw [toPys_un l]
  | .ftup l => by show (toPys (uns l)).map _ = (toPys l).map _; rw [toPys_un l]
  | .lst l => by show (toPys (uns l)).map _ = (toPys l).map _; rw [toPys_un l]
  | .flst l => by show (toPys (uns l)).map _ = (toPys l).map _; rw [toPys_un l]
  | .non => rfl
  | .bl _ => rfl
  | .int _ => rfl
  | .str _ => rfl
  | .ty _ => rfl
  | .dK _ => rfl
  | .dT _ => rfl
theorem toPys_un : ∀ l : List P, toPys (uns l) = toPys l
  | [] => rfl
  | x :: r => by
    show toPys (un x :: uns r) = _
    unfold toPys
    rw [toPy_un x, toPys_un r]
end
theorem uns_map {α : Type} {f : α → P} {l : List α} : uns (l.map f) = l.map fun x => un (f x) := by
  induction l with
  | nil => rfl
  | cons x r ih => show un (f x) :: uns (r.map f) = _; rw [ih]; rfl
theorem scalEq_un {x y : P} : scalEq (un x) (un y) = scalEq x y := by cases x <;> cases y <;> rfl
section
variable {S : DH} {x y : P}
theorem toPyD_un {x : P} : toPyD S (.p (un x)) = toPyD S (.p x) := toPy_un x
theorem gEq_fold {neg : Bool} {a b : D} : (if neg then gNe a b S else gEq a b S) = match pure2 (fun x y => (scalEq x y).map fun b => P.bl (if neg then !b else b)) a b S with | some r => some r | none => gEqD neg a b S := by
  cases neg <;> rfl
theorem gEq_un : gEq (.p x) (.p y) S = gEq (.p (un x)) (.p (un y)) S := by
  have h1 := gEq_fold (neg := false) (a := .p x) (b := .p y) (S := S)
  have h2 := gEq_fold (neg := false) (a := .p (un x)) (b := .p (un y)) (S := S)
  simp only [Bool.false_eq_true, if_false] at h1 h2
  rw [h1, h2, pure2_eq, pure2_eq, scalEq_un]
  have : gEqD false (.p x) (.p y) S = gEqD false (.p (un x)) (.p (un y)) S := by
    unfold gEqD; rw [toPyD_un, toPyD_un]
  rw [this]
theorem gNe_un : gNe (.p x) (.p y) S = gNe (.p (un x)) (.p (un y)) S := by
  have h1 := gEq_fold (neg := true) (a := .p x) (b := .p y) (S := S)
  have h2 := gEq_fold (neg := true) (a := .p (un x)) (b := .p (un y)) (S := S)
  simp only [if_true] at h1 h2
  rw [h1, h2, pure2_eq, pure2_eq, scalEq_un]
  have : gEqD true (.p x) (.p y) S = gEqD true (.p (un x)) (.p (un y)) S := by
    unfold gEqD; rw [toPyD_un, toPyD_un]
  rw [this]
theorem toPyD_ref {i : Nat} {l : List P} (h : S[i]? = some (.lst (l.map .p))) : toPyD S (.ref i) = toPyD S (.p (.lst l)) := by
  show (match S[i]? with | some (.lst l) => (match allP l with | some ps => (toPys ps).map PyData.list | none => none) | _ => none) = toPy (.lst l)
  rw [h]
  dsimp only
  rw [allP_map]; rfl
theorem gNe_refl {i : Nat} {l : List P} (h : S[i]? = some (.lst (l.map .p))) : gNe (.ref i) (.p y) S = gNe (.p (.lst l)) (.p y) S := by
  have h1 := gEq_fold (neg := true) (a := .ref i) (b := .p y) (S := S)
  have h2 := gEq_fold (neg := true) (a := .p (.lst l)) (b := .p y) (S := S)
  simp only [if_true] at h1 h2
  rw [h1, h2]
  have e : scalEq (.lst l) y = none := by cases y <;> rfl
  rw [pure2_eq, e]
  show gEqD true (.ref i) (.p y) S = gEqD true (.p (.lst l)) (.p y) S
  unfold gEqD
  rw [toPyD_ref h]
theorem gEq_refl {i : Nat} {l : List P} (h : S[i]? = some (.lst (l.map .p))) : gEq (.ref i) (.p y) S = gEq (.p (.lst l)) (.p y) S := by
  have h1 := gEq_fold (neg := false) (a := .ref i) (b := .p y) (S := S)
  have h2 := gEq_fold (neg := false) (a := .p (.lst l)) (b := .p y) (S := S)
  simp only [Bool.false_eq_true, if_false] at h1 h2
  rw [h1, h2]
  have e : scalEq (.lst l) y = none := by cases y <;> rfl
  rw [pure2_eq, e]
  show gEqD false (.ref i) (.p y) S = gEqD false (.p (.lst l)) (.p y) S
  unfold gEqD
  rw [toPyD_ref h]
end
/-- plain behind un: its items are laid -/
theorem gEq_cu {x y : P} {S : DH} {b : Bool} (h1 : clean (un x) = true) (h2 : clean (un y) = true) (d1 : pdep (un x) ≤ 64) (d2 : pdep (un y) ≤ 64) (h : b = true ↔ un x = un y) : gEq (.p x) (.p y) S = some (.p (.bl b), S) := by
  rw [gEq_un]; exact gEq_cl h1 h2 d1 d2 h
theorem gNe_cu {x y : P} {S : DH} {b : Bool} (h1 : clean (un x) = true) (h2 : clean (un y) = true) (d1 : pdep (un x) ≤ 64) (d2 : pdep (un y) ≤ 64) (h : b = true ↔ un x = un y) : gNe (.p x) (.p y) S = some (.p (.bl (!b)), S) := by
  rw [gNe_un]; exact gNe_cl h1 h2 d1 d2 h
/-- plain data of no great depth -/
def plainP (x : P) : Prop := clean (un x) = true ∧ pdep (un x) ≤ 32
theorem plain_lst {l : List P} (h : ∀ x ∈ l, plainP x) : clean (un (.lst l)) = true ∧ pdep (un (.lst l)) ≤ 33 := by
  have hu : uns l = l.map un := by have := uns_map (f := fun x => x) (l := l); simpa using this
  refine ⟨?_, ?_⟩
  · show cleans (uns l) = true
    rw [hu]
    refine cleans_all fun x hx => ?_
    obtain ⟨y, hy, rfl⟩ := List.mem_map.mp hx
    exact (h y hy).1
  · show pdeps (uns l) + 1 ≤ 33
    rw [hu]
    have : pdeps (l.map un) ≤ 32 := pdeps_le fun x hx => by
      obtain ⟨y, hy, rfl⟩ := List.mem_map.mp hx
      exact (h y hy).2
    omega
/-- l != [] of a list of the own heap -/
theorem gNe_nil {S : DH} {i : Nat} {l : List P} (h : S[i]? = some (.lst (l.map .p))) (hp : ∀ x ∈ l, plainP x) : gNe (.ref i) (.p (.lst [])) S = some (.p (.bl (!l.isEmpty)), S) := by
  obtain ⟨h1, h2⟩ := plain_lst hp
  rw [gNe_refl h]
  refine gNe_cu h1 rfl (by omega) (by decide) ?_
  show l.isEmpty = true ↔ P.lst (uns l) = P.lst []
  cases l with
  | nil => simp [uns]
  | cons x r => simp [uns]

/-! ### dicts -/
theorem dput_new {κ α : Type} [DecidableEq κ] {l : List (κ × α)} {k : κ} {v : α} (h : ∀ q ∈ l, q.1 ≠ k) : dput l k v = l ++ [(k, v)] := by
  unfold dput
  rw [if_neg]
  rw [List.any_eq_true]
  rintro ⟨q, hq, e⟩
  exact h q hq (of_decide_eq_true e)
theorem mergeG_nodup {κ α : Type} [DecidableEq κ] : ∀ (more acc : List (κ × α)), ((acc ++ more).map (·.1)).Nodup → mergeG acc more = acc ++ more
  | [], acc, _ => by rw [List.append_nil]; rfl
  | q :: r, acc, h => by
    show mergeG (dput acc q.1 q.2) r = _
    have hq : ∀ p ∈ acc, p.1 ≠ q.1 := fun p hp e => by
      rw [List.map_append, List.nodup_append] at h
      exact h.2.2 p.1 (List.mem_map.mpr ⟨p, hp, rfl⟩) q.1 (List.mem_map.mpr ⟨q, List.mem_cons_self, rfl⟩) e
    rw [dput_new hq, mergeG_nodup r (acc ++ [(q.1, q.2)]) (by simpa using h)]
    simp
theorem gDict_ftup {l : List P} {kl : List (Key × P)} {S : DH} (h : prsK l = some kl) (hn : (kl.map (·.1)).Nodup) : gDict [.p (.ftup l)] S = some (.p (.dK kl), S) := by
  have e := mergeG_nodup kl [] (by simpa using hn)
  rw [List.nil_append] at e
  simp [gDict, srcP, h, e]
theorem gDict_lst {l : List P} {kl : List (Key × P)} {S : DH} (h : prsK l = some kl) (hn : (kl.map (·.1)).Nodup) : gDict [.p (.lst l)] S = some (.p (.dK kl), S) := by
  have e := mergeG_nodup kl [] (by simpa using hn)
  rw [List.nil_append] at e
  simp [gDict, srcP, h, e]
theorem gIx_pdK {S : DH} {l : List (Key × P)} {k : P} {k' : Key} (h : keyP k = some k') : gIx (.p (.dK l)) (.p k) S = (dval l k').map fun x => (.p x, S) := by
  have hk : keyD (.p k) = some (.inl k') := by cases k <;> first | (cases h; rfl) | cases h
  have hd : dval (l.map fun q => (q.1, D.p q.2)) k' = (dval l k').map D.p := by
    unfold dval
    rw [List.find?_map]
    cases h : l.find? ((fun kv => decide (kv.1 = k')) ∘ fun q => (q.1, D.p q.2)) with
    | none =>
      have : l.find? (fun kv => decide (kv.1 = k')) = none := h
      rw [this]; rfl
    | some q =>
      have : l.find? (fun kv => decide (kv.1 = k')) = some q := h
      rw [this]; rfl
  simp [gIx, gIxL, gIxT, lstD, tupD, gIxK, dget, dictD, hk, hd]
  cases h1 : dval l k' with
  | none => cases k <;> first | cases h; done | rfl
  | some x => cases k <;> first | cases h; done | rfl
end CK
/-! CkV: tellings, and how they stand as data. -/
namespace CK
open PySem PySem.Spec PyProof.Rows L2

inductive Hd where
  | all | none | way (a b : Str) | box (ps : List (Str × Str)) | pick (ps : List (Str × Str)) | as_ (a : Str)
abbrev Tel := List (Str × Hd)
def prP (q : Str × Str) : P := .tup [.str q.1, .str q.2]
def hdP : Hd → P
  | .all => .tup [.str "all"]
  | .none => .tup [.str "none"]
  | .way a b => .tup [.str "way", .str a, .str b]
  | .box ps => .tup [.str "box", .ftup (ps.map prP)]
  | .pick ps => .tup [.str "pick", .ftup (ps.map prP)]
  | .as_ a => .tup [.str "as", .str a]
def rowP (r : Str × Hd) : P := .tup [.str r.1, hdP r.2]
def telP (T : Tel) : P := .ftup (T.map rowP)
def rowsK (T : Tel) : List (Key × P) := T.map fun r => (.inr r.1, hdP r.2)
def names (T : Tel) : List Str := T.map (·.1)
def refs : Hd → List Str
  | .way a b => [a, b]
  | .box ps => ps.map (·.2)
  | .pick ps => ps.map (·.2)
  | .as_ a => [a]
  | _ => []
def wordsOf : Hd → List Str
  | .box ps => ps.map (·.1)
  | .pick ps => ps.map (·.1)
  | _ => []
def isAs : Hd → Bool
  | .as_ _ => true
  | _ => false
structure WF (T : Tel) : Prop where
  nd : (names T).Nodup
  cl : ∀ r ∈ T, ∀ n ∈ refs r.2, n ∈ names T
  rk : ∃ ρ : Str → Nat, (∀ r ∈ T, ρ r.1 < T.length) ∧ ∀ r ∈ T, ∀ a, r.2 = .as_ a → ρ a < ρ r.1
  ok : ∀ r ∈ T, PyData.strOk r.1 = true ∧ ∀ w ∈ wordsOf r.2, PyData.strOk w = true
  wd : ∀ r ∈ T, (wordsOf r.2).length ≤ 1000
  len : T.length ≤ 2000
def hdOf (T : Tel) (n : Str) : Option Hd := (T.find? fun r => decide (r.1 = n)).map (·.2)
def rowN (T : Tel) : Nat → Str → Str
  | 0, n => n
  | k + 1, n => match hdOf T n with
    | some (.as_ a) => rowN T k a
    | _ => n
def rowOf (T : Tel) (n : Str) : Str := rowN T T.length n
section
variable {T : Tel} {S : DH}
theorem prsK_rows : ∀ T : Tel, prsK (T.map rowP) = some (rowsK T)
  | [] => rfl
  | r :: t => by
    have e : prsK ((r :: t).map rowP) = (prsK (t.map rowP)).map ((Sum.inr r.1, hdP r.2) :: ·) := rfl
    rw [e, prsK_rows t]; rfl
theorem rowsK_keys (T : Tel) : (rowsK T).map (·.1) = (names T).map Sum.inr := by
  unfold rowsK names
  rw [List.map_map, List.map_map]; rfl
theorem nodup_inr {l : List Str} (h : l.Nodup) : (l.map (Sum.inr : Str → Key)).Nodup := by
  rw [List.Nodup, List.pairwise_map]
  exact h.imp fun n e => n (Sum.inr.inj e)
theorem dict_tel (h : (names T).Nodup) : gDict [.p (telP T)] S = some (.p (.dK (rowsK T)), S) :=
  gDict_ftup (prsK_rows T) (by rw [rowsK_keys]; exact nodup_inr h)
theorem dval_rows (T : Tel) (n : Str) : dval (rowsK T) (.inr n) = (hdOf T n).map hdP := by
  induction T with
  | nil => rfl
  | cons r t ih =>
    by_cases h : r.1 = n
    · have h1 : dval (rowsK (r :: t)) (.inr n) = some (hdP r.2) := by simp [dval, rowsK, h]
      have h2 : hdOf (r :: t) n = some r.2 := by simp [hdOf, h]
      rw [h1, h2]; rfl
    · have h1 : dval (rowsK (r :: t)) (.inr n) = dval (rowsK t) (.inr n) := by simp [dval, rowsK, h]
      have h2 : hdOf (r :: t) n = hdOf t n := by simp [hdOf, h]
      rw [h1, h2, ih]
theorem ix_rows (T : Tel) (n : Str) : gIx (.p (.dK (rowsK T))) (.p (.str n)) S = (hdOf T n).map fun h => (.p (hdP h), S) := by
  rw [gIx_pdK (k' := .inr n) rfl, dval_rows, Option.map_map]; rfl
theorem hdOf_mem {n : Str} {h : Hd} (e : hdOf T n = some h) : (n, h) ∈ T := by
  unfold hdOf at e
  cases q : T.find? fun r => decide (r.1 = n) with
  | none => rw [q] at e; cases e
  | some r =>
    rw [q] at e; cases e
    have h1 := List.mem_of_find?_eq_some q
    have h2 := List.find?_some q
    have h3 : r.1 = n := of_decide_eq_true h2
    rw [← h3]; exact h1
theorem hdOf_of {n : Str} (h : n ∈ names T) : ∃ d, hdOf T n = some d := by
  obtain ⟨r, hr, e⟩ := List.mem_map.mp h
  unfold hdOf
  cases q : T.find? fun r => decide (r.1 = n) with
  | none => exact absurd (decide_eq_true e) (by simpa using List.find?_eq_none.mp q r hr)
  | some r => exact ⟨_, rfl⟩
theorem hdOf_eq (wf : WF T) {r : Str × Hd} (h : r ∈ T) : hdOf T r.1 = some r.2 := by
  have nd := wf.nd
  clear wf
  induction T with
  | nil => cases h
  | cons q t ih =>
    rw [names, List.map_cons, List.nodup_cons] at nd
    by_cases e : q.1 = r.1
    · rcases List.mem_cons.mp h with rfl | h
      · simp [hdOf]
      · exact absurd (e ▸ List.mem_map.mpr ⟨r, h, rfl⟩) nd.1
    · rcases List.mem_cons.mp h with rfl | h
      · exact absurd rfl e
      · have : hdOf (q :: t) r.1 = hdOf t r.1 := by simp [hdOf, e]
        rw [this]; exact ih h nd.2
/-- a row is reached within its rank -/
theorem rowN_ok (wf : WF T) {ρ : Str → Nat} (hρ : ∀ r ∈ T, ∀ a, r.2 = .as_ a → ρ a < ρ r.1) : ∀ (k : Nat) (n : Str), n ∈ names T → ρ n < k → rowN T k n ∈ names T ∧ (∃ h, hdOf T (rowN T k n) = some h ∧ isAs h = false) ∧ ∀ j, ρ n < j → rowN T j n = rowN T k n
  | 0, n, _, h => absurd h (by omega)
  | k + 1, n, hn, hk => by
    obtain ⟨d, hd⟩ := hdOf_of hn
    have hm := hdOf_mem hd
    cases d with
    | as_ a =>
      have h1 := hρ _ hm a rfl
      have ha : a ∈ names T := wf.cl _ hm a (by simp [refs])
      obtain ⟨g1, g2, g3⟩ := rowN_ok wf hρ k a ha (by dsimp only at h1; omega)
      have e : ∀ j, rowN T (j + 1) n = rowN T j a := fun j => by show (match hdOf T n with | some (.as_ a) => rowN T j a | _ => n) = _; rw [hd]
      rw [e]
      refine ⟨g1, g2, fun j hj => ?_⟩
      cases j with
      | zero => omega
      | succ j => rw [e]; exact g3 j (by dsimp only at h1; omega)
    | _ =>
      have e : ∀ j, rowN T (j + 1) n = n := fun j => by show (match hdOf T n with | some (.as_ a) => rowN T j a | _ => n) = _; rw [hd]
      rw [e]
      refine ⟨hn, ⟨_, hd, rfl⟩, fun j hj => ?_⟩
      cases j with
      | zero => omega
      | succ j => rw [e]
theorem rowOf_ok (wf : WF T) {n : Str} (hn : n ∈ names T) : rowOf T n ∈ names T ∧ ∃ h, hdOf T (rowOf T n) = some h ∧ isAs h = false := by
  obtain ⟨ρ, h1, h2⟩ := wf.rk
  obtain ⟨r, hr, e⟩ := List.mem_map.mp hn
  obtain ⟨g1, g2, _⟩ := rowN_ok wf h2 T.length n hn (by rw [← e]; exact h1 r hr)
  exact ⟨g1, g2⟩
theorem rowOf_as (wf : WF T) {n a : Str} (h : hdOf T n = some (.as_ a)) : rowOf T n = rowOf T a := by
  obtain ⟨ρ, h1, h2⟩ := wf.rk
  have hm := hdOf_mem h
  have ha : a ∈ names T := wf.cl _ hm a (by simp [refs])
  have hr := h2 _ hm a rfl
  have hl := h1 _ hm
  dsimp only at hr hl
  unfold rowOf
  cases hlen : T.length with
  | zero => omega
  | succ k =>
    rw [hlen] at hl
    obtain ⟨_, _, g⟩ := rowN_ok wf h2 k a ha (by omega)
    rw [g (k + 1) (by omega)]
    show (match hdOf T n with | some (.as_ a) => rowN T k a | _ => n) = _
    rw [h]
theorem rowN_self {n : Str} {h : Hd} (e : hdOf T n = some h) (ha : isAs h = false) : ∀ k, rowN T k n = n
  | 0 => rfl
  | k + 1 => by
    show (match hdOf T n with | some (.as_ a) => rowN T k a | _ => n) = _
    rw [e]
    cases h <;> first | rfl | cases ha
theorem rowOf_self {n : Str} {h : Hd} (e : hdOf T n = some h) (ha : isAs h = false) : rowOf T n = n := rowN_self e ha _
theorem rowOf_rowOf (wf : WF T) {n : Str} (hn : n ∈ names T) : rowOf T (rowOf T n) = rowOf T n := by
  obtain ⟨_, h, e, ha⟩ := rowOf_ok wf hn
  exact rowOf_self e ha
theorem as_not : ∀ {h : Hd}, isAs h = false → gEq (.p (.str "as")) (.p (.str "as")) S = some (.p (.bl true), S) := fun _ => by simp
/-- the sign of a head -/
def sort : Hd → Str
  | .all => "all"
  | .none => "none"
  | .way _ _ => "way"
  | .box _ => "box"
  | .pick _ => "pick"
  | .as_ _ => "as"
theorem ix_sort (h : Hd) : gIx (.p (hdP h)) (.p (.int 0)) S = some (.p (.str (sort h)), S) := by cases h <;> rfl
theorem sort_as (h : Hd) : decide (sort h = ("as" : Str)) = isAs h := by
  cases h with
  | all => exact (by decide +kernel : decide (("all" : Str) = "as") = false)
  | none => exact (by decide +kernel : decide (("none" : Str) = "as") = false)
  | way a b => exact (by decide +kernel : decide (("way" : Str) = "as") = false)
  | box ps => exact (by decide +kernel : decide (("box" : Str) = "as") = false)
  | pick ps => exact (by decide +kernel : decide (("pick" : Str) = "as") = false)
  | as_ a => exact (by decide +kernel : decide (("as" : Str) = "as") = true)
theorem ix_as (a : Str) : gIx (.p (hdP (.as_ a))) (.p (.int 1)) S = some (.p (.str a), S) := rfl
theorem while_row (wf : WF T) {ρ : Str → Nat} (hρ : ∀ r ∈ T, ∀ a, r.2 = .as_ a → ρ a < ρ r.1) {i j : Nat} {ds : Str → DS} (hi : ∀ n, (ds n)[i]? = some (some (.p (.dK (rowsK T))))) (hj : ∀ n, (ds n)[j]? = some (some (.p (.str n)))) (hs : ∀ n a, (ds n).set j (some (.p (.str a))) = ds a) :
    ∀ (k : Nat) (n : Str), n ∈ names T → ρ n < k → whileL (fTest (fBin gEq (fBin gIx (fBin gIx (fVar i) (fVar j)) (fC (.int 0))) (fC (.str "as")))) (sAsg (fBin gIx (fBin gIx (fVar i) (fVar j)) (fC (.int 1))) (gN j)) k (ds n) S = some (.nx (ds (rowN T k n)), S)
  | 0, n, _, h => absurd h (by omega)
  | k + 1, n, hn, hk => by
    obtain ⟨d, hd⟩ := hdOf_of hn
    have hm := hdOf_mem hd
    have e1 : gIx (.p (.dK (rowsK T))) (.p (.str n)) S = some (.p (hdP d), S) := by rw [ix_rows, hd]; rfl
    have e2 := ix_sort (S := S) d
    have e3 := sort_as d
    have er : rowN T (k + 1) n = match hdOf T n with | some (.as_ a) => rowN T k a | _ => n := rfl
    unfold whileL
    cases d with
    | as_ a =>
      have h1 := hρ _ hm a rfl
      have ha : a ∈ names T := wf.cl _ hm a (by simp [refs])
      have ih := while_row wf hρ hi hj hs k a ha (by dsimp only at h1; omega)
      rw [hd] at er
      rw [er]
      have e4 := ix_as (S := S) a
      have e5 : decide (sort (Hd.as_ a) = ("as" : Str)) = true := e3
      simp only [fTest_eq, fBin_eq, fVar_eq, fC_eq, hi, hj, e1, e2, gEq_str, e5, sAsg_eq, e4, gN_eq, hs, ih]
    | _ =>
      rw [hd] at er
      rw [er]
      simp only [fTest_eq, fBin_eq, fVar_eq, fC_eq, hi, hj, e1, e2, gEq_str, e3, isAs]
/-- the steps with the rows to which they lead -/
def ways (T : Tel) (n : Str) : List (List Str × Str) := match hdOf T (rowOf T n) with
  | some (.way a b) => [(["from"], rowOf T a), (["to"], rowOf T b)]
  | some (.box ps) => ps.map fun q => (["part", q.1], rowOf T q.2)
  | some (.pick ps) => ps.map fun q => (["case", q.1], rowOf T q.2)
  | _ => []
def stepP (s : List Str) : P := .tup (s.map .str)
def wayP (w : List Str × Str) : P := .tup [stepP w.1, .str w.2]
theorem ways_row (wf : WF T) {n : Str} (hn : n ∈ names T) : ∀ w ∈ ways T n, w.2 ∈ names T ∧ (∃ h, hdOf T w.2 = some h ∧ isAs h = false) ∧ (∀ x ∈ w.1, PyData.strOk x = true) ∧ w.1.length ≤ 2 := by
  intro w hw
  obtain ⟨h1, h, h2, h3⟩ := rowOf_ok wf hn
  have hm := hdOf_mem h2
  have hr : ∀ a ∈ refs h, rowOf T a ∈ names T ∧ ∃ h, hdOf T (rowOf T a) = some h ∧ isAs h = false := fun a ha => rowOf_ok wf (wf.cl _ hm a ha)
  have ho : ∀ w ∈ wordsOf h, PyData.strOk w = true := (wf.ok _ hm).2
  unfold ways at hw
  rw [h2] at hw
  cases h with
  | way a b =>
    simp only [List.mem_cons, List.not_mem_nil, or_false] at hw
    rcases hw with rfl | rfl
    · obtain ⟨g1, g2⟩ := hr a (by simp [refs])
      exact ⟨g1, g2, (by decide +kernel : ∀ x ∈ [("from" : Str)], PyData.strOk x = true), by simp⟩
    · obtain ⟨g1, g2⟩ := hr b (by simp [refs])
      exact ⟨g1, g2, (by decide +kernel : ∀ x ∈ [("to" : Str)], PyData.strOk x = true), by simp⟩
  | box ps =>
    obtain ⟨q, hq, rfl⟩ := List.mem_map.mp hw
    obtain ⟨g1, g2⟩ := hr q.2 (List.mem_map.mpr ⟨q, hq, rfl⟩)
    refine ⟨g1, g2, fun x hx => ?_, by simp⟩
    simp only [List.mem_cons, List.not_mem_nil, or_false] at hx
    rcases hx with rfl | rfl
    · decide +kernel
    · exact ho _ (List.mem_map.mpr ⟨q, hq, rfl⟩)
  | pick ps =>
    obtain ⟨q, hq, rfl⟩ := List.mem_map.mp hw
    obtain ⟨g1, g2⟩ := hr q.2 (List.mem_map.mpr ⟨q, hq, rfl⟩)
    refine ⟨g1, g2, fun x hx => ?_, by simp⟩
    simp only [List.mem_cons, List.not_mem_nil, or_false] at hx
    rcases hx with rfl | rfl
    · decide +kernel
    · exact ho _ (List.mem_map.mpr ⟨q, hq, rfl⟩)
  | _ => cases hw
end
end CK
/-! CkW: comprehensions and loops item by item, in order. -/
namespace CK
open PySem PySem.Spec PyProof.Rows L2

section
variable {chk : DH → Prop} {g : FG} {ft : FT} {fe : FE} {fb : FS} {ds0 : DS}
/-- what is kept of a list -/
theorem compL_filter {Inv : DH → Prop} {α : Type} {inn : α → P} (hc : ∀ S, Inv S → chk S) : ∀ (l : List α) (k : Nat) (S : DH), k + l.length ≤ 16777216 → Inv S →
    (∀ x ∈ l, ∀ S, Inv S → ∃ ds1 S1 b S2, g (.p (inn x)) ds0 S = some (ds1, S1) ∧ ft ds1 S1 = some (b, S2) ∧ Inv S2 ∧ (b = true → fe ds1 S2 = some (.p (inn x), S2))) →
    ∃ (ys : List α) (S' : DH), compL chk g ft fe ds0 k ((l.map inn).map .p) S = some ((ys.map inn).map .p, S') ∧ ys.Sublist l ∧ Inv S'
  | [], k, S, _, h, _ => ⟨[], S, by rw [List.map_nil, List.map_nil, compL, if_pos (hc S h)], List.Sublist.slnil, h⟩
  | x :: r, k, S, hk, h, hs => by
    rw [List.length_cons] at hk
    obtain ⟨ds1, S1, b, S2, e1, e2, h2, e3⟩ := hs x List.mem_cons_self S h
    rw [List.map_cons, List.map_cons, compL, if_pos (hc S h), e1]
    dsimp only
    cases b with
    | false =>
      obtain ⟨ys, S', e, s, h'⟩ := compL_filter hc r k S2 (by omega) h2 fun y hy => hs y (List.mem_cons_of_mem _ hy)
      rw [e2]
      exact ⟨ys, S', e, s.cons _, h'⟩
    | true =>
      obtain ⟨ys, S', e, s, h'⟩ := compL_filter hc r (k + 1) S2 (by omega) h2 fun y hy => hs y (List.mem_cons_of_mem _ hy)
      rw [e2]
      dsimp only
      rw [e3 rfl]
      dsimp only
      rw [if_pos (size_lt (by omega)), e]
      exact ⟨x :: ys, S', rfl, s.cons₂ _, h'⟩
/-- each item gives one -/
theorem compL_rel {Inv : DH → Prop} {α β : Type} {inn : α → D} {out : β → P} {R : α → β → Prop} (hc : ∀ S, Inv S → chk S) : ∀ (l : List α) (k : Nat) (S : DH), k + l.length ≤ 16777216 → Inv S →
    (∀ x ∈ l, ∀ S, Inv S → ∃ ds1 S1 b S2, g (inn x) ds0 S = some (ds1, S1) ∧ fe ds1 S1 = some (.p (out b), S2) ∧ R x b ∧ Inv S2) →
    ∃ (ys : List β) (S' : DH), compL chk g fYes fe ds0 k (l.map inn) S = some ((ys.map out).map .p, S') ∧ Paired R l ys ∧ Inv S'
  | [], k, S, _, h, _ => ⟨[], S, by rw [List.map_nil, compL, if_pos (hc S h)]; rfl, .nil, h⟩
  | x :: r, k, S, hk, h, hs => by
    rw [List.length_cons] at hk
    obtain ⟨ds1, S1, b, S2, e1, e2, hr, h2⟩ := hs x List.mem_cons_self S h
    obtain ⟨ys, S', e, s, h'⟩ := compL_rel hc r (k + 1) S2 (by omega) h2 fun y hy => hs y (List.mem_cons_of_mem _ hy)
    refine ⟨b :: ys, S', ?_, .cons hr s, h'⟩
    rw [List.map_cons, compL, if_pos (hc S h), e1]
    show (match fe ds1 S1 with | none => none | some (y, S3) => if k < sizeLine then (match compL chk g fYes fe ds0 (k + 1) (r.map inn) S3 with | none => none | some (l, S4) => some (y :: l, S4)) else none) = _
    rw [e2]
    dsimp only
    rw [if_pos (size_lt (by omega)), e]
    rfl
/-- nothing is drawn: a list by a function -/
theorem compL_map {α : Type} {inn : α → D} {f : α → P} {S : DH} (hc : chk S) (l : List α) (hl : l.length ≤ 16777216) (hs : ∀ x ∈ l, ∃ ds1, g (inn x) ds0 S = some (ds1, S) ∧ fe ds1 S = some (.p (f x), S)) :
    compL chk g fYes fe ds0 0 (l.map inn) S = some ((l.map f).map .p, S) := by
  obtain ⟨ys, S', e, p, rfl⟩ := compL_rel (chk := chk) (g := g) (fe := fe) (ds0 := ds0) (Inv := fun S' => S' = S) (inn := inn) (out := fun b : P => b) (R := fun x b => b = f x) (fun S' h => h ▸ hc) l 0 S (by omega) rfl
    (fun x hx S' e => by
      subst e
      obtain ⟨ds1, e1, e2⟩ := hs x hx
      exact ⟨ds1, S', f x, S', e1, e2, rfl, rfl⟩)
  have : ys = l.map f := by
    clear e hs hl
    induction p with
    | nil => rfl
    | cons h _ ih => rw [h, ih, List.map_cons]
  rw [e, this, List.map_id']
end
section
variable {chk : DH → Prop} {g : FG} {fb : FS}
/-- a loop by the numbers of its turns -/
theorem forL_at {Inv : Nat → DS → DH → Prop} (L : List D) (hc : ∀ n ds S, Inv n ds S → chk S) (hs : ∀ (n : Nat) (ds : DS) (S : DH) (x : D), L[n]? = some x → Inv n ds S → ∃ ds1 S1 ds2 S2, g x ds S = some (ds1, S1) ∧ (fb ds1 S1 = some (.nx ds2, S2) ∨ fb ds1 S1 = some (.ct ds2, S2)) ∧ Inv (n + 1) ds2 S2) :
    ∀ (l : List D) (n0 : Nat) (ds : DS) (S : DH), (∀ j, l[j]? = L[n0 + j]?) → Inv n0 ds S → ∃ ds' S', forL chk g fb l ds S = some (.nx ds', S') ∧ Inv (n0 + l.length) ds' S'
  | [], n0, ds, S, _, h0 => ⟨ds, S, forL_nil (hc _ ds S h0), h0⟩
  | x :: r, n0, ds, S, hl, h0 => by
    have e := hl 0
    rw [List.getElem?_cons_zero, Nat.add_zero] at e
    obtain ⟨ds1, S1, ds2, S2, e1, e2, h2⟩ := hs n0 ds S x e.symm h0
    obtain ⟨ds', S', e3, h3⟩ := forL_at L hc hs r (n0 + 1) ds2 S2 (fun j => by have := hl (j + 1); rw [List.getElem?_cons_succ] at this; rw [this]; congr 1; omega) h2
    refine ⟨ds', S', ?_, by rw [List.length_cons, show n0 + (r.length + 1) = n0 + 1 + r.length by omega]; exact h3⟩
    have c := hc _ ds S h0
    rcases e2 with e2 | e2
    · rw [forL_nx c e1 e2]; exact e3
    · rw [forL_ct c e1 e2]; exact e3
end
theorem Paired.mem_r {α β : Type} {R : α → β → Prop} {l : List α} {m : List β} (p : Paired R l m) : ∀ b ∈ m, ∃ a ∈ l, R a b := by
  induction p with
  | nil => intro b hb; cases hb
  | cons h _ ih =>
    intro b hb
    rcases List.mem_cons.mp hb with rfl | hb
    · exact ⟨_, List.mem_cons_self, h⟩
    · obtain ⟨a, ha, r⟩ := ih b hb
      exact ⟨a, List.mem_cons_of_mem _ ha, r⟩
theorem Paired.maps {α β : Type} {R : α → β → Prop} {f : β → α} (h : ∀ a b, R a b → f b = a) {l : List α} {m : List β} (p : Paired R l m) : m.map f = l := by
  induction p with
  | nil => rfl
  | cons r _ ih => rw [List.map_cons, ih, h _ _ r]
theorem cut_take {α : Type} (l : List α) (n : Nat) : cut l none (some (n : Int)) = l.take n := by
  unfold cut
  have h1 : HT.sIx l.length 0 none = 0 := rfl
  have h2 : HT.sIx l.length l.length (some (n : Int)) = min n l.length := HT.sIx_nat _ _ _
  rw [h1, h2]
  simp
end CK
/-! CkX: dicts behind an injective telling of keys; sums over a dict. -/
namespace CK
open PySem PySem.Spec PyProof.Rows L2

section
variable {κ μ α β : Type} [DecidableEq κ] [DecidableEq μ] {f : κ → μ} {g : α → β}
theorem dval_enc (hf : ∀ a b, f a = f b → a = b) (l : List (κ × α)) (k : κ) : dval (l.map fun e => (f e.1, g e.2)) (f k) = (dval l k).map g := by
  induction l with
  | nil => rfl
  | cons e r ih =>
    by_cases h : e.1 = k
    · have h1 : dval ((e :: r).map fun e => (f e.1, g e.2)) (f k) = some (g e.2) := by simp [dval, h]
      have h2 : dval (e :: r) k = some e.2 := by simp [dval, h]
      rw [h1, h2]; rfl
    · have h3 : ¬ f e.1 = f k := fun z => h (hf _ _ z)
      have h1 : dval ((e :: r).map fun e => (f e.1, g e.2)) (f k) = dval (r.map fun e => (f e.1, g e.2)) (f k) := by simp [dval, h3]
      have h2 : dval (e :: r) k = dval r k := by simp [dval, h]
      rw [h1, h2, ih]
theorem dput_enc (hf : ∀ a b, f a = f b → a = b) (l : List (κ × α)) (k : κ) (v : α) : dput (l.map fun e => (f e.1, g e.2)) (f k) (g v) = (dput l k v).map fun e => (f e.1, g e.2) := by
  have hd : ∀ e : κ × α, decide (f e.1 = f k) = decide (e.1 = k) := fun e => by
    by_cases h : e.1 = k
    · simp [h]
    · have h3 : ¬ f e.1 = f k := fun z => h (hf _ _ z)
      simp [h, h3]
  unfold dput
  rw [List.any_map]
  have ha : l.any ((fun kv => decide (kv.1 = f k)) ∘ fun e => (f e.1, g e.2)) = l.any fun kv => decide (kv.1 = k) := by
    congr 1; funext e; exact hd e
  rw [ha]
  split
  · rw [List.map_map, List.map_map]
    refine List.map_congr_left fun e _ => ?_
    show (if f e.1 = f k then (f e.1, g v) else (f e.1, g e.2)) = _
    by_cases h : e.1 = k
    · simp [h]
    · have h3 : ¬ f e.1 = f k := fun z => h (hf _ _ z)
      simp [h, h3]
  · simp
end
section
variable {κ : Type} [DecidableEq κ]
theorem dput_keys {α : Type} (l : List (κ × α)) (k : κ) (v : α) : (dput l k v).map (·.1) = if k ∈ l.map (·.1) then l.map (·.1) else l.map (·.1) ++ [k] := by
  unfold dput
  have : (l.any fun kv => decide (kv.1 = k)) = true ↔ k ∈ l.map (·.1) := by
    rw [List.any_eq_true, List.mem_map]
    exact ⟨fun ⟨e, h, d⟩ => ⟨e, h, of_decide_eq_true d⟩, fun ⟨e, h, d⟩ => ⟨e, h, decide_eq_true d⟩⟩
  by_cases h : k ∈ l.map (·.1)
  · rw [if_pos (this.mpr h), if_pos h, List.map_map]
    refine List.map_congr_left fun e _ => ?_
    show (if e.1 = k then (e.1, v) else e).1 = e.1
    split <;> rfl
  · rw [if_neg (fun z => h (this.mp z)), if_neg h, List.map_append]; rfl
theorem dput_nodup {α : Type} {l : List (κ × α)} (k : κ) (v : α) (h : (l.map (·.1)).Nodup) : ((dput l k v).map (·.1)).Nodup := by
  rw [dput_keys]
  split
  · exact h
  · rename_i hk
    rw [List.nodup_append]
    refine ⟨h, by simp, fun a ha b hb => ?_⟩
    rw [List.mem_singleton] at hb
    subst hb
    exact fun e => hk (e ▸ ha)
theorem dput_length {α : Type} (l : List (κ × α)) (k : κ) (v : α) : (dput l k v).length ≤ l.length + 1 := by
  unfold dput
  split <;> simp
/-- a weighted sum -/
def wsum (l : List (κ × Int)) (G : κ → Int) : Int := (l.map fun e => e.2 * G e.1).sum
theorem wsum_put {l : List (κ × Int)} (h : (l.map (·.1)).Nodup) (k : κ) (d : Int) (G : κ → Int) : wsum (dput l k ((dval l k).getD 0 + d)) G = wsum l G + d * G k := by
  by_cases hk : k ∈ l.map (·.1)
  · have hany : (l.any fun kv => decide (kv.1 = k)) = true := by
      obtain ⟨e, he, ek⟩ := List.mem_map.mp hk
      exact List.any_eq_true.mpr ⟨e, he, decide_eq_true ek⟩
    unfold dput
    rw [if_pos hany]
    clear hany
    induction l with
    | nil => simp at hk
    | cons e r ih =>
      rw [List.map_cons, List.nodup_cons] at h
      by_cases he : e.1 = k
      · have hv : dval (e :: r) k = some e.2 := by simp [dval, he]
        have hr : r.map (fun kv => if kv.1 = k then (kv.1, (dval (e :: r) k).getD 0 + d) else kv) = r := by
          conv => rhs; rw [← List.map_id r]
          refine List.map_congr_left fun q hq => ?_
          have : ¬ q.1 = k := fun z => h.1 (he ▸ z ▸ List.mem_map.mpr ⟨q, hq, rfl⟩)
          simp [this]
        rw [List.map_cons, hr, hv]
        simp [wsum, he]
        rw [Int.add_mul]; omega
      · have hv : dval (e :: r) k = dval r k := by simp [dval, he]
        have hk' : k ∈ r.map (·.1) := by
          rw [List.map_cons, List.mem_cons] at hk
          exact hk.resolve_left fun z => he z.symm
        have := ih h.2 hk'
        rw [hv, List.map_cons]
        simp only [he, if_false]
        show e.2 * G e.1 + wsum _ G = e.2 * G e.1 + wsum r G + d * G k
        rw [this]; omega
  · have hany : ¬ (l.any fun kv => decide (kv.1 = k)) = true := by
      rw [List.any_eq_true]
      rintro ⟨e, he, ek⟩
      exact hk (List.mem_map.mpr ⟨e, he, of_decide_eq_true ek⟩)
    have hv : dval l k = none := by
      unfold dval
      rw [List.find?_eq_none.mpr fun e he z => hany (List.any_eq_true.mpr ⟨e, he, z⟩)]; rfl
    unfold dput
    rw [if_neg hany, hv]
    simp [wsum]
end
end CK
/-! CkY: min and max of two, sorted texts. -/
namespace CK
open PySem PySem.Spec PyProof.Rows L2

def gMin2 : GN := fun xs S => match xs with
  | [.p (.int i), .p (.int j)] => some (.p (.int (if j < i then j else i)), S)
  | _ => none
def gMax2 : GN := fun xs S => match xs with
  | [.p (.int i), .p (.int j)] => some (.p (.int (if j > i then j else i)), S)
  | _ => none
theorem rds2 {K : PySem.W.Frag} {W : Wd} {x y : D} {vs : List V} (r : RDs K W [x, y] vs) : ∃ v w, vs = [v, w] ∧ RD K W x v ∧ RD K W y w := by
  cases r with
  | cons a t =>
    cases t with
    | cons b t => cases t; exact ⟨_, _, rfl, a, b⟩
theorem f_min2 {X : Cx} (hc : X.calm = true) : Fun1 X (.builtin "min") gMin2 := by
  refine ⟨_, call_min2 hc, ?_⟩
  intro W xs vs z S' Q s r e q
  unfold gMin2 at e
  split at e
  · cases e
    obtain ⟨v, w, rfl, r1, r2⟩ := rds2 r
    cases r1; cases r2
    exact ⟨_, _, rfl, q W _ (To.refl s) (.int _)⟩
  · cases e
theorem f_max2 {X : Cx} (hc : X.calm = true) : Fun1 X (.builtin "max") gMax2 := by
  refine ⟨_, call_max2 hc, ?_⟩
  intro W xs vs z S' Q s r e q
  unfold gMax2 at e
  split at e
  · cases e
    obtain ⟨v, w, rfl, r1, r2⟩ := rds2 r
    cases r1; cases r2
    exact ⟨_, _, rfl, q W _ (To.refl s) (.int _)⟩
  · cases e
@[simp] theorem gMin2_int {i j : Int} {S : DH} : gMin2 [.p (.int i), .p (.int j)] S = some (.p (.int (if j < i then j else i)), S) := rfl
@[simp] theorem gMax2_int {i j : Int} {S : DH} : gMax2 [.p (.int i), .p (.int j)] S = some (.p (.int (if j > i then j else i)), S) := rfl
/-! ### range with a step -/
def rangeC (lo c : Int) (n : Nat) : List D := (List.range n).map fun (i : Nat) => .p (.int (lo + (i : Int) * c))
theorem rangeC_get {lo c : Int} {n i : Nat} {d : D} (e : (rangeC lo c n)[i]? = some d) : i < n ∧ d = .p (.int (lo + (i : Int) * c)) := by
  have hi := get_lt e
  have hi' : i < n := by simpa [rangeC] using hi
  refine ⟨hi', ?_⟩
  unfold rangeC at e
  rw [List.getElem?_map, List.getElem?_range hi'] at e
  cases e; rfl
theorem wk_rangeC {K : PySem.W.Frag} {W0 : Wd} {lo c : Int} {n : Nat} : Wk K W0 (rangeC lo c n) (fun _ => True) (Itc lo c n) where
  go := fun W i d x s hc e => by
    obtain ⟨hi, rfl⟩ := rangeC_get e
    refine ⟨hi, fun u H' y => ?_⟩
    obtain ⟨e1, rfl⟩ := y
    exact ⟨W, e1.symm, To.refl s, .int _⟩
  stop := fun W x s hc => by
    show n ≤ (rangeC lo c n).length
    simp [rangeC]
def fRange3 (fs : FA) : FI := fun ds S => match fs ds S with
  | some ([.p (.int i), .p (.int j), .p (.int c)], S1) => if c ≠ 0 ∧ c.natAbs < 1073741824 ∧ Builtin.Range.small i j c = true ∧ 0 ≤ Builtin.Range.rangeSize i j c then some (rangeC i c (Builtin.Range.rangeSize i j c).toNat, fun _ => True, S1) else none
  | _ => none
theorem di_range3 {X : Cx} {tg a b c : Expr} {fs : FA} {p pos : Pos} (hg : Gl X "range") (hm : X.mg "range" = none) (ha : DA X [a, b, c] fs) (hl : ∀ ds S l S', fs ds S = some (l, S') → l.length = 3) (hs : starEach [a, b, c] X.env = (false, eval a X.env) :: starEach [b, c] X.env := by rfl) (hpl : (backTo pos (starEach [b, c] X.env)).any (·.1) = false := by rfl) : DI X tg (.Call (.Name "range" p) [a, b, c] [] pos) (fRange3 fs) :=
  PI.imp (pi_range3 hg hm ha hs hpl) fun σ H R ⟨W, ds, its, chk, S', eH, s, re, e, q⟩ => by
    unfold fRange3 at e
    split at e
    · rename_i i j k S1 e1
      split at e
      · rename_i h
        cases e
        obtain ⟨h1, h2, h3, h4⟩ := h
        refine ⟨W, ds, _, _, eH, s, re, e1, fun W1 vs t1 r1 => ?_⟩
        cases r1 with
        | cons a t =>
          cases t with
          | cons b t =>
            cases t with
            | cons c t =>
              cases t
              cases a
              cases b
              cases c
              exact ⟨i, j, k, _, rfl, ⟨h1, h2, h3, by omega⟩, q W1 _ t1 wk_rangeC⟩
      · cases e
    · cases e
@[simp] theorem fRange3_eq {fs : FA} {ds : DS} {S : DH} : fRange3 fs ds S = match fs ds S with
  | some ([.p (.int i), .p (.int j), .p (.int c)], S1) => if c ≠ 0 ∧ c.natAbs < 1073741824 ∧ Builtin.Range.small i j c = true ∧ 0 ≤ Builtin.Range.rangeSize i j c then some (rangeC i c (Builtin.Range.rangeSize i j c).toNat, fun _ => True, S1) else none
  | _ => none := rfl
end CK
/-! CkZ: count, sorted of data, max and min of a list, clear, list of a dict. -/
namespace CK
open PySem PySem.Spec PyProof.Rows L2

/-! ### x.count(y), any data -/
def rCountT (K : PySem.W.Frag) : V → List V → Hp → VK → Prop := fun x xs H Q => ∃ (y : V) (d : PyData) (ds : List PyData), xs = [y] ∧ Dp K H x (.tuple ds) ∧ Dp K H y d ∧ PyData.plainAll ds = true ∧ d.plain = true ∧ d.depth ≤ 60 ∧ Q (.int (ds.countP fun z => PyData.eqv z d : Nat)) H
def rCountL (K : PySem.W.Frag) : V → List V → Hp → VK → Prop := fun x xs H Q => ∃ (y : V) (d : PyData) (ds : List PyData), xs = [y] ∧ Dp K H x (.list ds) ∧ Dp K H y d ∧ PyData.plainAll ds = true ∧ d.plain = true ∧ d.depth ≤ 60 ∧ Q (.int (ds.countP fun z => PyData.eqv z d : Nat)) H
section
variable {X : Cx}
theorem mt_countT (hu : X.A.units + 65 < cLine) : MtR X "tuple.count" (rCountT X.K) := by
  intro pins s σ H x xs v us Q I rx rxs h
  obtain ⟨y, d, ds, rfl, hd, hy, p1, p2, hp, q⟩ := h
  obtain ⟨u, rfl, ru⟩ := vals1 rxs
  cases hd with
  | tup hs ha =>
    cases rx
    obtain ⟨its, rv, ht, hz⟩ := I.tuple hs
    obtain ⟨as, r1⟩ := Dp.readsAll I ds _ its ha rv
    obtain ⟨bs, r2⟩ := Dp.reads I d y u hy ru
    have hm := Nat.min_le_right (PyData.depthAll ds) d.depth
    exact PySem.SeqAt.count_tuple_data (vs := its.toArray) ht (by simpa using r1) r2 p1 p2 (by omega) ⟨.int _, H, I.tok _, ⟨_, rfl⟩, q⟩
theorem mt_countL (hu : X.A.units + 65 < cLine) : MtR X "list.count" (rCountL X.K) := by
  intro pins s σ H x xs v us Q I rx rxs h
  obtain ⟨y, d, ds, rfl, hd, hy, p1, p2, hp, q⟩ := h
  obtain ⟨u, rfl, ru⟩ := vals1 rxs
  cases hd with
  | lst hs ha =>
    cases rx
    obtain ⟨its, rv, ht, hz⟩ := I.list hs
    obtain ⟨as, r1⟩ := Dp.readsAll I ds _ its ha rv
    obtain ⟨bs, r2⟩ := Dp.reads I d y u hy ru
    have hm := Nat.min_le_right (PyData.depthAll ds) d.depth
    exact PySem.SeqAt.count_list_data (vs := its.toArray) ht.isList (by simpa using r1) r2 p1 p2 (by omega) ⟨.int _, H, I.tok _, ⟨_, rfl⟩, q⟩
end
def gCountT : GM := fun x xs S => match xs with
  | [y] => match toPyD S x, toPyD S y with
    | some (.tuple ds), some d => if (PyData.plainAll ds && d.plain && decide (d.depth ≤ 60)) = true then some (.p (.int (ds.countP fun z => PyData.eqv z d : Nat)), S) else none
    | _, _ => none
  | _ => none
def gCountL : GM := fun x xs S => match xs with
  | [y] => match toPyD S x, toPyD S y with
    | some (.list ds), some d => if (PyData.plainAll ds && d.plain && decide (d.depth ≤ 60)) = true then some (.p (.int (ds.countP fun z => PyData.eqv z d : Nat)), S) else none
    | _, _ => none
  | _ => none
theorem m_countT {X : Cx} (hu : X.A.units + 65 < cLine) : Meth1 X "tuple.count" gCountT := by
  refine ⟨_, mt_countT hu, ?_⟩
  intro W x v xs vs z S' Q s r1 r2 e q
  unfold gCountT at e
  split at e
  · split at e
    · rename_i ds d e1 e2
      split at e
      · rename_i h
        cases e
        rw [Bool.and_eq_true, Bool.and_eq_true] at h
        obtain ⟨w, rfl, rw⟩ := rds1 r2
        exact ⟨w, d, ds, rfl, toPyD_ok s r1 e1, toPyD_ok s rw e2, h.1.1, h.1.2, of_decide_eq_true h.2, q W _ (To.refl s) (.int _)⟩
      · cases e
    · cases e
  · cases e
theorem m_countL {X : Cx} (hu : X.A.units + 65 < cLine) : Meth1 X "list.count" gCountL := by
  refine ⟨_, mt_countL hu, ?_⟩
  intro W x v xs vs z S' Q s r1 r2 e q
  unfold gCountL at e
  split at e
  · split at e
    · rename_i ds d e1 e2
      split at e
      · rename_i h
        cases e
        rw [Bool.and_eq_true, Bool.and_eq_true] at h
        obtain ⟨w, rfl, rw⟩ := rds1 r2
        exact ⟨w, d, ds, rfl, toPyD_ok s r1 e1, toPyD_ok s rw e2, h.1.1, h.1.2, of_decide_eq_true h.2, q W _ (To.refl s) (.int _)⟩
      · cases e
    · cases e
  · cases e
/-! ### sorted(xs), any data -/
def leP (x y : P) : Bool := match toPy x, toPy y with
  | some a, some b => !PySem.W.dataLt b a
  | _, _ => true
def sortP (l : List P) : List P := l.mergeSort leP
/-- may be sorted: all alike, none too deep -/
def isTupP : PyData → Bool
  | .tuple (_ :: _) => true
  | _ => false
def isOthP : PyData → Bool
  | .tuple _ => false
  | .none => false
  | _ => true
def sortOk (ds : List PyData) : Bool := (ds.all fun d => ds.all fun e => PySem.W.alike d e) && (ds.all isTupP || ds.all isOthP) && ds.all fun d => decide (d.depth ≤ 60)
theorem sortable_of {ds : List PyData} (h : (ds.all isTupP || ds.all isOthP) = true) : PySem.W.Sortable ds := by
  rw [Bool.or_eq_true] at h
  rcases h with h | h
  · refine .inl fun d hd => ?_
    have := List.all_eq_true.mp h d hd
    unfold isTupP at this
    split at this
    · exact ⟨_, _, rfl⟩
    · cases this
  · refine .inr fun d hd => ?_
    have := List.all_eq_true.mp h d hd
    unfold isOthP at this
    split at this
    · cases this
    · cases this
    · rename_i h1 h2
      exact ⟨h2, h1⟩
/-- the items with what they are -/
structure Tri (K : PySem.W.Frag) (H : Hp) (L : Addr → Prop) (s : Shared) (b : P × V × PyData) (u : Value) : Prop where
  rp : RP K H L b.1 b.2.1
  rv : RelV b.2.1 u
  py : toPy b.1 = some b.2.2
theorem tri_of {X : Cx} {pins : List (Addr × Obj)} {σ : L2.St} {H : Hp} {s : Shared} {L : Addr → Prop} (I : Inv X pins σ H s) : ∀ {ps : List P} {vs : List V} {us : List Value} {ds : List PyData}, RPs X.K H L ps vs → Vals vs us → toPys ps = some ds →
    ∃ bs : List (P × V × PyData), bs.map (·.1) = ps ∧ bs.map (·.2.1) = vs ∧ bs.map (·.2.2) = ds ∧ PySem.W.EachIs (fun u b => Tri X.K H L s b u) us bs
  | _, _, _, ds, .nil, .nil, h => ⟨[], rfl, rfl, by cases h; rfl, .nil⟩
  | p :: ps, v :: vs, u :: us, ds, .cons h t, .cons hv tv, hp => by
    unfold toPys at hp
    split at hp
    · cases hp
    · rename_i d e1
      split at hp
      · cases hp
      · rename_i l e2
        cases hp
        obtain ⟨bs, h1, h2, h3, h4⟩ := tri_of I t tv e2
        exact ⟨(p, v, d) :: bs, by rw [List.map_cons, h1], by rw [List.map_cons, h2], by rw [List.map_cons, h3], .cons ⟨h, hv, e1⟩ h4⟩
theorem each_vals {K : PySem.W.Frag} {H : Hp} {L : Addr → Prop} {s : Shared} : ∀ {us : List Value} {bs : List (P × V × PyData)}, PySem.W.EachIs (fun u b => Tri K H L s b u) us bs → Vals (bs.map (·.2.1)) us ∧ RPs K H L (bs.map (·.1)) (bs.map (·.2.1))
  | _, _, .nil => ⟨.nil, .nil⟩
  | _, _, .cons h t => ⟨.cons h.rv (each_vals t).1, .cons h.rp (each_vals t).2⟩
def rSortedD (K : PySem.W.Frag) : List V → Hp → VK → Prop := fun xs H Q => ∃ (a : Addr) (L : Addr → Prop) (ps : List P) (vs : List V) (ds : List PyData), xs = [V.ref a] ∧ SqL K H a vs ∧ RPs K H L ps vs ∧ toPys ps = some ds ∧ sortOk ds = true ∧
  ∀ (ws : List V) (p : Addr), RPs K H L (sortP ps) ws → H p = none → Q (.ref p) (upd H p (.lst ws))
theorem cr_sortedD {X : Cx} (hu : X.A.units + 64 < cLine) : CallR X (.builtin "sorted") (rSortedD X.K) := by
  intro pins s σ H xs us Q I r h
  obtain ⟨a, L, ps, vs, ds, rfl, hs, rp, hp, ok, q⟩ := h
  obtain ⟨its, rv, hl, hz⟩ := I.list hs
  obtain ⟨u, rfl, ru⟩ := vals1 r
  cases ru
  obtain ⟨bs, b1, b2, b3, e⟩ := tri_of I rp rv hp
  unfold sortOk at ok
  rw [Bool.and_eq_true, Bool.and_eq_true] at ok
  have hlen : bs.length = vs.length := by rw [← b2, List.length_map]
  refine PySem.W.sorted_data (enc := fun b : P × V × PyData => b.2.2) (R := fun u b => Tri X.K H L s b u) (vs := its) hl.isList e ?_ ?_ ?_ (by rw [hlen]; exact hz) (fun b hb => ?_) fun out ho eo => ?_
  · refine e.mono fun u b t => ?_
    exact Dp.reads I b.2.2 b.2.1 u (toPy_ok t.rp t.py) t.rv
  · rw [b3]
    intro d hd d' hd'
    exact List.all_eq_true.mp (List.all_eq_true.mp ok.1.1 d hd) d' hd'
  · rw [b3]; exact sortable_of ok.1.2
  · have : b.2.2 ∈ ds := by rw [← b3]; exact List.mem_map.mpr ⟨b, hb, rfl⟩
    have := of_decide_eq_true (List.all_eq_true.mp ok.2 _ this)
    show X.A.units + 2 + b.2.2.depth < cLine
    omega
  · obtain ⟨ep, he'⟩ := PyProof.Rows.sortedAll_at s.heap its out.toArray
    obtain ⟨v1, v2⟩ := each_vals eo
    have hsort : (bs.mergeSort (PySem.W.dataLe false fun b : P × V × PyData => b.2.2)).map (·.1) = sortP ps := by
      rw [← b1]
      refine List.map_mergeSort fun x hx y hy => ?_
      have g : ∀ b ∈ bs, toPy b.1 = some b.2.2 := by
        intro b hb
        have : ∀ {us : List Value} {bs : List (P × V × PyData)}, PySem.W.EachIs (fun u b => Tri X.K H L s b u) us bs → ∀ b ∈ bs, toPy b.1 = some b.2.2 := by
          intro us bs h
          induction h with
          | nil => intro b hb; cases hb
          | cons h _ ih =>
            intro b hb
            rcases List.mem_cons.mp hb with rfl | hb
            · exact h.py
            · exact ih b hb
        exact this e b hb
      unfold leP
      rw [g x hx, g y hy]
      rfl
    rw [hsort] at v2
    have hz2 : ((bs.mergeSort (PySem.W.dataLe false fun b : P × V × PyData => b.2.2)).map (·.2.1)).length ≤ sizeLine := by
      rw [List.length_map, List.length_mergeSort, hlen]; exact hz
    exact ⟨.ref _, upd H (s.heap.objs.size + 1) (.lst _), I.laid (t' := s.toks) (fun _ _ => PyProof.Rows.sortedAll_old) (Nat.le_succ _) ⟨hz2, out, ep, v1, he'⟩, rfl, q _ _ v2 (I.hok.fresh (Nat.le_succ _))⟩
/-- the items of a list as values -/
def lstP (S : DH) (x : D) : Option (List P) := match lstD S x with
  | some l => allP l
  | none => none
def gSorted : GN := fun xs S => match xs with
  | [x] => match lstP S x with
    | some ps => match toPys ps with
      | some ds => if sortOk ds = true then some (.p (.lst (sortP ps)), S) else none
      | none => none
    | none => none
  | _ => none
theorem f_sorted {X : Cx} (hu : X.A.units + 64 < cLine) : Fun1 X (.builtin "sorted") gSorted := by
  refine ⟨_, cr_sortedD hu, ?_⟩
  intro W xs vs z S' Q s r e q
  unfold gSorted at e
  split at e
  · split at e
    · rename_i ps hps
      split at e
      · rename_i ds hds
        split at e
        · rename_i ok
          cases e
          obtain ⟨v, rfl, r1⟩ := rds1 r
          unfold lstP at hps
          split at hps
          · rename_i l hl
            obtain ⟨a, ws, rfl, h1, h2⟩ := lstD_ok s r1 hl
            refine ⟨a, W.L, ps, ws, ds, rfl, h1, allP_rel hps h2, hds, ok, fun us p h3 hp => ?_⟩
            obtain ⟨t, r⟩ := new_lst s hp h3
            exact q _ _ t r
          · cases hps
        · cases e
      · cases e
    · cases e
  · cases e
/-! ### max, min of a list of whole numbers -/
def gMaxL : GN := fun xs S => match xs with
  | [x] => match lstD S x with
    | some l => match allInt l with
      | some (n :: ns) => some (.p (.int (ns.foldl max n)), S)
      | _ => none
    | none => none
  | _ => none
def gMinL : GN := fun xs S => match xs with
  | [x] => match lstD S x with
    | some l => match allInt l with
      | some (n :: ns) => some (.p (.int (ns.foldl min n)), S)
      | _ => none
    | none => none
  | _ => none
theorem foldl_max_le : ∀ (ns : List Int) (n : Int), n ≤ ns.foldl max n ∧ (∀ y ∈ ns, y ≤ ns.foldl max n) ∧ ns.foldl max n ∈ n :: ns
  | [], n => ⟨Int.le_refl _, (fun y hy => absurd hy List.not_mem_nil), List.mem_cons_self⟩
  | a :: ns, n => by
    obtain ⟨h1, h2, h3⟩ := foldl_max_le ns (max n a)
    rw [List.foldl_cons]
    refine ⟨by omega, fun y hy => ?_, ?_⟩
    · rcases List.mem_cons.mp hy with rfl | hy
      · omega
      · exact h2 y hy
    · rcases List.mem_cons.mp h3 with h | h
      · rw [h]
        by_cases hc : n ≤ a
        · rw [Int.max_eq_right hc]; simp
        · rw [Int.max_eq_left (by omega)]; simp
      · exact List.mem_cons_of_mem _ (List.mem_cons_of_mem _ h)
theorem foldl_min_le : ∀ (ns : List Int) (n : Int), ns.foldl min n ≤ n ∧ (∀ y ∈ ns, ns.foldl min n ≤ y) ∧ ns.foldl min n ∈ n :: ns
  | [], n => ⟨Int.le_refl _, (fun y hy => absurd hy List.not_mem_nil), List.mem_cons_self⟩
  | a :: ns, n => by
    obtain ⟨h1, h2, h3⟩ := foldl_min_le ns (min n a)
    rw [List.foldl_cons]
    refine ⟨by omega, fun y hy => ?_, ?_⟩
    · rcases List.mem_cons.mp hy with rfl | hy
      · omega
      · exact h2 y hy
    · rcases List.mem_cons.mp h3 with h | h
      · rw [h]
        by_cases hc : n ≤ a
        · rw [Int.min_eq_left hc]; simp
        · rw [Int.min_eq_right (by omega)]; simp
      · exact List.mem_cons_of_mem _ (List.mem_cons_of_mem _ h)
theorem f_maxL {X : Cx} (hc : X.calm = true) : Fun1 X (.builtin "max") gMaxL := by
  refine ⟨_, cr_max hc, ?_⟩
  intro W xs vs z S' Q s r e q
  unfold gMaxL at e
  split at e
  · split at e
    · rename_i l hl
      split at e
      · rename_i n ns hn
        cases e
        obtain ⟨v, rfl, r1⟩ := rds1 r
        obtain ⟨a, ws, rfl, h1, h2⟩ := lstD_ok s r1 hl
        rw [allInt_ok hn h2] at h1
        refine ⟨a, _, rfl, h1, by simp, fun m hm hle => ?_⟩
        obtain ⟨g1, g2, g3⟩ := foldl_max_le ns n
        have : m = ns.foldl max n := by
          have a1 := hle _ g3
          have a2 : m ≤ ns.foldl max n := by
            rcases List.mem_cons.mp hm with rfl | hm
            · exact g1
            · exact g2 m hm
          omega
        subst this
        exact q W _ (To.refl s) (.int _)
      · cases e
    · cases e
  · cases e
theorem f_minL {X : Cx} (hc : X.calm = true) : Fun1 X (.builtin "min") gMinL := by
  refine ⟨_, cr_min hc, ?_⟩
  intro W xs vs z S' Q s r e q
  unfold gMinL at e
  split at e
  · split at e
    · rename_i l hl
      split at e
      · rename_i n ns hn
        cases e
        obtain ⟨v, rfl, r1⟩ := rds1 r
        obtain ⟨a, ws, rfl, h1, h2⟩ := lstD_ok s r1 hl
        rw [allInt_ok hn h2] at h1
        refine ⟨a, _, rfl, h1, by simp, fun m hm hle => ?_⟩
        obtain ⟨g1, g2, g3⟩ := foldl_min_le ns n
        have : m = ns.foldl min n := by
          have a1 := hle _ g3
          have a2 : ns.foldl min n ≤ m := by
            rcases List.mem_cons.mp hm with rfl | hm
            · exact g1
            · exact g2 m hm
          omega
        subst this
        exact q W _ (To.refl s) (.int _)
      · cases e
    · cases e
  · cases e
/-! ### xs.clear() -/
def gClear : GM := fun x xs S => match x, xs with
  | .ref i, [] => match S[i]? with
    | some (.lst _) => some (.p .non, S.set i (.lst []))
    | _ => none
  | _, _ => none
theorem MtR.of {X : Cx} {id : String} {r : V → List V → Hp → VK → Prop} (h : MtR X id r) : MtR X id r := h
theorem m_clear {X : Cx} : Meth1 X "list.clear" gClear := by
  refine ⟨_, mt_clear, ?_⟩
  intro W x v xs vs z S' Q s r1 r2 e q
  unfold gClear at e
  split at e
  · rename_i i
    split at e
    · rename_i l el
      cases e
      obtain ⟨a, ea, rfl⟩ := r1
      cases r2
      obtain ⟨us, h1, h2⟩ := s.obj i _ a el ea
      exact ⟨a, us, rfl, rfl, h1, q _ _ (put_lst s ea el .nil rfl) .non⟩
    · cases e
  · cases e
/-! ### list(d) -/
def gListK : GN := fun xs S => match xs with
  | [x] => match dictD S x with
    | some (.inl l) => some (.p (.lst (l.map fun q => kP q.1)), S)
    | some (.inr l) => some (.p (.lst (l.map fun q => .tup (q.1.map kP))), S)
    | none => none
  | _ => none
def gListKH : GN := fun xs S => match xs with
  | [x] => match dictD S x with
    | some (.inl l) => some (.ref S.length, S ++ [.lst (l.map fun q => .p (kP q.1))])
    | some (.inr l) => some (.ref S.length, S ++ [.lst (l.map fun q => .p (.tup (q.1.map kP)))])
    | none => none
  | _ => none
theorem rp_key {K : PySem.W.Frag} {H : Hp} {L : Addr → Prop} (k : Key) : RP K H L (kP k) (kV k) := by
  cases k with
  | inl i => exact .int i
  | inr x => exact .str x
theorem rps_keys {K : PySem.W.Frag} {H : Hp} {L : Addr → Prop} : ∀ ks : List Key, RPs K H L (ks.map kP) (ks.map kV)
  | [] => .nil
  | k :: ks => .cons (rp_key k) (rps_keys ks)
theorem rps_dk {K : PySem.W.Frag} {W : Wd} : ∀ {l : List (Key × D)} {kvs : List (Key × V)}, RDk K W l kvs → RPs K W.H W.L (l.map fun q => kP q.1) (kvs.map fun kv => kV kv.1)
  | _, _, .nil => .nil
  | _, _, .cons h t => .cons (by have := h.1; show RP K W.H W.L (kP _) (kV _); rw [this]; exact rp_key _) (rps_dk t)
theorem rps_dt {K : PySem.W.Frag} {W : Wd} : ∀ {l : List (List Key × D)} {kvs : List (List Key × V)} {bs : List Addr}, RDk K W l kvs → IsKeys W.H kvs bs → RPs K W.H W.L (l.map fun q => .tup (q.1.map kP)) (bs.map V.ref)
  | _, _, _, .nil, .nil => .nil
  | _, _, _, .cons h t, .cons b u => .cons (.tup b (by have := h.1; rw [this]; exact rps_keys _)) (rps_dt t u)
def rListKD : List V → Hp → VK → Prop := fun xs H Q => ∃ (a : Addr), xs = [.ref a] ∧ ((∃ kvs : List (Key × V), Rd H a (.dK kvs) ∧ ∀ p, H p = none → Q (.ref p) (upd H p (.lst (kvs.map fun kv => kV kv.1)))) ∨
  ∃ kvs : List (List Key × V), Rd H a (.dT kvs) ∧ ∀ p bs, H p = none → IsKeys H kvs bs → Q (.ref p) (upd H p (.lst (bs.map V.ref))))
theorem cr_listKD {X : Cx} (hc : X.calm = true) : CallR X (.type "list") rListKD := by
  intro pins s σ H xs us Q I r q
  obtain ⟨a, rfl, ⟨kvs, h, q⟩ | ⟨kvs, h, q⟩⟩ := q
  · exact call_listD hc pins s σ H _ us Q I r ⟨a, kvs, rfl, h, q⟩
  · exact call_list_dT hc pins s σ H _ us Q I r ⟨a, kvs, rfl, h, q⟩
theorem f_listK {X : Cx} (hc : X.calm = true) : Fun1 X (.type "list") gListK := by
  refine ⟨_, cr_listKD hc, ?_⟩
  intro W xs vs z S' Q s r e q
  unfold gListK at e
  split at e
  · rename_i x
    obtain ⟨v, rfl, r1⟩ := rds1 r
    split at e
    · rename_i l hl
      cases e
      obtain ⟨a, rfl, kvs, h1, h2⟩ := dictD_ok s r1 hl
      refine ⟨a, rfl, .inl ⟨kvs, h1, fun p hp => ?_⟩⟩
      obtain ⟨t, r⟩ := new_lst s hp (rps_dk h2)
      exact q _ _ t r
    · rename_i l hl
      cases e
      obtain ⟨a, rfl, kvs, h1, h2⟩ := dictD_ok s r1 hl
      refine ⟨a, rfl, .inr ⟨kvs, h1, fun p bs hp hb => ?_⟩⟩
      obtain ⟨t, r⟩ := new_lst s hp (rps_dt h2 hb)
      exact q _ _ t r
    · cases e
  · cases e
theorem rds_of_ps {K : PySem.W.Frag} {W : Wd} : ∀ {ps : List P} {vs : List V}, RPs K W.H W.L ps vs → RDs K W (ps.map .p) vs
  | _, _, .nil => .nil
  | _, _, .cons h t => .cons h (rds_of_ps t)
theorem f_listKH {X : Cx} (hc : X.calm = true) : Fun1 X (.type "list") gListKH := by
  refine ⟨_, cr_listKD hc, ?_⟩
  intro W xs vs z S' Q s r e q
  unfold gListKH at e
  split at e
  · rename_i x
    obtain ⟨v, rfl, r1⟩ := rds1 r
    split at e
    · rename_i l hl
      cases e
      obtain ⟨a, rfl, kvs, h1, h2⟩ := dictD_ok s r1 hl
      refine ⟨a, rfl, .inl ⟨kvs, h1, fun p hp => ?_⟩⟩
      have h3 := rds_of_ps (rps_dk h2)
      rw [List.map_map] at h3
      obtain ⟨t, r⟩ := add_lst s hp h3
      exact q _ _ t r
    · rename_i l hl
      cases e
      obtain ⟨a, rfl, kvs, h1, h2⟩ := dictD_ok s r1 hl
      refine ⟨a, rfl, .inr ⟨kvs, h1, fun p bs hp hb => ?_⟩⟩
      have h3 := rds_of_ps (rps_dt h2 hb)
      rw [List.map_map] at h3
      obtain ⟨t, r⟩ := add_lst s hp h3
      exact q _ _ t r
    · cases e
  · cases e
end CK
/-! CkZb: tuples whose object is known, by display and by +; their methods. -/
namespace CK
open PySem PySem.Spec PyProof.Rows L2

def tTupF (t : TA) : TE := fun σ H Q => t σ H fun xs H1 => xs.length ≤ sizeLine ∧ ∀ p o, H1 p = none → o.dict = none → Q (.ref p) (upd H1 p (.frz o (.tup xs)))
theorem pe_tupF {X : Cx} {es : List Expr} {pos : Pos} {t : TA} {x1} (h : PA X es t) : PE X (.Tuple es x1 pos) (tTupF t) := by
  refine ⟨fun pins s σ H Q I hq => ?_⟩
  refine wpAny_Tuple_spliced (thn (h.run pos pins s σ H _ I hq) fun us s1 ⟨xs, H1, I1, r, z, q⟩ => ⟨by rw [← r.length]; exact z, ?_⟩)
  have hf : H1 s1.heap.objs.size = none := I1.hok.fresh (Nat.le_refl _)
  refine ⟨.ref s1.heap.objs.size, upd H1 s1.heap.objs.size (.frz { cls := .type "tuple", data := .seq us.toArray } (.tup xs)), I1.laid (t' := s1.toks) (fun b u e => Heap.get?_push_of_some _ e) (Nat.le_refl _) ?_, rfl, q _ _ hf rfl⟩
  exact ⟨Heap.get?_push_size _ rfl, z, us, r, ⟨_, Heap.get?_push_size _ rfl, rfl, _, rfl⟩⟩
def fTupF (fs : FA) : FE := fun ds S => match fs ds S with
  | none => none
  | some (l, S1) => if l.length ≤ sizeLine then (allP l).map fun ps => (.p (.ftup ps), S1) else none
theorem de_tupF {X : Cx} {es : List Expr} {fs : FA} {x1} {pos : Pos} (h : DA X es fs) : DE X (.Tuple es x1 pos) (fTupF fs) := PE.imp (pe_tupF h) fun σ H Q ⟨W, ds, d, S', eH, s, re, e, q⟩ => by
  unfold fTupF at e
  split at e
  · cases e
  · rename_i l S1 e1
    split at e
    · rename_i hl
      cases hp : allP l with
      | none => rw [hp] at e; cases e
      | some ps =>
        rw [hp] at e; cases e
        refine ⟨W, ds, l, _, eH, s, re, e1, fun W1 vs t1 r1 => ⟨by rw [← rds_length r1]; exact hl, fun p o hp' ho => ?_⟩⟩
        obtain ⟨t, r⟩ := new_ftup t1.s hp' ho (allP_rel hp r1)
        have te := t1.e
        refine q _ _ ⟨t1.x.trans t.x, t.s, t.e.trans te⟩ r
    · cases e
/-- t + u of such tuples -/
def rCatF : R2 := fun x y H Q => ∃ a b xs ys, x = .ref a ∧ y = .ref b ∧ Ft H a xs ∧ Ft H b ys ∧ xs.length + ys.length ≤ sizeLine ∧
  (xs = [] → Q (.ref b) H) ∧ (xs ≠ [] → ys = [] → Q (.ref a) H) ∧ (xs ≠ [] → ys ≠ [] → ∀ p o, H p = none → o.dict = none → Q (.ref p) (upd H p (.frz o (.tup (xs ++ ys)))))
theorem op_catF {X : Cx} : OpR X (binaryOp .Add) rCatF := by
  intro pins s σ H x y v u Q I rx ry h
  obtain ⟨a, b, xs, ys, rfl, rfl, ha, hb, hz, q0, q1, q2⟩ := h
  by_cases hx : xs = []
  · exact op_catA pins s σ H _ _ v u Q I rx ry ⟨a, b, xs, ys, rfl, rfl, ha.sq, hb.sq, hz, q0, fun h => absurd hx h, fun h => absurd hx h⟩
  · by_cases hy : ys = []
    · exact op_catA pins s σ H _ _ v u Q I rx ry ⟨a, b, xs, ys, rfl, rfl, ha.sq, hb.sq, hz, q0, q1, fun _ h => absurd hy h⟩
    · cases rx
      cases ry
      obtain ⟨its, r1, p1, _⟩ := I.tuple (ha.sq (K := X.K))
      obtain ⟨its2, r2, p2, _⟩ := I.tuple (hb.sq (K := X.K))
      refine HT.cat_tup p1 p2 (fun z => hx (r1.nil_iff.mp z)) (fun z => absurd (r2.nil_iff.mp z) hy) (fun z => ?_) (by rw [← r1.length, ← r2.length]; exact hz)
      refine ⟨.ref s.heap.objs.size, _, I.laid (t' := s.toks) (o := .frz { cls := .type "tuple", data := .seq (its ++ its2).toArray } (.tup (xs ++ ys))) (fun b ob q => Heap.get?_push_of_some _ q) (Nat.le_refl _) ?_, rfl, q2 hx hy _ _ (I.hok.fresh (Nat.le_refl _)) rfl⟩
      exact ⟨Heap.get?_push_size _ rfl, by rw [List.length_append]; exact hz, its ++ its2, r1.append r2, IsTup.new _ _⟩
def gAddF : G2 := fun x y S => match x, y with
  | .p (.ftup ps), .p (.ftup qs) => if ps.length + qs.length ≤ sizeLine then some (.p (.ftup (ps ++ qs)), S) else none
  | _, _ => none
theorem vr_addF {K : PySem.W.Frag} : VR2 K gAddF rCatF := by
  intro W x y v w z S' Q s r1 r2 e q
  unfold gAddF at e
  split at e
  · rename_i ps qs
    split at e
    · rename_i hl
      cases e
      cases r1 with
      | ftup h1 n1 h2 =>
        cases r2 with
        | ftup h3 n3 h4 =>
          refine ⟨_, _, _, _, rfl, rfl, h1, h3, by rw [← rps_length h2, ← rps_length h4]; exact hl, fun e0 => ?_, fun _ e0 => ?_, fun _ _ p o hp ho => ?_⟩
          · subst e0
            cases h2
            exact q W _ (To.refl s) (.ftup h3 n3 h4)
          · subst e0
            cases h4
            rw [List.append_nil] at q
            exact q W _ (To.refl s) (.ftup h1 n1 h2)
          · obtain ⟨t, r⟩ := new_ftup s hp ho (rps_app h2 h4)
            exact q _ _ t r
    · cases e
  · cases e
theorem de_addF {X : Cx} {a b : Expr} {fa fb : FE} {pos : Pos} (ha : DE X a fa) (hb : DE X b fb) : DE X (.BinOp a .Add b pos) (fBin gAddF fa fb) := de_op op_catF vr_addF ha hb
/-- a method of such a tuple -/
def tBMF (r : V → List V → Hp → VK → Prop) (to : TE) (t : TA) : TE := fun σ H Q => to σ H fun x H1 => (∃ p vs, x = .ref p ∧ Ft H1 p vs) ∧ t σ H1 fun xs H2 => r x xs H2 Q
section
variable {X : Cx} {o e : Expr} {es : List Expr} {to : TE} {t : TA} {name : Str} {apos cpos : Pos} {id : String} {r : V → List V → Hp → VK → Prop}
theorem pe_bmF (pa : PlainAttrs "tuple") (slot : Slot "tuple" name id) (hty : typeOf (.builtin id) = pure (.type "method_descriptor")) (hm : MtR X id r) (ho : PE X o to) (ha : PA X (e :: es) t)
    (hbase : attributeBase o name X.env (eval o X.env) = eval o X.env := by rfl)
    (hfew : ((backTo cpos (starEach (e :: es) X.env)).all (fun x => !x.1) && (backToKw cpos (keywordEach [] X.env)).all (fun x => x.1.isSome)
      && decide ((e :: es).length + ([] : List Keyword).length + (if ([] : List Keyword).isEmpty then 0 else 1) < 30)) = true := by rfl)
    (hline : (apos.endLine == cpos.line) = true := by rfl) (hs : starEach (e :: es) X.env = (false, eval e X.env) :: starEach es X.env := by rfl) (hplain : (backTo cpos (starEach es X.env)).any (·.1) = false := by rfl) :
    PE X (.Call (.Attribute o name apos) (e :: es) [] cpos) (tBMF r to t) := by
  refine ⟨fun pins s σ H Q I h => ?_⟩
  refine wpAny_Call_method_late hbase hfew hline rfl (thn (ho.run pins s σ H _ I h) fun v s1 ⟨x, H1, I1, r1, ty, q1⟩ => ?_)
  obtain ⟨p, ws, rfl, ob, hH, hd⟩ := ty
  obtain ⟨h0, hz, its, rv, o', h1, h2, n, h3⟩ := (show ObjOk X.prog X.w H1 s1.heap p (.frz ob (.tup ws)) from I1.hok p _ hH)
  rw [h0] at h1; cases h1
  have r1' := r1
  cases r1'
  refine ⟨"tuple", id, pa, slot, hty, ⟨ob, h0, h2⟩, fun a e => by cases e; exact ⟨ob, h0, hd⟩, ?_⟩
  have hA := ha.run cpos pins s1 σ H1 _ I1 q1
  rw [hs] at hA ⊢
  refine Calls.callWith_builtin (by show (false || (backTo cpos (starEach es X.env)).any (·.1)) = false; rw [hplain] <;> rfl) (Calls.evalArgs_plain ?_)
  exact thn hA fun us s2 ⟨vs, H2, I2, r2, q2⟩ => hm pins s2 σ H2 (.ref p) vs (.ref p) us Q I2 r1 r2 q2
end
def fMethF (g : GM) (fo : FE) (fs : FA) : FE := fun ds S => match fo ds S with
  | some (.p (.ftup l), S1) => (match fs ds S1 with
    | none => none
    | some (xs, S2) => g (.p (.ftup l)) xs S2)
  | _ => none
section
variable {X : Cx} {o e : Expr} {es : List Expr} {fo : FE} {fs : FA} {name : Str} {apos cpos : Pos} {id : String} {g : GM}
theorem de_mF (pa : PlainAttrs "tuple") (slot : Slot "tuple" name id) (hty : typeOf (.builtin id) = pure (.type "method_descriptor")) (hm : Meth1 X id g) (ho : DE X o fo) (ha : DA X (e :: es) fs)
    (hbase : attributeBase o name X.env (eval o X.env) = eval o X.env := by rfl)
    (hfew : ((backTo cpos (starEach (e :: es) X.env)).all (fun x => !x.1) && (backToKw cpos (keywordEach [] X.env)).all (fun x => x.1.isSome)
      && decide ((e :: es).length + ([] : List Keyword).length + (if ([] : List Keyword).isEmpty then 0 else 1) < 30)) = true := by rfl)
    (hline : (apos.endLine == cpos.line) = true := by rfl) (hs : starEach (e :: es) X.env = (false, eval e X.env) :: starEach es X.env := by rfl) (hplain : (backTo cpos (starEach es X.env)).any (·.1) = false := by rfl) :
    DE X (.Call (.Attribute o name apos) (e :: es) [] cpos) (fMethF g fo fs) := by
  obtain ⟨r, h1, h2⟩ := hm
  exact PE.imp (pe_bmF pa slot hty h1 ho ha hbase hfew hline hs hplain) fun σ H Q ⟨W, ds, d, S', eH, s, re, e, q⟩ => by
    unfold fMethF at e
    split at e
    · rename_i l S1 e1
      split at e
      · cases e
      · rename_i xs S2 e2
        refine ⟨W, ds, _, _, eH, s, re, e1, fun W1 v t1 r1 => ⟨?_, ?_⟩⟩
        · cases r1 with
          | ftup h1 n1 h2 => exact ⟨_, _, rfl, h1⟩
        · refine ⟨W1, ds, xs, _, rfl, t1.s, re.ext t1.x, by rw [t1.e]; exact e2, fun W2 vs t2 r2 => ?_⟩
          exact h2 W2 _ v xs vs d S' Q t2.s (r1.ext t2.x) r2 (by rw [t2.e]; exact e) fun W3 u t3 r3 => q W3 u ((t1.after t2).after t3) r3
    · cases e
end
section
variable {ds : DS} {S : DH}
@[simp] theorem fTupF_eq {fs : FA} : fTupF fs ds S = match fs ds S with
  | none => none
  | some (l, S1) => if l.length ≤ sizeLine then (allP l).map fun ps => (.p (.ftup ps), S1) else none := rfl
@[simp] theorem fMethF_eq {g : GM} {fo : FE} {fs : FA} : fMethF g fo fs ds S = match fo ds S with
  | some (.p (.ftup l), S1) => (match fs ds S1 with
    | none => none
    | some (xs, S2) => g (.p (.ftup l)) xs S2)
  | _ => none := rfl
theorem gAddF_eq {ps qs : List P} (h : ps.length + qs.length ≤ 16777216) : gAddF (.p (.ftup ps)) (.p (.ftup qs)) S = some (.p (.ftup (ps ++ qs)), S) := by
  show (if ps.length + qs.length ≤ sizeLine then some (D.p (.ftup (ps ++ qs)), S) else none) = _
  rw [if_pos (size_le h)]
end
end CK
/-! CkWP: reckoning forwards, with what is to hold behind it. -/
namespace CK
open PySem PySem.Spec PyProof.Rows L2

inductive Pin {α : Sort _} (a : α) : Type where
  | mk
/-- a reckoning that comes out so (no match: nothing is reckoned unasked) -/
inductive Ok {α : Type} : (o : Option (α × DH)) → (Q : α → DH → Prop) → (pin : Pin Q := .mk) → Prop
  | mk {a : α} {S : DH} {Q : α → DH → Prop} {p : Pin Q} : Q a S → Ok (some (a, S)) Q p
section
variable {α β : Type} {o o' : Option (α × DH)} {Q R : α → DH → Prop} {a : α} {S S' : DH} {ds ds' : DS}
theorem ok_congr (h : o = o') : Ok o Q = Ok o' Q := by rw [h]
@[simp] theorem ok_some : Ok (some (a, S)) Q = Q a S := propext ⟨(fun h => by cases h; assumption), .mk⟩
@[simp] theorem ok_none : Ok none Q = False := propext ⟨(fun h => nomatch h), False.elim⟩
theorem ok_imp (h : Ok o Q) (i : ∀ a S, Q a S → R a S) : Ok o R := by
  cases h with
  | mk h => exact .mk (i _ _ h)
theorem ok_ex (h : Ok o Q) : ∃ a S', o = some (a, S') ∧ Q a S' := by
  cases h with
  | mk h => exact ⟨_, _, rfl, h⟩
theorem ok_of (h : o = some (a, S')) (q : Q a S') : Ok o Q := by rw [h]; exact .mk q
theorem eq_ok (h : Ok o fun b T => b = a ∧ T = S') : o = some (a, S') := by
  obtain ⟨b, T, e, rfl, rfl⟩ := ok_ex h
  exact e
/-- a choice between two goals -/
inductive ifK (A B : Prop) : (b : Bool) → (_ : Pin A := .mk) → (_ : Pin B := .mk) → Prop
  | t {p : Pin A} {q : Pin B} : A → ifK A B true p q
  | f {p : Pin A} {q : Pin B} : B → ifK A B false p q
theorem ifK_congr {A B : Prop} {b b' : Bool} (h : b = b') : ifK A B b = ifK A B b' := by rw [h]
@[simp] theorem ifK_true {A B : Prop} : ifK A B true = A := propext ⟨(fun h => by cases h; assumption), .t⟩
@[simp] theorem ifK_false {A B : Prop} : ifK A B false = B := propext ⟨(fun h => by cases h; assumption), .f⟩
@[simp] theorem ifK_not {A B : Prop} {b : Bool} : ifK A B (!b) = ifK B A b := by cases b <;> simp
theorem ifK_of {A B : Prop} {b : Bool} (h1 : b = true → A) (h2 : b = false → B) : ifK A B b := by
  cases b
  · exact .f (h2 rfl)
  · exact .t (h1 rfl)
theorem ifK_dec {A B p : Prop} [Decidable p] (h1 : p → A) (h2 : ¬ p → B) : ifK A B (decide p) := by
  by_cases h : p
  · rw [decide_eq_true h]; exact .t (h1 h)
  · rw [decide_eq_false h]; exact .f (h2 h)
/-! ### statements -/
def seqK (g : FS) (Q : Fl → DH → Prop) : Fl → DH → Prop
  | .nx ds, S => Ok (g ds S) Q
  | .rt d, S => Q (.rt d) S
  | .bk ds, S => Q (.bk ds) S
  | .ct ds, S => Q (.ct ds) S
variable {q : Fl → DH → Prop} {f g : FS} {d : D}
@[simp ↓] theorem seqK_nx : seqK g q (.nx ds) S = Ok (g ds S) q := rfl
@[simp ↓] theorem seqK_rt : seqK g q (.rt d) S = q (.rt d) S := rfl
@[simp ↓] theorem seqK_bk : seqK g q (.bk ds) S = q (.bk ds) S := rfl
@[simp ↓] theorem seqK_ct : seqK g q (.ct ds) S = q (.ct ds) S := rfl
@[simp ↓] theorem ok_seq : Ok (sSeq f g ds S) q = Ok (f ds S) (seqK g q) := by
  rw [sSeq_eq]
  cases f ds S with
  | none => simp
  | some p => obtain ⟨r, T⟩ := p; cases r <;> simp [seqK]
@[simp ↓] theorem ok_nil : Ok (sNil ds S) q = q (.nx ds) S := ok_some
@[simp ↓] theorem ok_cont : Ok (sCont ds S) q = q (.ct ds) S := ok_some
@[simp ↓] theorem ok_break : Ok (sBreak ds S) q = q (.bk ds) S := ok_some
@[simp ↓] theorem ok_asg {e : FE} {t : FG} : Ok (sAsg e t ds S) q = Ok (e ds S) fun d S1 => Ok (t d ds S1) fun ds' S2 => q (.nx ds') S2 := by
  rw [sAsg_eq]
  cases e ds S with
  | none => simp
  | some p =>
    obtain ⟨x, T1⟩ := p
    simp only [ok_some]
    cases t x ds T1 with
    | none => simp
    | some p =>
      obtain ⟨y, T2⟩ := p
      simp
@[simp ↓] theorem ok_expr {e : FE} : Ok (sExpr e ds S) q = Ok (e ds S) fun _ S1 => q (.nx ds) S1 := by
  rw [sExpr_eq]
  cases e ds S with
  | none => simp
  | some p =>
    obtain ⟨x, T1⟩ := p
    simp
@[simp ↓] theorem ok_ret {e : FE} : Ok (sRet e ds S) q = Ok (e ds S) fun d S1 => q (.rt d) S1 := by
  rw [sRet_eq]
  cases e ds S with
  | none => simp
  | some p =>
    obtain ⟨x, T1⟩ := p
    simp
@[simp ↓] theorem ok_retN : Ok (sRetN ds S) q = q (.rt (.p .non)) S := ok_some
@[simp ↓] theorem ok_if {t : FT} : Ok (sIf t f g ds S) q = Ok (t ds S) fun b S1 => ifK (Ok (f ds S1) q) (Ok (g ds S1) q) b := by
  rw [sIf_eq]
  cases t ds S with
  | none => simp
  | some p => obtain ⟨x, T1⟩ := p; cases x <;> simp
def parK (i j : Nat) (ds : DS) (q : Fl → DH → Prop) : List D → DH → Prop
  | [x, y], S => q (.nx ((ds.set i (some x)).set j (some y))) S
  | _, _ => False
@[simp ↓] theorem parK_two {i j : Nat} {x y : D} : parK i j ds q [x, y] S = q (.nx ((ds.set i (some x)).set j (some y))) S := rfl
@[simp ↓] theorem ok_par {i j : Nat} {fa : FA} : Ok (sPar i j fa ds S) q = Ok (fa ds S) (parK i j ds q) := by
  rw [sPar_eq]
  cases h : fa ds S with
  | none => simp
  | some p =>
    obtain ⟨l, T⟩ := p
    match l with
    | [] => simp [parK]
    | [_] => simp [parK]
    | [_, _] => simp [parK]
    | _ :: _ :: _ :: _ => simp [parK]
/-! ### what is walked -/
inductive OkI : (o : Option (List D × (DH → Prop) × DH)) → (Q : List D → (DH → Prop) → DH → Prop) → (_ : Pin Q := .mk) → Prop
  | mk {l : List D} {c : DH → Prop} {S : DH} {Q : List D → (DH → Prop) → DH → Prop} {p : Pin Q} : Q l c S → OkI (some (l, c, S)) Q p
theorem okI_congr {o o' : Option (List D × (DH → Prop) × DH)} {Q : List D → (DH → Prop) → DH → Prop} (h : o = o') : OkI o Q = OkI o' Q := by rw [h]
@[simp] theorem okI_some {l : List D} {c : DH → Prop} {Q : List D → (DH → Prop) → DH → Prop} : OkI (some (l, c, S)) Q = Q l c S := propext ⟨(fun h => by cases h; assumption), .mk⟩
@[simp] theorem okI_none {Q : List D → (DH → Prop) → DH → Prop} : OkI none Q = False := propext ⟨(fun h => nomatch h), False.elim⟩
@[simp ↓] theorem ok_for {fi : FI} {t : FG} {fb : FS} : Ok (sFor fi t fb ds S) q = OkI (fi ds S) fun its c S1 => Ok (forL c t fb its ds S1) q := by
  rw [sFor_eq]
  cases fi ds S with
  | none => simp
  | some p => obtain ⟨a, c, T⟩ := p; simp
@[simp ↓] theorem okI_it {e : FE} {Q : List D → (DH → Prop) → DH → Prop} : OkI (fIt e ds S) Q = Ok (e ds S) fun d S1 => OkI ((itD S1 d).map fun x => (x.1, x.2, S1)) Q := by
  rw [fIt_eq]
  cases e ds S with
  | none => simp
  | some p => obtain ⟨d, T⟩ := p; simp only [ok_some]; cases itD T d <;> simp
@[simp ↓] theorem okI_itK {e : FE} {Q : List D → (DH → Prop) → DH → Prop} : OkI (fItK e ds S) Q = Ok (e ds S) fun d S1 => OkI ((itK S1 d).map fun x => (x, fun _ => True, S1)) Q := by
  rw [fItK_eq]
  cases e ds S with
  | none => simp
  | some p => obtain ⟨d, T⟩ := p; simp only [ok_some]; cases itK T d <;> simp
/-! ### tests -/
def blK (Q : Bool → DH → Prop) : D → DH → Prop
  | .p (.bl b), S => Q b S
  | _, _ => False
variable {Qb : Bool → DH → Prop} {b : Bool} {t u : FT}
@[simp ↓] theorem blK_bl : blK Qb (.p (.bl b)) S = Qb b S := rfl
@[simp ↓] theorem ok_test {e : FE} : Ok (fTest e ds S) Qb = Ok (e ds S) (blK Qb) := by
  rw [fTest_eq]
  cases h : e ds S with
  | none => simp
  | some p =>
    obtain ⟨d, T⟩ := p
    cases d with
    | ref i => simp [blK]
    | p x => cases x <;> simp [blK]
@[simp ↓] theorem ok_and : Ok (fAnd t u ds S) Qb = Ok (t ds S) fun b S1 => ifK (Ok (u ds S1) Qb) (Qb false S1) b := by
  rw [fAnd_eq]
  cases t ds S with
  | none => simp
  | some p => obtain ⟨x, T1⟩ := p; cases x <;> simp
@[simp ↓] theorem ok_or : Ok (fOr t u ds S) Qb = Ok (t ds S) fun b S1 => ifK (Qb true S1) (Ok (u ds S1) Qb) b := by
  rw [fOr_eq]
  cases t ds S with
  | none => simp
  | some p => obtain ⟨x, T1⟩ := p; cases x <;> simp
@[simp ↓] theorem ok_not : Ok (fNot t ds S) Qb = Ok (t ds S) fun b S1 => Qb (!b) S1 := by
  rw [fNot_eq]
  cases t ds S with
  | none => simp
  | some p =>
    obtain ⟨x, T1⟩ := p
    simp
/-! ### expressions -/
variable {QD : D → DH → Prop} {fa fb fc : FE} {G G' : G2}
@[simp ↓] theorem ok_bin : Ok (fBin G fa fb ds S) QD = Ok (fa ds S) fun x S1 => Ok (fb ds S1) fun y S2 => Ok (G x y S2) QD := by
  rw [fBin_eq]
  cases fa ds S with
  | none => simp
  | some p =>
    obtain ⟨x, T1⟩ := p
    simp only [ok_some]
    cases fb ds T1 with
    | none => simp
    | some p =>
      obtain ⟨y, T2⟩ := p
      simp
def chK (G' : G2) (fc : FE) (y : D) (ds : DS) (Q : D → DH → Prop) : D → DH → Prop
  | .p (.bl true), S => Ok (fc ds S) fun z S4 => Ok (G' y z S4) Q
  | .p (.bl false), S => Q (.p (.bl false)) S
  | _, _ => False
@[simp ↓] theorem chK_bl {y : D} : chK G' fc y ds QD (.p (.bl b)) S = ifK (Ok (fc ds S) fun z S4 => Ok (G' y z S4) QD) (QD (.p (.bl false)) S) b := by cases b <;> simp [chK]
@[simp ↓] theorem ok_chain : Ok (fChain G G' fa fb fc ds S) QD = Ok (fa ds S) fun x S1 => Ok (fb ds S1) fun y S2 => Ok (G x y S2) (chK G' fc y ds QD) := by
  rw [fChain_eq]
  cases fa ds S with
  | none => simp
  | some p =>
    obtain ⟨x, T1⟩ := p
    simp only [ok_some]
    cases fb ds T1 with
    | none => simp
    | some p =>
      obtain ⟨y, T2⟩ := p
      simp only [ok_some]
      cases G x y T2 with
      | none => simp
      | some p =>
        obtain ⟨d, T3⟩ := p
        cases d with
        | ref i => simp [chK]
        | p v =>
          cases v with
          | bl b =>
            cases b with
            | false => simp [chK]
            | true =>
              simp only [ok_some, chK]
              cases fc ds T3 with
              | none => simp
              | some p => obtain ⟨z, T4⟩ := p; simp
          | _ => simp [chK]
def bvK (A : Bool → DH → Prop) : D → DH → Prop
  | .p (.bl b), S => A b S
  | _, _ => False
@[simp ↓] theorem bvK_bl {A : Bool → DH → Prop} : bvK A (.p (.bl b)) S = A b S := rfl
@[simp ↓] theorem ok_andV : Ok (fAndV fa fb ds S) QD = Ok (fa ds S) (bvK fun b S1 => ifK (Ok (fb ds S1) QD) (QD (.p (.bl false)) S1) b) := by
  rw [fAndV_eq]
  cases h : fa ds S with
  | none => simp
  | some p =>
    obtain ⟨d, T⟩ := p
    cases d with
    | ref i => simp [bvK]
    | p v =>
      cases v with
      | bl b => cases b <;> simp [bvK]
      | _ => simp [bvK]
@[simp ↓] theorem ok_orV : Ok (fOrV fa fb ds S) QD = Ok (fa ds S) (bvK fun b S1 => ifK (QD (.p (.bl true)) S1) (Ok (fb ds S1) QD) b) := by
  rw [fOrV_eq]
  cases h : fa ds S with
  | none => simp
  | some p =>
    obtain ⟨d, T⟩ := p
    cases d with
    | ref i => simp [bvK]
    | p v =>
      cases v with
      | bl b => cases b <;> simp [bvK]
      | _ => simp [bvK]
@[simp ↓] theorem ok_notV : Ok (fNotV fa ds S) QD = Ok (fa ds S) (bvK fun b S1 => QD (.p (.bl (!b))) S1) := by
  rw [fNotV_eq]
  cases h : fa ds S with
  | none => simp
  | some p =>
    obtain ⟨d, T⟩ := p
    cases d with
    | ref i => simp [bvK]
    | p v => cases v <;> simp [bvK]
@[simp ↓] theorem ok_ifx {t : FT} : Ok (fIf t fa fb ds S) QD = Ok (t ds S) fun b S1 => ifK (Ok (fa ds S1) QD) (Ok (fb ds S1) QD) b := by
  rw [fIf_eq]
  cases t ds S with
  | none => simp
  | some p => obtain ⟨x, T1⟩ := p; cases x <;> simp
variable {fs : FA} {QA : List D → DH → Prop}
@[simp ↓] theorem ok_aNil : Ok (aNil ds S) QA = QA [] S := ok_some
@[simp ↓] theorem ok_aCons : Ok (aCons fa fs ds S) QA = Ok (fa ds S) fun x S1 => Ok (fs ds S1) fun l S2 => QA (x :: l) S2 := by
  rw [aCons_eq]
  cases fa ds S with
  | none => simp
  | some p =>
    obtain ⟨x, T1⟩ := p
    simp only [ok_some]
    cases fs ds T1 with
    | none => simp
    | some p =>
      obtain ⟨y, T2⟩ := p
      simp
@[simp ↓] theorem ok_tup : Ok (fTup fs ds S) QD = Ok (fs ds S) fun l S1 => Ok (if l.length ≤ sizeLine then (allP l).map fun ps => (D.p (.tup ps), S1) else none) QD := by
  rw [fTup_eq]
  cases fs ds S with
  | none => simp
  | some p =>
    obtain ⟨x, T1⟩ := p
    simp
@[simp ↓] theorem ok_tupF : Ok (fTupF fs ds S) QD = Ok (fs ds S) fun l S1 => Ok (if l.length ≤ sizeLine then (allP l).map fun ps => (D.p (.ftup ps), S1) else none) QD := by
  rw [fTupF_eq]
  cases fs ds S with
  | none => simp
  | some p =>
    obtain ⟨x, T1⟩ := p
    simp
@[simp ↓] theorem ok_lst : Ok (fLst fs ds S) QD = Ok (fs ds S) fun l S1 => Ok (if l.length ≤ sizeLine then (allP l).map fun ps => (D.p (.lst ps), S1) else none) QD := by
  rw [fLst_eq]
  cases fs ds S with
  | none => simp
  | some p =>
    obtain ⟨x, T1⟩ := p
    simp
@[simp ↓] theorem ok_lstH : Ok (fLstH fs ds S) QD = Ok (fs ds S) fun l S1 => Ok (if l.length ≤ sizeLine then some (D.ref S1.length, S1 ++ [.lst l]) else none) QD := by
  rw [fLstH_eq]
  cases fs ds S with
  | none => simp
  | some p =>
    obtain ⟨x, T1⟩ := p
    simp
@[simp ↓] theorem ok_call {G : GN} : Ok (fCall G fs ds S) QD = Ok (fs ds S) fun l S1 => Ok (G l S1) QD := by
  rw [fCall_eq]
  cases fs ds S with
  | none => simp
  | some p =>
    obtain ⟨x, T1⟩ := p
    simp
@[simp ↓] theorem ok_meth {T : String} {G : GM} : Ok (fMeth T G fa fs ds S) QD = Ok (fa ds S) fun x S1 => isTy T x S1 = true ∧ Ok (fs ds S1) fun l S2 => Ok (G x l S2) QD := by
  rw [fMeth_eq]
  cases fa ds S with
  | none => simp
  | some p =>
    obtain ⟨x, T1⟩ := p
    simp only [ok_some]
    by_cases hT : isTy T x T1 = true
    · rw [if_pos hT]
      cases fs ds T1 with
      | none => simp
      | some p => obtain ⟨y, T2⟩ := p; simp [hT]
    · rw [if_neg hT]
      simp [hT]
def ftK (G : GM) (fs : FA) (ds : DS) (Q : D → DH → Prop) : D → DH → Prop
  | .p (.ftup l), S => Ok (fs ds S) fun xs S2 => Ok (G (.p (.ftup l)) xs S2) Q
  | _, _ => False
@[simp ↓] theorem ftK_ft {G : GM} {l : List P} : ftK G fs ds QD (.p (.ftup l)) S = Ok (fs ds S) fun xs S2 => Ok (G (.p (.ftup l)) xs S2) QD := rfl
@[simp ↓] theorem ok_methF {G : GM} : Ok (fMethF G fa fs ds S) QD = Ok (fa ds S) (ftK G fs ds QD) := by
  rw [fMethF_eq]
  cases h : fa ds S with
  | none => simp
  | some p =>
    obtain ⟨x, T'⟩ := p
    cases x with
    | ref i => simp [ftK]
    | p v =>
      cases v with
      | ftup l =>
        simp only [ok_some, ftK]
        cases fs ds T' with
        | none => simp
        | some p => obtain ⟨y, T2⟩ := p; simp
      | _ => simp [ftK]
@[simp ↓] theorem ok_sl {G : GS} {fl fh : FO} : Ok (fSl G fa fl fh ds S) QD = Ok (fa ds S) fun x S1 => Ok (fl ds S1) fun l S2 => Ok (fh ds S2) fun h S3 => Ok (G x l h S3) QD := by
  rw [fSl_eq]
  cases fa ds S with
  | none => simp
  | some p =>
    obtain ⟨x, T1⟩ := p
    simp only [ok_some]
    cases fl ds T1 with
    | none => simp
    | some p =>
      obtain ⟨y, T2⟩ := p
      simp only [ok_some]
      cases fh ds T2 with
      | none => simp
      | some p =>
        obtain ⟨z, T3⟩ := p
        simp
@[simp ↓] theorem ok_comp {fi : FI} {t : FG} {ft : FT} {fe : FE} {vs : List Nat} : Ok (fComp fi t ft fe vs ds S) QD = OkI (fi ds S) fun its c S1 => Ok (compL c t ft fe (wipeD ds vs) 0 its S1) fun l S2 => Ok ((allP l).map fun ps => (D.p (.lst ps), S2)) QD := by
  rw [fComp_eq]
  cases fi ds S with
  | none => simp
  | some p =>
    obtain ⟨its, c, T⟩ := p
    simp only [okI_some]
    cases compL c t ft fe (wipeD ds vs) 0 its T with
    | none => simp
    | some p => obtain ⟨l, T2⟩ := p; simp
@[simp ↓] theorem ok_compH {fi : FI} {t : FG} {ft : FT} {fe : FE} {vs : List Nat} : Ok (fCompH fi t ft fe vs ds S) QD = OkI (fi ds S) fun its c S1 => Ok (compL c t ft fe (wipeD ds vs) 0 its S1) fun l S2 => QD (.ref S2.length) (S2 ++ [.lst l]) := by
  rw [fCompH_eq]
  cases fi ds S with
  | none => simp
  | some p =>
    obtain ⟨its, c, T⟩ := p
    simp only [okI_some]
    cases compL c t ft fe (wipeD ds vs) 0 its T with
    | none => simp
    | some p => obtain ⟨l, T2⟩ := p; simp
/-! ### locks -/
theorem ok_lock {k i : Nat} {w w' : DO} (h : lockAt k ds S = some (i, w, w')) (hb : Ok (f ds (S.set i w')) fun r S' => S'[i]? = some w' ∧ q r (S'.set i w)) : Ok (sLock k f ds S) q := by
  unfold sLock
  rw [h]
  dsimp only
  cases h2 : f ds (S.set i w') with
  | none => rw [h2] at hb; rw [ok_none] at hb; exact hb.elim
  | some p =>
    obtain ⟨r, T⟩ := p
    rw [h2, ok_some] at hb
    dsimp only
    rw [if_pos hb.1]
    exact .mk hb.2
theorem ok_lockE {k i : Nat} {w w' : DO} (h : lockAt k ds S = some (i, w, w')) (hb : Ok (fa ds (S.set i w')) fun r S' => S'[i]? = some w' ∧ QD r (S'.set i w)) : Ok (fLock k fa ds S) QD := by
  unfold fLock
  rw [h]
  dsimp only
  cases h2 : fa ds (S.set i w') with
  | none => rw [h2] at hb; rw [ok_none] at hb; exact hb.elim
  | some p =>
    obtain ⟨r, T⟩ := p
    rw [h2, ok_some] at hb
    dsimp only
    rw [if_pos hb.1]
    exact .mk hb.2
end
/-! ### loops -/
/-- left as it stands -/
def Hold (P : Prop) (_ : Pin P := .mk) : Prop := P
theorem hold {P : Prop} (h : P) : Hold P := h
/-- what is to hold behind a turn -/
def stepK (J : DS → DH → Prop) (q : Fl → DH → Prop) : Fl → DH → Prop
  | .nx ds, S => Hold (J ds S)
  | .ct ds, S => Hold (J ds S)
  | .bk ds, S => q (.nx ds) S
  | .rt d, S => q (.rt d) S
section
variable {J : DS → DH → Prop} {q : Fl → DH → Prop} {ds : DS} {S : DH} {d : D} {chk : DH → Prop} {t : FG} {fb : FS}
@[simp ↓] theorem stepK_nx : stepK J q (.nx ds) S = Hold (J ds S) := rfl
@[simp ↓] theorem stepK_ct : stepK J q (.ct ds) S = Hold (J ds S) := rfl
@[simp ↓] theorem stepK_bk : stepK J q (.bk ds) S = q (.nx ds) S := rfl
@[simp ↓] theorem stepK_rt : stepK J q (.rt d) S = q (.rt d) S := rfl
/-- a for, by what holds behind so many items -/
theorem ok_forL {α : Type} (inn : α → D) (I : List α → DS → DH → Prop) : ∀ (post pre : List α) {its : List D} {ds : DS} {S : DH}, its = post.map inn → I pre ds S → (∀ pre ds S, I pre ds S → chk S) →
    (∀ pr x po ds S, pre ++ post = pr ++ x :: po → I pr ds S → Ok (t (inn x) ds S) fun ds1 S1 => Ok (fb ds1 S1) (stepK (I (pr ++ [x])) q)) → (∀ ds S, I (pre ++ post) ds S → q (.nx ds) S) → Ok (forL chk t fb its ds S) q
  | [], pre, _, ds, S, hi, h0, hc, _, hd => by
    subst hi
    unfold forL
    rw [List.map_nil]
    dsimp only
    rw [if_pos (hc _ _ _ h0)]
    rw [List.append_nil] at hd
    exact .mk (hd ds S h0)
  | x :: post, pre, _, ds, S, hi, h0, hc, hs, hd => by
    subst hi
    rw [List.map_cons, forL, if_pos (hc _ _ _ h0)]
    have h1 := hs pre x post ds S rfl h0
    obtain ⟨ds1, S1, e1, h2⟩ := ok_ex h1
    obtain ⟨r, S2, e2, h3⟩ := ok_ex h2
    rw [e1]
    dsimp only
    rw [e2]
    have go : ∀ ds2, I (pre ++ [x]) ds2 S2 → Ok (forL chk t fb (post.map inn) ds2 S2) q := fun ds2 h => ok_forL inn I post (pre ++ [x]) rfl h hc (fun pr y po ds S e => hs pr y po ds S (by simpa using e)) (fun ds S h => hd ds S (by simpa using h))
    cases r with
    | nx ds2 => exact go ds2 h3
    | ct ds2 => exact go ds2 h3
    | bk ds2 => exact .mk h3
    | rt d => exact .mk h3
/-- .. from the start -/
theorem ok_forL0 {α : Type} (inn : α → D) (l : List α) (I : List α → DS → DH → Prop) {its : List D} (hi : its = l.map inn) (h0 : I [] ds S) (hc : ∀ pre ds S, I pre ds S → chk S)
    (hs : ∀ pr x po ds S, l = pr ++ x :: po → I pr ds S → Ok (t (inn x) ds S) fun ds1 S1 => Ok (fb ds1 S1) (stepK (I (pr ++ [x])) q)) (hd : ∀ ds S, I l ds S → q (.nx ds) S) : Ok (forL chk t fb its ds S) q :=
  ok_forL inn I l [] hi h0 hc hs hd
/-- a for whose turns are alike -/
theorem ok_forI (I : DS → DH → Prop) : ∀ (its : List D) {ds : DS} {S : DH}, I ds S → (∀ ds S, I ds S → chk S) → (∀ x ∈ its, ∀ ds S, I ds S → Ok (t x ds S) fun ds1 S1 => Ok (fb ds1 S1) (stepK I q)) → (∀ ds S, I ds S → q (.nx ds) S) → Ok (forL chk t fb its ds S) q := by
  intro its ds S h0 hc hs hd
  refine ok_forL0 (fun d : D => d) its (fun _ => I) (by simp) h0 (fun _ => hc) (fun pr x po ds S e h => hs x (by rw [e]; simp) ds S h) hd
/-- .. over range(n) -/
theorem ok_forN (n : Nat) (lo : Int) (I : Nat → DS → DH → Prop) (h0 : I 0 ds S) (hs : ∀ k ds S, k < n → I k ds S → Ok (t (.p (.int (lo + (k : Int)))) ds S) fun ds1 S1 => Ok (fb ds1 S1) (stepK (I (k + 1)) q)) (hd : ∀ ds S, I n ds S → q (.nx ds) S) : Ok (forL (fun _ => True) t fb (rangeD lo n) ds S) q := by
  refine ok_forL0 (fun k : Nat => D.p (.int (lo + (k : Int)))) (List.range n) (fun pre ds S => pre = List.range pre.length ∧ pre.length ≤ n ∧ I pre.length ds S) rfl ⟨rfl, Nat.zero_le _, h0⟩ (fun _ _ _ _ => trivial) (fun pr x po ds S e ⟨h1, h2, h3⟩ => ?_) fun ds S ⟨_, _, h⟩ => hd ds S (by simpa using h)
  have hx : (List.range n)[pr.length]? = some x := by rw [e]; simp
  have hn : pr.length < n := by simpa using get_lt hx
  rw [List.getElem?_range hn] at hx
  cases hx
  refine ok_imp (hs pr.length ds S hn h3) fun ds1 S1 h => ok_imp h fun r S2 h => ?_
  have nxt : ∀ ds, I (pr.length + 1) ds S2 → (pr ++ [pr.length] = List.range (pr ++ [pr.length]).length ∧ (pr ++ [pr.length]).length ≤ n ∧ I (pr ++ [pr.length]).length ds S2) := fun ds h => ⟨by rw [List.length_append, List.length_singleton, List.range_succ, ← h1], by simp; omega, by simpa using h⟩
  cases r with
  | nx ds => exact nxt ds h
  | ct ds => exact nxt ds h
  | bk ds => exact h
  | rt d => exact h
/-- a while, by a measure -/
def whK (n : Nat) (I : Nat → DS → DH → Prop) (fb : FS) (q : Fl → DH → Prop) (ds : DS) (b : Bool) (S : DH) : Prop :=
  ifK (Ok (fb ds S) (stepK (fun ds S => ∃ m, m < n ∧ I m ds S) q)) (q (.nx ds) S) b
@[simp ↓] theorem whK_eq {n : Nat} {I : Nat → DS → DH → Prop} {b : Bool} : whK n I fb q ds b S = ifK (Ok (fb ds S) (stepK (fun ds S => ∃ m, m < n ∧ I m ds S) q)) (q (.nx ds) S) b := rfl
theorem ok_whileL {ft : FT} {I : Nat → DS → DH → Prop} (hs : ∀ n ds S, I n ds S → Ok (ft ds S) (whK n I fb q ds)) : ∀ (k n : Nat) (ds : DS) (S : DH), n < k → I n ds S → Ok (whileL ft fb k ds S) q
  | 0, n, _, _, h, _ => absurd h (Nat.not_lt_zero n)
  | k + 1, n, ds, S, hk, h => by
    obtain ⟨b, S1, e1, h1⟩ := ok_ex (hs n ds S h)
    unfold whileL
    rw [e1]
    unfold whK at h1
    cases b with
    | false => rw [ifK_false] at h1; exact .mk h1
    | true =>
      rw [ifK_true] at h1
      obtain ⟨r, S2, e2, h2⟩ := ok_ex h1
      dsimp only
      rw [e2]
      cases r with
      | nx ds2 => obtain ⟨m, hm, h3⟩ := h2; exact ok_whileL hs k m ds2 S2 (by omega) h3
      | ct ds2 => obtain ⟨m, hm, h3⟩ := h2; exact ok_whileL hs k m ds2 S2 (by omega) h3
      | bk ds2 => exact .mk h2
      | rt d => exact .mk h2
theorem ok_while {ft : FT} (I : Nat → DS → DH → Prop) (n : Nat) (h0 : I n ds S) (hs : ∀ n ds S, I n ds S → Ok (ft ds S) (whK n I fb q ds)) : Ok (sWhile ft fb ds S) q := by
  obtain ⟨r, S', e, h⟩ := ok_ex (ok_whileL hs (n + 1) n ds S (Nat.lt_succ_self n) h0)
  exact ok_of (sWhile_of e) h
/-! ### comprehensions -/
variable {ft : FT} {fe : FE} {ds0 : DS} {QL : List D → DH → Prop}
/-- what is to hold behind an item -/
theorem ok_compL {α β : Type} (inn : α → D) (out : β → D) (I : List α → List β → DH → Prop) : ∀ (post pre : List α) (done : List β) {k : Nat} {its : List D} {S : DH} {QL : List D → DH → Prop}, its = post.map inn → k + post.length ≤ 16777216 → I pre done S → (∀ pre done S, I pre done S → chk S) →
    (∀ pr x po dn S, pre ++ post = pr ++ x :: po → I pr dn S → Ok (t (inn x) ds0 S) fun ds1 S1 => Ok (ft ds1 S1) fun b S2 => ifK (Ok (fe ds1 S2) fun y S3 => ∃ z, y = out z ∧ I (pr ++ [x]) (dn ++ [z]) S3) (I (pr ++ [x]) dn S2) b) →
    (∀ more S, I (pre ++ post) (done ++ more) S → QL (more.map out) S) → Ok (compL chk t ft fe ds0 k its S) QL
  | [], pre, done, k, _, S, QL, hi, _, h0, hc, _, hd => by
    subst hi
    rw [List.map_nil, compL, if_pos (hc _ _ _ h0)]
    rw [List.append_nil] at hd
    exact .mk (hd [] S (by rw [List.append_nil]; exact h0))
  | x :: post, pre, done, k, _, S, QL, hi, hk, h0, hc, hs, hd => by
    subst hi
    rw [List.length_cons] at hk
    rw [List.map_cons, compL, if_pos (hc _ _ _ h0)]
    obtain ⟨ds1, S1, e1, h2⟩ := ok_ex (hs pre x post done S rfl h0)
    obtain ⟨b, S2, e2, h3⟩ := ok_ex h2
    rw [e1]
    dsimp only
    rw [e2]
    cases b with
    | false =>
      rw [ifK_false] at h3
      dsimp only
      exact ok_compL inn out I post (pre ++ [x]) done rfl (by omega) h3 hc (fun pr y po dn S e => hs pr y po dn S (by simpa using e)) (fun more S h => hd more S (by simpa using h))
    | true =>
      rw [ifK_true] at h3
      obtain ⟨y, S3, e3, z, rfl, h4⟩ := ok_ex h3
      dsimp only
      rw [e3]
      dsimp only
      rw [if_pos (size_lt (by omega))]
      have := ok_compL inn out I post (pre ++ [x]) (done ++ [z]) (k := k + 1) (S := S3) (QL := fun l S => QL (out z :: l) S) rfl (by omega) h4 hc (fun pr y po dn S e => hs pr y po dn S (by simpa using e)) (fun more S h => hd (z :: more) S (by simpa using h))
      obtain ⟨l, S4, e5, h6⟩ := ok_ex this
      rw [e5]
      exact .mk h6
/-- one for one -/
theorem ok_compM {α : Type} (inn : α → D) (f : α → P) (l : List α) {its : List D} (hi : its = l.map inn) (hk : l.length ≤ 16777216) (hc : chk S)
    (hs : ∀ x ∈ l, Ok (t (inn x) ds0 S) fun ds1 S1 => Ok (ft ds1 S1) fun b S2 => ifK (Ok (fe ds1 S2) fun y S3 => y = .p (f x) ∧ S3 = S) False b) (hd : QL ((l.map f).map .p) S) : Ok (compL chk t ft fe ds0 0 its S) QL := by
  refine ok_compL inn (fun x : P => D.p x) (fun pre done S' => done = pre.map f ∧ S' = S) l [] [] hi (by omega) ⟨rfl, rfl⟩ (fun _ _ S' h => h.2 ▸ hc) (fun pr x po dn S' e h => ?_) fun more S' h => by
    obtain ⟨h1, rfl⟩ := h
    rw [List.nil_append, List.nil_append] at h1
    rw [h1]; exact hd
  obtain ⟨rfl, rfl⟩ := h
  refine ok_imp (hs x (by rw [← List.nil_append l, e]; simp)) fun ds1 S1 h => ok_imp h fun b S2 h => ?_
  cases b with
  | false => rw [ifK_false] at h; exact h.elim
  | true => rw [ifK_true] at h ⊢; exact ok_imp h fun y S3 ⟨h1, h2⟩ => ⟨f x, h1, by simp, h2⟩
/-- .. of those that pass -/
theorem ok_compF {α : Type} (inn : α → D) (f : α → P) (p : α → Bool) (l : List α) {its : List D} (hi : its = l.map inn) (hk : l.length ≤ 16777216) (hc : chk S)
    (hs : ∀ x ∈ l, Ok (t (inn x) ds0 S) fun ds1 S1 => Ok (ft ds1 S1) fun b S2 => b = p x ∧ S2 = S ∧ (p x = true → Ok (fe ds1 S2) fun y S3 => y = .p (f x) ∧ S3 = S)) (hd : QL (((l.filter p).map f).map .p) S) : Ok (compL chk t ft fe ds0 0 its S) QL := by
  refine ok_compL inn (fun x : P => D.p x) (fun pre done S' => done = (pre.filter p).map f ∧ S' = S) l [] [] hi (by omega) ⟨rfl, rfl⟩ (fun _ _ S' h => h.2 ▸ hc) (fun pr x po dn S' e h => ?_) fun more S' h => by
    obtain ⟨h1, rfl⟩ := h
    rw [List.nil_append, List.nil_append] at h1
    rw [h1]; exact hd
  obtain ⟨rfl, rfl⟩ := h
  refine ok_imp (hs x (by rw [← List.nil_append l, e]; simp)) fun ds1 S1 h => ok_imp h fun b S2 ⟨h1, h2, h3⟩ => ?_
  subst h1 h2
  cases hp : p x with
  | false => rw [ifK_false]; exact ⟨by simp [hp], rfl⟩
  | true => rw [ifK_true]; exact ok_imp (h3 hp) fun y S3 ⟨h1, h2⟩ => ⟨f x, h1, by simp [hp], h2⟩
end
/-! ### defs -/
section
variable {nN : Nat} {fb : FS} {xs : List D} {S : DH} {x : P}
/-- a def that gives a value and leaves the heap -/
theorem gFn_v (h : Ok (fb (xs.map some ++ List.replicate (nN - xs.length) none) S) fun r S' => r = .rt (.p x) ∧ ∃ Y, S' = S ++ Y) : gFn nN false fb xs S = some (.p x, S) := by
  obtain ⟨r, S', e, rfl, Y, rfl⟩ := ok_ex h
  rw [gFn_rt e, leave_p Safe.app, List.take_left]
/-- .. that comes to its end -/
theorem gFn_n (h : Ok (fb (xs.map some ++ List.replicate (nN - xs.length) none) S) fun r S' => (∃ ds, r = .nx ds) ∧ ∃ Y, S' = S ++ Y) : gFn nN false fb xs S = some (.p .non, S) := by
  obtain ⟨r, S', e, ⟨ds, rfl⟩, Y, rfl⟩ := ok_ex h
  rw [gFn_nx e, leave_p Safe.app, List.take_left]
/-- .. whatever it leaves ahead -/
theorem gFn_w {Q : D → DH → Prop} (h : Ok (fb (xs.map some ++ List.replicate (nN - xs.length) none) S) fun r S' => Hold (∃ x T Y, r = .rt (.p x) ∧ S' = T ++ Y ∧ (T.length = S.length ∧ Safe S T) ∧ Q (.p x) T)) : Ok (gFn nN false fb xs S) Q := by
  obtain ⟨r, S', e, x, T, Y, rfl, rfl, ⟨hl, hs⟩, q⟩ := ok_ex h
  rw [gFn_rt e, leave_p (Safe.app2 hl hs), ← hl, List.take_left]
  exact .mk q
end
section
variable {nN : Nat} {fb : FS} {xs : List D} {S T : DH} {d : D}
/-- a def that keeps what it makes -/
theorem gFn_k (h : Ok (fb (xs.map some ++ List.replicate (nN - xs.length) none) S) fun r S' => r = .rt d ∧ S' = T) : gFn nN true fb xs S = some (d, T) := by
  obtain ⟨r, S', e, rfl, rfl⟩ := ok_ex h
  rw [gFn_rt e]; rfl
/-- the law -/
theorem law_of (h : Ok (fb (xs.map some ++ List.replicate (nN - xs.length) none) []) fun r _ => Hold (r = .rt (.p (.bl true)))) : ∃ S', gFn nN false fb xs [] = some (.p (.bl true), S') := by
  obtain ⟨r, S', e, h⟩ := ok_ex h
  have h : r = .rt (.p (.bl true)) := h
  subst h
  exact ⟨_, (gFn_rt e).trans (leave_p fun i _ hi _ => absurd hi (Nat.not_lt_zero i))⟩
end
/-! ### the own heap's end -/
section
variable {S Y : DH} {o : DO} {k : Nat}
@[simp] theorem app_at0 : (S ++ Y)[S.length]? = Y[0]? := by rw [List.getElem?_append_right (Nat.le_refl _), Nat.sub_self]
@[simp] theorem app_at : (S ++ Y)[S.length + k]? = Y[k]? := by rw [List.getElem?_append_right (Nat.le_add_right _ _), Nat.add_sub_cancel_left]
@[simp] theorem app_set0 : (S ++ Y).set S.length o = S ++ Y.set 0 o := by rw [List.set_append_right _ _ (Nat.le_refl _), Nat.sub_self]
@[simp] theorem app_set : (S ++ Y).set (S.length + k) o = S ++ Y.set k o := by rw [List.set_append_right _ _ (Nat.le_add_right _ _), Nat.add_sub_cancel_left]
end
theorem u8 {k : Nat} {A : Around} (r : Room k A) : A.units + 8 < cLine := by have := r.un; omega
/-! ### items -/
section
variable {S : DH} {l : List P} {i : Nat}
@[simp] theorem itD_tup : itD S (.p (.tup l)) = some (l.map .p, fun _ => True) := rfl
@[simp] theorem itD_ktup : itD S (.p (.ktup l)) = some (l.map .p, fun _ => True) := rfl
@[simp] theorem itD_ftup : itD S (.p (.ftup l)) = some (l.map .p, fun _ => True) := rfl
@[simp] theorem itD_lst : itD S (.p (.lst l)) = some (l.map .p, fun _ => True) := rfl
@[simp] theorem itD_flst : itD S (.p (.flst l)) = some (l.map .p, fun _ => True) := rfl
theorem atI_0 {α : Type} {x : α} {r : List α} : atI (x :: r) 0 = some x := atI_ok (n := 0) rfl rfl
theorem atI_1 {α : Type} {x y : α} {r : List α} : atI (x :: y :: r) 1 = some y := atI_ok (n := 1) rfl rfl
theorem atI_2 {α : Type} {x y z : α} {r : List α} : atI (x :: y :: z :: r) 2 = some z := atI_ok (n := 2) rfl rfl
theorem atI_3 {α : Type} {x y z u : α} {r : List α} : atI (x :: y :: z :: u :: r) 3 = some u := atI_ok (n := 3) rfl rfl
@[simp] theorem tupD_tup : tupD (.p (.tup l)) = some l := rfl
@[simp] theorem tupD_ktup : tupD (.p (.ktup l)) = some l := rfl
@[simp] theorem tupD_ftup : tupD (.p (.ftup l)) = some l := rfl
@[simp] theorem setAll_nil {ds : DS} : setAll [] [] ds = some ds := rfl
@[simp] theorem setAll_cons {ds : DS} {is : List Nat} {x : D} {xs : List D} : setAll (i :: is) (x :: xs) ds = setAll is xs (ds.set i (some x)) := rfl
@[simp] theorem gIs_str {x : Str} : gIs (.p (.str x)) (.p .non) S = some (.p (.bl false), S) := rfl
@[simp] theorem gIs_int {i : Int} : gIs (.p (.int i)) (.p .non) S = some (.p (.bl false), S) := rfl
@[simp] theorem gIsNot_str {x : Str} : gIsNot (.p (.str x)) (.p .non) S = some (.p (.bl true), S) := rfl
@[simp] theorem gIsNot_int {i : Int} : gIsNot (.p (.int i)) (.p .non) S = some (.p (.bl true), S) := rfl
theorem itD_ref {m : List D} (h : S[i]? = some (.lst m)) : itD S (.ref i) = some (m, fun S : DH => S[i]? = some (DO.lst m)) := by
  show (match S[i]? with | some (DO.lst l) => some (l, fun S : DH => S[i]? = some (DO.lst l)) | _ => none) = _
  rw [h]
theorem isTy_r {m : List D} (h : S[i]? = some (.lst m)) : isTy "list" (.ref i) S = true := by
  show (match S[i]? with | some (.lst _) => "list" == "list" | _ => false) = true
  rw [h]; rfl
end
end CK
/-! CkZc: sum of a tuple, x[::-1], targets of two levels. -/
namespace CK
open PySem PySem.Spec PyProof.Rows L2

/-! ### sum of a tuple of whole numbers -/
theorem items_of {its : List Value} {ns : List Int} (h : Vals (ns.map V.int) its) : ∃ xs : Array (Int × Tok), intItems xs = its.toArray ∧ xs.toList.map (·.1) = ns := by
  induction ns generalizing its with
  | nil => cases h; exact ⟨#[], by simp [intItems], rfl⟩
  | cons n ns ih =>
    cases h with
    | cons a t =>
      obtain ⟨tk, rfl⟩ := a
      obtain ⟨xs, h1, h2⟩ := ih t
      refine ⟨((n, tk) :: xs.toList).toArray, ?_, by simp [h2]⟩
      have : (intItems xs).toList = _ := congrArg Array.toList h1
      unfold intItems at this ⊢
      simp only [Array.toList_map] at this
      simp [this]
theorem preSum_is : ∀ (xs : Array (Int × Tok)), preSum (numAt xs) xs.size = (xs.toList.map (·.1)).sum := by
  intro xs
  have h : ∀ k, k ≤ xs.size → preSum (numAt xs) k = ((xs.toList.take k).map (·.1)).sum := by
    intro k
    induction k with
    | zero => intro _; simp [preSum]
    | succ k ih =>
      intro hk
      have hk' : k < xs.toList.length := by rw [Array.length_toList]; omega
      rw [preSum, ih (by omega), List.take_succ_eq_append_getElem hk', List.map_append, List.sum_append]
      simp [numAt]
      rw [Array.getElem?_eq_getElem (by omega)]
      simp
  have := h xs.size (Nat.le_refl _)
  rwa [List.take_of_length_le (by simp)] at this
theorem cr_sumT {X : Cx} (hc : X.calm = true) : CallR X (.builtin "sum") (fun vs H Q => ∃ (a : Addr) (ns : List Int), vs = [V.ref a] ∧ SqT X.K H a (ns.map V.int) ∧ Q (.int ns.sum) H) := by
  intro pins s σ H vs us Q I r h
  obtain ⟨a, ns, rfl, hs, q⟩ := h
  obtain ⟨its, rv, ht, _⟩ := I.tuple hs
  rw [Vals.ref1 r]
  obtain ⟨xs, h1, h2⟩ := items_of rv
  refine PySem.W.ktm_sumG (xs := xs) (I.ok.hd hc) (by rw [h1]; exact ht) fun h' tk t' hk => ⟨.int _, H, I.kept hk, ⟨_, rfl⟩, ?_⟩
  rw [preSum_is, h2]
  exact q
def gSumT : GN := fun xs S => match xs with
  | [x] => match tupD x with
    | some ps => (allInt (ps.map .p)).map fun ns => (.p (.int ns.sum), S)
    | none => none
  | _ => none
theorem f_sumT {X : Cx} (hc : X.calm = true) : Fun1 X (.builtin "sum") gSumT := by
  refine ⟨_, cr_sumT hc, ?_⟩
  intro W xs vs z S' Q s r e q
  unfold gSumT at e
  split at e
  · split at e
    · rename_i ps hps
      cases h : allInt (ps.map D.p) with
      | none => rw [h] at e; cases e
      | some ns =>
        rw [h] at e; cases e
        obtain ⟨v, rfl, r1⟩ := rds1 r
        obtain ⟨a, ws, rfl, h1, h2⟩ := tupD_ok r1 hps
        have h3 : ws = ns.map V.int := allInt_ok h (rds_of_ps h2)
        subst h3
        exact ⟨a, ns, rfl, h1, q W _ (To.refl s) (.int _)⟩
    · cases e
  · cases e
theorem gSumT_two {a b : Int} {S : DH} : gSumT [.p (.tup [.int a, .int b])] S = some (.p (.int (a + b)), S) := by
  show ((allInt ([P.int a, P.int b].map .p)).map fun (ns : List Int) => (D.p (.int ns.sum), S)) = _
  have := allInt_map [a, b]
  simp only [List.map] at this
  simp only [List.map]
  rw [this]; simp
/-! ### x[::-1] -/
section
variable {X : Cx} {e st : Expr} {te : TE} {ts : TO} {p2 pos : Pos}
def tRev (K : PySem.W.Frag) (te : TE) (ts : TO) : TE := fun σ H Q => te σ H fun x H1 => ts σ H1 fun c H2 => c = some (-1) ∧ ∃ a xs, x = .ref a ∧ SqL K H2 a xs ∧ ∀ p, H2 p = none → Q (.ref p) (upd H2 p (.lst xs.reverse))
theorem pe_rev (he : PE X e te) (hs : PO X (some st) ts) : PE X (.Subscript e (.Slice none none (some st) p2) pos) (tRev X.K te ts) := by
  refine ⟨fun pins s σ H Q I h => ?_⟩
  refine Subscript_ (thn (he.run pins s σ H _ I h) fun v s1 ⟨x, H1, I1, r1, q1⟩ => ?_)
  refine wpAny_Slice ?_
  rw [evalPart_none]
  refine wpAny_pure ?_
  refine wpAny_pure ?_
  refine thn (hs.run pins s1 σ H1 _ I1 q1) fun vk s3 ⟨c, H3, I3, pk, hc, a, xs, ex, hq, q3⟩ => ?_
  subst hc ex
  have I4 : Inv X pins σ H3 { s3 with heap := s3.heap.push { cls := .type "slice", data := .fields #[.none, .none, vk] } } := I3.kept (t' := s3.toks) fun b ob q => Heap.get?_push_of_some _ q
  cases r1
  obtain ⟨its, r, ht, hz⟩ := I4.list hq
  have hlen := r.length
  show wpAny (model X.prog X.w) X.A (subscriptTail e (.Slice none none (some st) p2) (.ref a) (.ref s3.heap.objs.size)) (EP X pins σ Q) X.xe { s3 with heap := s3.heap.push { cls := .type "slice", data := .fields #[.none, .none, vk] } }
  refine tail_any (ops := [.ref a, .ref s3.heap.objs.size]) ht.isList.typeIs slot_list_getitem.lookup ?_ (by with_unfolding_all rfl)
  refine wpAny_getItem_list_slice ht.isList (Heap.IsSliceOf.new ..) .none .none pk (by simp) ?_ (by rw [List.size_toArray] <;> omega)
  rw [PySem.W.krv_pick]
  refine ⟨.ref _, _, I4.laid (t' := s3.toks) (o := .lst xs.reverse) (fun b ob q => Heap.get?_push_of_some _ q) (Nat.le_refl _) ?_, rfl, q3 _ (I4.hok.fresh (Nat.le_refl _))⟩
  exact ⟨by rw [List.length_reverse]; exact hz, its.reverse, 0, r.reverse, Heap.get?_push_size _ rfl⟩
end
/-! ### targets of two levels -/
abbrev El := Sum Nat (List Nat)
def setEl : El → D → DS → Option DS
  | .inl i, d, ds => some (ds.set i (some d))
  | .inr is, d, ds => match tupD d with
    | none => none
    | some ps => setAll is (ps.map .p) ds
def setEls : List El → List D → DS → Option DS
  | [], [], ds => some ds
  | x :: r, d :: l, ds => match setEl x d ds with
    | none => none
    | some ds' => setEls r l ds'
  | _, _, _ => none
def gTup2 (els : List El) : FG := fun d ds S => match tupD d with
  | none => none
  | some ps => (setEls els (ps.map .p) ds).map fun ds' => (ds', S)
def idx : List El → List Nat
  | [] => []
  | .inl i :: r => i :: idx r
  | .inr is :: r => is ++ idx r
inductive ElG (K : PySem.W.Frag) : El → TG → Prop
  | nm {i : Nat} : ElG K (.inl i) (gName i)
  | tp {is : List Nat} {t : TGs} {n : Nat} : NamesG is t → is.length = n → ElG K (.inr is) (gTup K n t)
inductive ElsG (K : PySem.W.Frag) : List El → TGs → Prop
  | nil : ElsG K [] gNil
  | cons {x : El} {r : List El} {t : TG} {u : TGs} : ElG K x t → ElsG K r u → ElsG K (x :: r) (gCons t u)
section
variable {K : PySem.W.Frag} {W : Wd}
theorem el_red {x : El} {t : TG} (h : ElG K x t) {d : D} {v : V} {ds ds' : DS} {σ : L2.St} {Q : L2.St → Hp → Prop} (e : setEl x d ds = some ds') (rd : RD K W d v) (re : RE K W ds σ)
    (q : ∀ σ', RE K W ds' σ' → (∀ ws : List Nat, (∀ i ∈ idx [x], i ∈ ws) → wipe σ' ws = wipe σ ws) → Q σ' W.H) : t v σ W.H Q := by
  cases h with
  | @nm i =>
    cases e
    exact q _ (re.set rd) fun ws hw => wipe_set (hw i (by simp [idx]))
  | @tp is t n h hl =>
    have e : (match tupD d with | none => none | some ps => setAll is (ps.map D.p) ds) = some ds' := e
    split at e
    · cases e
    · rename_i ps hp
      obtain ⟨a, vs, rfl, h1, h2⟩ := tupD_ok rd hp
      obtain ⟨σ', e1, e2⟩ := setAll_rel e (rps_ds h2) re
      refine ⟨a, vs, rfl, h1, by rw [← hl]; exact setAllV_len e1, h.red e1 (q σ' e2 fun ws hw => setAllV_wipe (σ0 := σ) (fun i hi => hw i (by simp [idx, hi])) e1)⟩
theorem els_red {els : List El} {t : TGs} (h : ElsG K els t) : ∀ {l : List D} {vs : List V} {ds ds' : DS} {σ : L2.St} {Q : L2.St → Hp → Prop}, setEls els l ds = some ds' → RDs K W l vs → RE K W ds σ →
    (∀ σ', RE K W ds' σ' → (∀ ws : List Nat, (∀ i ∈ idx els, i ∈ ws) → wipe σ' ws = wipe σ ws) → Q σ' W.H) → t vs σ W.H Q ∧ vs.length = els.length := by
  induction h with
  | nil =>
    intro l vs ds ds' σ Q e r re q
    cases l with
    | nil => cases e; cases r; exact ⟨⟨rfl, q σ re fun _ _ => rfl⟩, rfl⟩
    | cons _ _ => cases e
  | @cons x r t u h1 h2 ih =>
    intro l vs ds ds' σ Q e rr re q
    cases l with
    | nil => cases e
    | cons d l =>
      have e : (match setEl x d ds with | none => none | some ds' => setEls r l ds') = some ds' := e
      split at e
      · cases e
      · rename_i ds1 e1
        cases rr with
        | @cons _ v _ vs rd rt =>
          have hlen : vs.length = r.length := by
            have : ∀ {els : List El} {l : List D} {ds ds' : DS}, setEls els l ds = some ds' → l.length = els.length := by
              intro els
              induction els with
              | nil => intro l ds ds' e; cases l with
                | nil => rfl
                | cons _ _ => cases e
              | cons x r ih => intro l ds ds' e; cases l with
                | nil => cases e
                | cons d l =>
                  have e : (match setEl x d ds with | none => none | some ds' => setEls r l ds') = some ds' := e
                  split at e
                  · cases e
                  · rw [List.length_cons, List.length_cons, ih e]
            rw [← Paired.length rt, this e]
          refine ⟨⟨v, vs, rfl, el_red h1 e1 rd re fun σ1 re1 w1 => ?_⟩, by rw [List.length_cons, List.length_cons, hlen]⟩
          refine (ih e rt re1 fun σ2 re2 w2 => q σ2 re2 fun ws hw => ?_).1
          rw [w2 ws fun i hi => hw i (by cases x <;> simp [idx, hi]), w1 ws fun i hi => hw i (by cases x <;> simp [idx] at hi ⊢ <;> simp [hi])]
end
theorem dg_tup2 {X : Cx} {tg : Expr} {els : List El} {t : TGs} {n : Nat} (h : PG X tg (gTup X.K n t)) (he : ElsG X.K els t) (hl : els.length = n) : DG X tg (gTup2 els) :=
  PG.imp h fun v σ H Q ⟨W, ds, d, ds', S', eH, s, re, rd, e, q⟩ => by
    subst eH
    unfold gTup2 at e
    split at e
    · cases e
    · rename_i ps hp
      cases hs : setEls els (ps.map .p) ds with
      | none => rw [hs] at e; cases e
      | some d2 =>
        rw [hs] at e
        cases e
        obtain ⟨a, vs, rfl, h1, h2⟩ := tupD_ok rd hp
        obtain ⟨g1, g2⟩ := els_red he hs (rps_ds h2) re fun σ' re' _ => q W σ' (To.refl s) re'
        exact ⟨a, vs, rfl, h1, by rw [← hl]; exact g2, g1⟩
theorem compG_tup2 {K : PySem.W.Frag} {vs : List Nat} {els : List El} {t : TGs} {n : Nat} (h : ElsG K els t) (hi : ∀ i ∈ idx els, i ∈ vs) (hl : els.length = n) : CompG K vs (gTup K n t) (gTup2 els) := by
  intro W d v ds ds' σ S' Q s re rd e q
  unfold gTup2 at e
  split at e
  · cases e
  · rename_i ps hp
    cases hs : setEls els (ps.map .p) ds with
    | none => rw [hs] at e; cases e
    | some d2 =>
      rw [hs] at e
      cases e
      obtain ⟨a, us, rfl, h1, h2⟩ := tupD_ok rd hp
      obtain ⟨g1, g2⟩ := els_red h hs (rps_ds h2) re fun σ' re' w => q σ' (by rw [w vs hi, wipe_idem]) re' rfl
      exact ⟨a, us, rfl, h1, by rw [← hl]; exact g2, g1⟩
@[simp] theorem gTup2_eq {els : List El} {d : D} {ds : DS} {S : DH} : gTup2 els d ds S = match tupD d with
  | none => none
  | some ps => (setEls els (ps.map .p) ds).map fun ds' => (ds', S) := rfl
@[simp] theorem setEls_nil {ds : DS} : setEls [] [] ds = some ds := rfl
@[simp] theorem setEls_nm {i : Nat} {r : List El} {d : D} {l : List D} {ds : DS} : setEls (.inl i :: r) (d :: l) ds = setEls r l (ds.set i (some d)) := rfl
@[simp] theorem setEls_tp {is : List Nat} {r : List El} {d : D} {l : List D} {ds : DS} : setEls (.inr is :: r) (d :: l) ds = match (match tupD d with | none => none | some ps => setAll is (ps.map .p) ds) with | none => none | some ds' => setEls r l ds' := rfl
/-- a comprehension within one -/
def relabelS (scope sc : Scope) : Scope := { scope with names := scope.names.map fun (n, k) => if (k == NameKind.free && sc.kind == .function && sc.names.lookup n == some .cell) then (n, NameKind.cell) else (n, k) }
theorem blkOk_in {X : Cx} {s : Shared} {H : Hp} {scope1 scope sc : Scope} {cl : List (Str × Addr)} {C : Addr} {fp : List Addr} {own : List (Str × Nat)} {N : List Str} (hN : X.N = N) (hs : X.env.scope = sc) (h : blkC N (relabelS scope1 sc) scope own = true) :
    BlkOk (X.blk s H scope1 (compEnvC scope1 cl C X.env) fp).N (X.blk s H scope1 (compEnvC scope1 cl C X.env) fp).env.scope scope own := by
  subst hN hs
  exact blkOk_by h
/-! ### x[::-1] on the own data -/
def gRev : D → DH → Option (D × DH) := fun x S => match lstP S x with
  | some l => some (.p (.lst l.reverse), S)
  | none => none
def fRev (fe : FE) (fo : FO) : FE := fun ds S => match fe ds S with
  | none => none
  | some (x, S1) => match fo ds S1 with
    | some (some (-1), S2) => gRev x S2
    | _ => none
theorem rps_rev {K : PySem.W.Frag} {H : Hp} {L : Addr → Prop} : ∀ {ps : List P} {vs : List V}, RPs K H L ps vs → RPs K H L ps.reverse vs.reverse
  | _, _, .nil => .nil
  | _, _, .cons h t => by rw [List.reverse_cons, List.reverse_cons]; exact rps_app (rps_rev t) (.cons h .nil)
theorem de_rev {X : Cx} {e st : Expr} {fe : FE} {fo : FO} {p2 pos : Pos} (he : DE X e fe) (hs : DO' X (some st) fo) : DE X (.Subscript e (.Slice none none (some st) p2) pos) (fRev fe fo) :=
  PE.imp (pe_rev he hs) fun σ H Q ⟨W, ds, d, S', eH, s, re, e, q⟩ => by
    unfold fRev at e
    split at e
    · cases e
    · rename_i x S1 e1
      split at e
      · rename_i S2 e2
        unfold gRev at e
        split at e
        · rename_i l hl
          cases e
          refine ⟨W, ds, x, _, eH, s, re, e1, fun W1 v t1 r1 => ?_⟩
          refine ⟨W1, ds, some (-1), _, rfl, t1.s, re.ext t1.x, by rw [t1.e]; exact e2, fun W2 t2 => ⟨rfl, ?_⟩⟩
          unfold lstP at hl
          split at hl
          · rename_i m hm
            obtain ⟨a, ws, rfl, h1, h2⟩ := lstD_ok t2.s (r1.ext t2.x) (by rw [t2.e]; exact hm)
            refine ⟨a, ws, rfl, h1, fun p hp => ?_⟩
            obtain ⟨t, r⟩ := new_lst t2.s hp (rps_rev (allP_rel hl h2))
            exact q _ _ ((t1.after t2).after (by rw [← t2.e]; exact t)) r
          · cases hl
        · cases e
      · cases e
@[simp] theorem fRev_eq {fe : FE} {fo : FO} {ds : DS} {S : DH} : fRev fe fo ds S = match fe ds S with
  | none => none
  | some (x, S1) => match fo ds S1 with
    | some (some (-1), S2) => gRev x S2
    | _ => none := rfl
end CK
/-! CkZd (printed by mkzd.py): lists and dicts at the end of the own heap, by their places. -/
namespace CK
open PySem PySem.Spec PyProof.Rows L2


section
variable {S : DH} {j : Nat} {l : List D} {x : P} {i : Int} {m : List (Key × D)} {mt : List (List Key × D)} {n : Str}
theorem r_append (h : S[j]? = some (.lst l)) (hl : l.length < 16777216) : gAppend (.ref j) [.p x] S = some (.p .non, S.set j (.lst (l ++ [.p x]))) := gAppend_p h hl
theorem r_setK {k : Key} {kp : P} (hk : keyP kp = some k) (h : S[j]? = some (.dK m)) (hl : m.length < 16777216) : gSetA (.ref j) (.p kp) (.p x) S = some (S.set j (.dK (dput m k (.p x)))) := by
  have hk' : keyD (.p kp) = some (.inl k) := by cases kp <;> first | (cases hk; rfl) | cases hk
  cases kp <;> first | cases hk; done | simp [gSetA, gSetL, gSetK, h, hk', hl, D.below]
theorem r_setT {ks : List Key} {kp : P} (hk : keyD (.p kp) = some (.inr ks)) (h : S[j]? = some (.dT mt)) (hl : mt.length < 16777216) : gSetA (.ref j) (.p kp) (.p x) S = some (S.set j (.dT (dput mt ks (.p x)))) := by
  cases kp <;> first | (cases hk; done) | simp [gSetA, gSetL, gSetK, h, hk, hl, D.below]
theorem r_dgetK {k : Key} {kp : P} (hk : keyP kp = some k) (h : S[j]? = some (.dK m) ∨ S[j]? = some (.kK m)) : dget S (.ref j) (.p kp) = some (dval m k) := by
  have hk' : keyD (.p kp) = some (.inl k) := by cases kp <;> first | (cases hk; rfl) | cases hk
  have h1 : dictD S (.ref j) = some (.inl m) := by
    rcases h with h | h <;> (show (match S[j]? with | some (.dK l) => _ | some (.kK l) => _ | some (.dT l) => _ | some (.kT l) => _ | _ => _) = _; rw [h])
  unfold dget
  rw [h1, hk']
theorem r_dgetT {ks : List Key} {kp : P} (hk : keyD (.p kp) = some (.inr ks)) (h : S[j]? = some (.dT mt) ∨ S[j]? = some (.kT mt)) : dget S (.ref j) (.p kp) = some (dval mt ks) := by
  have h1 : dictD S (.ref j) = some (.inr mt) := by
    rcases h with h | h <;> (show (match S[j]? with | some (.dK l) => _ | some (.kK l) => _ | some (.dT l) => _ | some (.kT l) => _ | _ => _) = _; rw [h])
  unfold dget
  rw [h1, hk]
theorem r_inD {d : P} {o : Option D} (h : dget S (.ref j) (.p d) = some o) : gIn (.p d) (.ref j) S = some (.p (.bl o.isSome), S) := by
  have h2 : gInK false (.p d) (.ref j) S = some (.p (.bl o.isSome), S) := by
    unfold gInK
    rw [h]
    cases o <;> rfl
  have h1 : gInS false (.p d) (.ref j) S = none := by cases d <;> rfl
  show (match gInS false (.p d) (.ref j) S with | some r => some r | none => (match gInK false (.p d) (.ref j) S with | some r => some r | none => _)) = _
  rw [h1, h2]
theorem r_notInD {d : P} {o : Option D} (h : dget S (.ref j) (.p d) = some o) : gNotIn (.p d) (.ref j) S = some (.p (.bl (!o.isSome)), S) := by
  have h2 : gInK true (.p d) (.ref j) S = some (.p (.bl (!o.isSome)), S) := by
    unfold gInK
    rw [h]
    cases o <;> rfl
  have h1 : gInS true (.p d) (.ref j) S = none := by cases d <;> rfl
  show (match gInS true (.p d) (.ref j) S with | some r => some r | none => (match gInK true (.p d) (.ref j) S with | some r => some r | none => _)) = _
  rw [h1, h2]
theorem r_ixD {d : P} {o : Option D} (hS : S[j]? = some (.dK m) ∨ S[j]? = some (.kK m) ∨ S[j]? = some (.dT mt) ∨ S[j]? = some (.kT mt)) (h : dget S (.ref j) (.p d) = some o) : gIx (.ref j) (.p d) S = o.map fun v => (v, S) := by
  have h1 : gIxL (.ref j) (.p d) S = none := by
    have : lstD S (.ref j) = none := by
      show (match S[j]? with | some (.lst l) => some l | _ => none) = none
      rcases hS with h | h | h | h <;> rw [h]
    unfold gIxL
    rw [this]
  have h2 : gIxT (.ref j) (.p d) S = none := rfl
  have h3 : gIxS (.ref j) (.p d) S = none := rfl
  show (match gIxL (.ref j) (.p d) S with | some r => some r | none => (match gIxT (.ref j) (.p d) S with | some r => some r | none => (match gIxS (.ref j) (.p d) S with | some r => some r | none => gIxK (.ref j) (.p d) S))) = _
  rw [h1, h2, h3]
  show gIxK (.ref j) (.p d) S = _
  unfold gIxK
  rw [h]
  cases o <;> rfl
end
section
variable {S Y : DH} {a b c : DO} {l : List D} {x : P} {i : Int} {m : List (Key × D)} {mt : List (List Key × D)} {n : Str}
theorem ix_0 : gIx (.ref S.length) (.p (.int i)) (S ++ (.lst l :: Y)) = (atI l i).map fun d => (d, S ++ (.lst l :: Y)) := gIx_ref (by simp)
theorem len_0 : gLen [.ref S.length] (S ++ (.lst l :: Y)) = some (.p (.int l.length), S ++ (.lst l :: Y)) := gLen_ref (by simp)
theorem isl_0 : isTy "list" (.ref S.length) (S ++ (.lst l :: Y)) = true := isTy_r (m := l) (by simp)
theorem it_0 : itD (S ++ (.lst l :: Y)) (.ref S.length) = some (l, fun S' => S'[S.length]? = some (.lst l)) := itD_ref (by simp)
theorem app_0 (hl : l.length < 16777216) : gAppend (.ref S.length) [.p x] (S ++ (.lst l :: Y)) = some (.p .non, S ++ (.lst (l ++ [.p x]) :: Y)) := by
  rw [r_append (l := l) (by simp) hl]; simp
theorem lstD_0 : lstD (S ++ (.lst l :: Y)) (.ref S.length) = some l := by
  have h : (S ++ (.lst l :: Y))[S.length]? = some (.lst l) := (by simp)
  show (match (S ++ (.lst l :: Y))[S.length]? with | some (DO.lst l) => some l | _ => none) = _
  rw [h]
theorem setl_0 {q : Nat} (hj : ixN l.length i = some q) : gSetA (.ref S.length) (.p (.int i)) (.p x) (S ++ (.lst l :: Y)) = some (S ++ (.lst (l.set q (.p x)) :: Y)) := by
  rw [gSetA_lst (l := l) (by simp) hj]; simp
theorem setK_0 (hl : m.length < 16777216) : gSetA (.ref S.length) (.p (.str n)) (.p x) (S ++ (.dK m :: Y)) = some (S ++ (.dK (dput m (.inr n) (.p x)) :: Y)) := by
  rw [r_setK (m := m) (k := .inr n) rfl (by simp) hl]; simp
theorem dgK_0 : dget (S ++ (.dK m :: Y)) (.ref S.length) (.p (.str n)) = some (dval m (.inr n)) := r_dgetK (m := m) rfl (.inl (by simp))
theorem inK_0 : gIn (.p (.str n)) (.ref S.length) (S ++ (.dK m :: Y)) = some (.p (.bl (dval m (.inr n)).isSome), S ++ (.dK m :: Y)) := r_inD dgK_0
theorem niK_0 : gNotIn (.p (.str n)) (.ref S.length) (S ++ (.dK m :: Y)) = some (.p (.bl (!(dval m (.inr n)).isSome)), S ++ (.dK m :: Y)) := r_notInD dgK_0
theorem ixK_0 : gIx (.ref S.length) (.p (.str n)) (S ++ (.dK m :: Y)) = (dval m (.inr n)).map fun v => (v, S ++ (.dK m :: Y)) := r_ixD (m := m) (mt := []) (.inl (by simp)) dgK_0
theorem dD_0 : dictD (S ++ (.dK m :: Y)) (.ref S.length) = some (.inl m) := by
  have h : (S ++ (.dK m :: Y))[S.length]? = some (.dK m) := (by simp)
  show (match (S ++ (.dK m :: Y))[S.length]? with | some (DO.dK l) => some (Sum.inl l) | some (DO.kK l) => some (Sum.inl l) | some (DO.dT l) => some (Sum.inr l) | some (DO.kT l) => some (Sum.inr l) | _ => none) = _
  rw [h]
theorem setT_0 {ks : List Key} {kp : P} (hk : keyD (.p kp) = some (.inr ks)) (hl : mt.length < 16777216) : gSetA (.ref S.length) (.p kp) (.p x) (S ++ (.dT mt :: Y)) = some (S ++ (.dT (dput mt ks (.p x)) :: Y)) := by
  rw [r_setT (mt := mt) hk (by simp) hl]; simp
theorem dgT_0 {ks : List Key} {kp : P} (hk : keyD (.p kp) = some (.inr ks)) : dget (S ++ (.dT mt :: Y)) (.ref S.length) (.p kp) = some (dval mt ks) := r_dgetT (mt := mt) hk (.inl (by simp))
theorem inT_0 {ks : List Key} {kp : P} (hk : keyD (.p kp) = some (.inr ks)) : gIn (.p kp) (.ref S.length) (S ++ (.dT mt :: Y)) = some (.p (.bl (dval mt ks).isSome), S ++ (.dT mt :: Y)) := r_inD (dgT_0 hk)
theorem niT_0 {ks : List Key} {kp : P} (hk : keyD (.p kp) = some (.inr ks)) : gNotIn (.p kp) (.ref S.length) (S ++ (.dT mt :: Y)) = some (.p (.bl (!(dval mt ks).isSome)), S ++ (.dT mt :: Y)) := r_notInD (dgT_0 hk)
theorem ixT_0 {ks : List Key} {kp : P} (hk : keyD (.p kp) = some (.inr ks)) : gIx (.ref S.length) (.p kp) (S ++ (.dT mt :: Y)) = (dval mt ks).map fun v => (v, S ++ (.dT mt :: Y)) := r_ixD (m := []) (mt := mt) (.inr (.inr (.inl (by simp)))) (dgT_0 hk)
theorem dDT_0 : dictD (S ++ (.dT mt :: Y)) (.ref S.length) = some (.inr mt) := by
  have h : (S ++ (.dT mt :: Y))[S.length]? = some (.dT mt) := (by simp)
  show (match (S ++ (.dT mt :: Y))[S.length]? with | some (DO.dK l) => some (Sum.inl l) | some (DO.kK l) => some (Sum.inl l) | some (DO.dT l) => some (Sum.inr l) | some (DO.kT l) => some (Sum.inr l) | _ => none) = _
  rw [h]
theorem ix_1 : gIx (.ref (S.length + 1)) (.p (.int i)) (S ++ (a :: .lst l :: Y)) = (atI l i).map fun d => (d, S ++ (a :: .lst l :: Y)) := gIx_ref (by simp)
theorem len_1 : gLen [.ref (S.length + 1)] (S ++ (a :: .lst l :: Y)) = some (.p (.int l.length), S ++ (a :: .lst l :: Y)) := gLen_ref (by simp)
theorem isl_1 : isTy "list" (.ref (S.length + 1)) (S ++ (a :: .lst l :: Y)) = true := isTy_r (m := l) (by simp)
theorem it_1 : itD (S ++ (a :: .lst l :: Y)) (.ref (S.length + 1)) = some (l, fun S' => S'[(S.length + 1)]? = some (.lst l)) := itD_ref (by simp)
theorem app_1 (hl : l.length < 16777216) : gAppend (.ref (S.length + 1)) [.p x] (S ++ (a :: .lst l :: Y)) = some (.p .non, S ++ (a :: .lst (l ++ [.p x]) :: Y)) := by
  rw [r_append (l := l) (by simp) hl]; simp
theorem lstD_1 : lstD (S ++ (a :: .lst l :: Y)) (.ref (S.length + 1)) = some l := by
  have h : (S ++ (a :: .lst l :: Y))[(S.length + 1)]? = some (.lst l) := (by simp)
  show (match (S ++ (a :: .lst l :: Y))[(S.length + 1)]? with | some (DO.lst l) => some l | _ => none) = _
  rw [h]
theorem setl_1 {q : Nat} (hj : ixN l.length i = some q) : gSetA (.ref (S.length + 1)) (.p (.int i)) (.p x) (S ++ (a :: .lst l :: Y)) = some (S ++ (a :: .lst (l.set q (.p x)) :: Y)) := by
  rw [gSetA_lst (l := l) (by simp) hj]; simp
theorem setK_1 (hl : m.length < 16777216) : gSetA (.ref (S.length + 1)) (.p (.str n)) (.p x) (S ++ (a :: .dK m :: Y)) = some (S ++ (a :: .dK (dput m (.inr n) (.p x)) :: Y)) := by
  rw [r_setK (m := m) (k := .inr n) rfl (by simp) hl]; simp
theorem dgK_1 : dget (S ++ (a :: .dK m :: Y)) (.ref (S.length + 1)) (.p (.str n)) = some (dval m (.inr n)) := r_dgetK (m := m) rfl (.inl (by simp))
theorem inK_1 : gIn (.p (.str n)) (.ref (S.length + 1)) (S ++ (a :: .dK m :: Y)) = some (.p (.bl (dval m (.inr n)).isSome), S ++ (a :: .dK m :: Y)) := r_inD dgK_1
theorem niK_1 : gNotIn (.p (.str n)) (.ref (S.length + 1)) (S ++ (a :: .dK m :: Y)) = some (.p (.bl (!(dval m (.inr n)).isSome)), S ++ (a :: .dK m :: Y)) := r_notInD dgK_1
theorem ixK_1 : gIx (.ref (S.length + 1)) (.p (.str n)) (S ++ (a :: .dK m :: Y)) = (dval m (.inr n)).map fun v => (v, S ++ (a :: .dK m :: Y)) := r_ixD (m := m) (mt := []) (.inl (by simp)) dgK_1
theorem dD_1 : dictD (S ++ (a :: .dK m :: Y)) (.ref (S.length + 1)) = some (.inl m) := by
  have h : (S ++ (a :: .dK m :: Y))[(S.length + 1)]? = some (.dK m) := (by simp)
  show (match (S ++ (a :: .dK m :: Y))[(S.length + 1)]? with | some (DO.dK l) => some (Sum.inl l) | some (DO.kK l) => some (Sum.inl l) | some (DO.dT l) => some (Sum.inr l) | some (DO.kT l) => some (Sum.inr l) | _ => none) = _
  rw [h]
theorem setT_1 {ks : List Key} {kp : P} (hk : keyD (.p kp) = some (.inr ks)) (hl : mt.length < 16777216) : gSetA (.ref (S.length + 1)) (.p kp) (.p x) (S ++ (a :: .dT mt :: Y)) = some (S ++ (a :: .dT (dput mt ks (.p x)) :: Y)) := by
  rw [r_setT (mt := mt) hk (by simp) hl]; simp
theorem dgT_1 {ks : List Key} {kp : P} (hk : keyD (.p kp) = some (.inr ks)) : dget (S ++ (a :: .dT mt :: Y)) (.ref (S.length + 1)) (.p kp) = some (dval mt ks) := r_dgetT (mt := mt) hk (.inl (by simp))
theorem inT_1 {ks : List Key} {kp : P} (hk : keyD (.p kp) = some (.inr ks)) : gIn (.p kp) (.ref (S.length + 1)) (S ++ (a :: .dT mt :: Y)) = some (.p (.bl (dval mt ks).isSome), S ++ (a :: .dT mt :: Y)) := r_inD (dgT_1 hk)
theorem niT_1 {ks : List Key} {kp : P} (hk : keyD (.p kp) = some (.inr ks)) : gNotIn (.p kp) (.ref (S.length + 1)) (S ++ (a :: .dT mt :: Y)) = some (.p (.bl (!(dval mt ks).isSome)), S ++ (a :: .dT mt :: Y)) := r_notInD (dgT_1 hk)
theorem ixT_1 {ks : List Key} {kp : P} (hk : keyD (.p kp) = some (.inr ks)) : gIx (.ref (S.length + 1)) (.p kp) (S ++ (a :: .dT mt :: Y)) = (dval mt ks).map fun v => (v, S ++ (a :: .dT mt :: Y)) := r_ixD (m := []) (mt := mt) (.inr (.inr (.inl (by simp)))) (dgT_1 hk)
theorem dDT_1 : dictD (S ++ (a :: .dT mt :: Y)) (.ref (S.length + 1)) = some (.inr mt) := by
  have h : (S ++ (a :: .dT mt :: Y))[(S.length + 1)]? = some (.dT mt) := (by simp)
  show (match (S ++ (a :: .dT mt :: Y))[(S.length + 1)]? with | some (DO.dK l) => some (Sum.inl l) | some (DO.kK l) => some (Sum.inl l) | some (DO.dT l) => some (Sum.inr l) | some (DO.kT l) => some (Sum.inr l) | _ => none) = _
  rw [h]
theorem ix_2 : gIx (.ref (S.length + 2)) (.p (.int i)) (S ++ (a :: b :: .lst l :: Y)) = (atI l i).map fun d => (d, S ++ (a :: b :: .lst l :: Y)) := gIx_ref (by simp)
theorem len_2 : gLen [.ref (S.length + 2)] (S ++ (a :: b :: .lst l :: Y)) = some (.p (.int l.length), S ++ (a :: b :: .lst l :: Y)) := gLen_ref (by simp)
theorem isl_2 : isTy "list" (.ref (S.length + 2)) (S ++ (a :: b :: .lst l :: Y)) = true := isTy_r (m := l) (by simp)
theorem it_2 : itD (S ++ (a :: b :: .lst l :: Y)) (.ref (S.length + 2)) = some (l, fun S' => S'[(S.length + 2)]? = some (.lst l)) := itD_ref (by simp)
theorem app_2 (hl : l.length < 16777216) : gAppend (.ref (S.length + 2)) [.p x] (S ++ (a :: b :: .lst l :: Y)) = some (.p .non, S ++ (a :: b :: .lst (l ++ [.p x]) :: Y)) := by
  rw [r_append (l := l) (by simp) hl]; simp
theorem lstD_2 : lstD (S ++ (a :: b :: .lst l :: Y)) (.ref (S.length + 2)) = some l := by
  have h : (S ++ (a :: b :: .lst l :: Y))[(S.length + 2)]? = some (.lst l) := (by simp)
  show (match (S ++ (a :: b :: .lst l :: Y))[(S.length + 2)]? with | some (DO.lst l) => some l | _ => none) = _
  rw [h]
theorem setl_2 {q : Nat} (hj : ixN l.length i = some q) : gSetA (.ref (S.length + 2)) (.p (.int i)) (.p x) (S ++ (a :: b :: .lst l :: Y)) = some (S ++ (a :: b :: .lst (l.set q (.p x)) :: Y)) := by
  rw [gSetA_lst (l := l) (by simp) hj]; simp
theorem setK_2 (hl : m.length < 16777216) : gSetA (.ref (S.length + 2)) (.p (.str n)) (.p x) (S ++ (a :: b :: .dK m :: Y)) = some (S ++ (a :: b :: .dK (dput m (.inr n) (.p x)) :: Y)) := by
  rw [r_setK (m := m) (k := .inr n) rfl (by simp) hl]; simp
theorem dgK_2 : dget (S ++ (a :: b :: .dK m :: Y)) (.ref (S.length + 2)) (.p (.str n)) = some (dval m (.inr n)) := r_dgetK (m := m) rfl (.inl (by simp))
theorem inK_2 : gIn (.p (.str n)) (.ref (S.length + 2)) (S ++ (a :: b :: .dK m :: Y)) = some (.p (.bl (dval m (.inr n)).isSome), S ++ (a :: b :: .dK m :: Y)) := r_inD dgK_2
theorem niK_2 : gNotIn (.p (.str n)) (.ref (S.length + 2)) (S ++ (a :: b :: .dK m :: Y)) = some (.p (.bl (!(dval m (.inr n)).isSome)), S ++ (a :: b :: .dK m :: Y)) := r_notInD dgK_2
theorem ixK_2 : gIx (.ref (S.length + 2)) (.p (.str n)) (S ++ (a :: b :: .dK m :: Y)) = (dval m (.inr n)).map fun v => (v, S ++ (a :: b :: .dK m :: Y)) := r_ixD (m := m) (mt := []) (.inl (by simp)) dgK_2
theorem dD_2 : dictD (S ++ (a :: b :: .dK m :: Y)) (.ref (S.length + 2)) = some (.inl m) := by
  have h : (S ++ (a :: b :: .dK m :: Y))[(S.length + 2)]? = some (.dK m) := (by simp)
  show (match (S ++ (a :: b :: .dK m :: Y))[(S.length + 2)]? with | some (DO.dK l) => some (Sum.inl l) | some (DO.kK l) => some (Sum.inl l) | some (DO.dT l) => some (Sum.inr l) | some (DO.kT l) => some (Sum.inr l) | _ => none) = _
  rw [h]
theorem setT_2 {ks : List Key} {kp : P} (hk : keyD (.p kp) = some (.inr ks)) (hl : mt.length < 16777216) : gSetA (.ref (S.length + 2)) (.p kp) (.p x) (S ++ (a :: b :: .dT mt :: Y)) = some (S ++ (a :: b :: .dT (dput mt ks (.p x)) :: Y)) := by
  rw [r_setT (mt := mt) hk (by simp) hl]; simp
theorem dgT_2 {ks : List Key} {kp : P} (hk : keyD (.p kp) = some (.inr ks)) : dget (S ++ (a :: b :: .dT mt :: Y)) (.ref (S.length + 2)) (.p kp) = some (dval mt ks) := r_dgetT (mt := mt) hk (.inl (by simp))
theorem inT_2 {ks : List Key} {kp : P} (hk : keyD (.p kp) = some (.inr ks)) : gIn (.p kp) (.ref (S.length + 2)) (S ++ (a :: b :: .dT mt :: Y)) = some (.p (.bl (dval mt ks).isSome), S ++ (a :: b :: .dT mt :: Y)) := r_inD (dgT_2 hk)
theorem niT_2 {ks : List Key} {kp : P} (hk : keyD (.p kp) = some (.inr ks)) : gNotIn (.p kp) (.ref (S.length + 2)) (S ++ (a :: b :: .dT mt :: Y)) = some (.p (.bl (!(dval mt ks).isSome)), S ++ (a :: b :: .dT mt :: Y)) := r_notInD (dgT_2 hk)
theorem ixT_2 {ks : List Key} {kp : P} (hk : keyD (.p kp) = some (.inr ks)) : gIx (.ref (S.length + 2)) (.p kp) (S ++ (a :: b :: .dT mt :: Y)) = (dval mt ks).map fun v => (v, S ++ (a :: b :: .dT mt :: Y)) := r_ixD (m := []) (mt := mt) (.inr (.inr (.inl (by simp)))) (dgT_2 hk)
theorem dDT_2 : dictD (S ++ (a :: b :: .dT mt :: Y)) (.ref (S.length + 2)) = some (.inr mt) := by
  have h : (S ++ (a :: b :: .dT mt :: Y))[(S.length + 2)]? = some (.dT mt) := (by simp)
  show (match (S ++ (a :: b :: .dT mt :: Y))[(S.length + 2)]? with | some (DO.dK l) => some (Sum.inl l) | some (DO.kK l) => some (Sum.inl l) | some (DO.dT l) => some (Sum.inr l) | some (DO.kT l) => some (Sum.inr l) | _ => none) = _
  rw [h]
theorem ix_3 : gIx (.ref (S.length + 3)) (.p (.int i)) (S ++ (a :: b :: c :: .lst l :: Y)) = (atI l i).map fun d => (d, S ++ (a :: b :: c :: .lst l :: Y)) := gIx_ref (by simp)
theorem len_3 : gLen [.ref (S.length + 3)] (S ++ (a :: b :: c :: .lst l :: Y)) = some (.p (.int l.length), S ++ (a :: b :: c :: .lst l :: Y)) := gLen_ref (by simp)
theorem isl_3 : isTy "list" (.ref (S.length + 3)) (S ++ (a :: b :: c :: .lst l :: Y)) = true := isTy_r (m := l) (by simp)
theorem it_3 : itD (S ++ (a :: b :: c :: .lst l :: Y)) (.ref (S.length + 3)) = some (l, fun S' => S'[(S.length + 3)]? = some (.lst l)) := itD_ref (by simp)
theorem app_3 (hl : l.length < 16777216) : gAppend (.ref (S.length + 3)) [.p x] (S ++ (a :: b :: c :: .lst l :: Y)) = some (.p .non, S ++ (a :: b :: c :: .lst (l ++ [.p x]) :: Y)) := by
  rw [r_append (l := l) (by simp) hl]; simp
theorem lstD_3 : lstD (S ++ (a :: b :: c :: .lst l :: Y)) (.ref (S.length + 3)) = some l := by
  have h : (S ++ (a :: b :: c :: .lst l :: Y))[(S.length + 3)]? = some (.lst l) := (by simp)
  show (match (S ++ (a :: b :: c :: .lst l :: Y))[(S.length + 3)]? with | some (DO.lst l) => some l | _ => none) = _
  rw [h]
theorem setl_3 {q : Nat} (hj : ixN l.length i = some q) : gSetA (.ref (S.length + 3)) (.p (.int i)) (.p x) (S ++ (a :: b :: c :: .lst l :: Y)) = some (S ++ (a :: b :: c :: .lst (l.set q (.p x)) :: Y)) := by
  rw [gSetA_lst (l := l) (by simp) hj]; simp
theorem setK_3 (hl : m.length < 16777216) : gSetA (.ref (S.length + 3)) (.p (.str n)) (.p x) (S ++ (a :: b :: c :: .dK m :: Y)) = some (S ++ (a :: b :: c :: .dK (dput m (.inr n) (.p x)) :: Y)) := by
  rw [r_setK (m := m) (k := .inr n) rfl (by simp) hl]; simp
theorem dgK_3 : dget (S ++ (a :: b :: c :: .dK m :: Y)) (.ref (S.length + 3)) (.p (.str n)) = some (dval m (.inr n)) := r_dgetK (m := m) rfl (.inl (by simp))
theorem inK_3 : gIn (.p (.str n)) (.ref (S.length + 3)) (S ++ (a :: b :: c :: .dK m :: Y)) = some (.p (.bl (dval m (.inr n)).isSome), S ++ (a :: b :: c :: .dK m :: Y)) := r_inD dgK_3
theorem niK_3 : gNotIn (.p (.str n)) (.ref (S.length + 3)) (S ++ (a :: b :: c :: .dK m :: Y)) = some (.p (.bl (!(dval m (.inr n)).isSome)), S ++ (a :: b :: c :: .dK m :: Y)) := r_notInD dgK_3
theorem ixK_3 : gIx (.ref (S.length + 3)) (.p (.str n)) (S ++ (a :: b :: c :: .dK m :: Y)) = (dval m (.inr n)).map fun v => (v, S ++ (a :: b :: c :: .dK m :: Y)) := r_ixD (m := m) (mt := []) (.inl (by simp)) dgK_3
theorem dD_3 : dictD (S ++ (a :: b :: c :: .dK m :: Y)) (.ref (S.length + 3)) = some (.inl m) := by
  have h : (S ++ (a :: b :: c :: .dK m :: Y))[(S.length + 3)]? = some (.dK m) := (by simp)
  show (match (S ++ (a :: b :: c :: .dK m :: Y))[(S.length + 3)]? with | some (DO.dK l) => some (Sum.inl l) | some (DO.kK l) => some (Sum.inl l) | some (DO.dT l) => some (Sum.inr l) | some (DO.kT l) => some (Sum.inr l) | _ => none) = _
  rw [h]
theorem setT_3 {ks : List Key} {kp : P} (hk : keyD (.p kp) = some (.inr ks)) (hl : mt.length < 16777216) : gSetA (.ref (S.length + 3)) (.p kp) (.p x) (S ++ (a :: b :: c :: .dT mt :: Y)) = some (S ++ (a :: b :: c :: .dT (dput mt ks (.p x)) :: Y)) := by
  rw [r_setT (mt := mt) hk (by simp) hl]; simp
theorem dgT_3 {ks : List Key} {kp : P} (hk : keyD (.p kp) = some (.inr ks)) : dget (S ++ (a :: b :: c :: .dT mt :: Y)) (.ref (S.length + 3)) (.p kp) = some (dval mt ks) := r_dgetT (mt := mt) hk (.inl (by simp))
theorem inT_3 {ks : List Key} {kp : P} (hk : keyD (.p kp) = some (.inr ks)) : gIn (.p kp) (.ref (S.length + 3)) (S ++ (a :: b :: c :: .dT mt :: Y)) = some (.p (.bl (dval mt ks).isSome), S ++ (a :: b :: c :: .dT mt :: Y)) := r_inD (dgT_3 hk)
theorem niT_3 {ks : List Key} {kp : P} (hk : keyD (.p kp) = some (.inr ks)) : gNotIn (.p kp) (.ref (S.length + 3)) (S ++ (a :: b :: c :: .dT mt :: Y)) = some (.p (.bl (!(dval mt ks).isSome)), S ++ (a :: b :: c :: .dT mt :: Y)) := r_notInD (dgT_3 hk)
theorem ixT_3 {ks : List Key} {kp : P} (hk : keyD (.p kp) = some (.inr ks)) : gIx (.ref (S.length + 3)) (.p kp) (S ++ (a :: b :: c :: .dT mt :: Y)) = (dval mt ks).map fun v => (v, S ++ (a :: b :: c :: .dT mt :: Y)) := r_ixD (m := []) (mt := mt) (.inr (.inr (.inl (by simp)))) (dgT_3 hk)
theorem dDT_3 : dictD (S ++ (a :: b :: c :: .dT mt :: Y)) (.ref (S.length + 3)) = some (.inr mt) := by
  have h : (S ++ (a :: b :: c :: .dT mt :: Y))[(S.length + 3)]? = some (.dT mt) := (by simp)
  show (match (S ++ (a :: b :: c :: .dT mt :: Y))[(S.length + 3)]? with | some (DO.dK l) => some (Sum.inl l) | some (DO.kK l) => some (Sum.inl l) | some (DO.dT l) => some (Sum.inr l) | some (DO.kT l) => some (Sum.inr l) | _ => none) = _
  rw [h]
end
end CK
/-! CkZe: list(d.items()). -/
namespace CK
open PySem PySem.Spec PyProof.Rows L2

section
variable {K : PySem.W.Frag} {W : Wd}
/-- more is known -/
def Wd.up (W : Wd) (H' : Hp) : Wd := { W with H := H' }
theorem up_ok {H' : Hp} (s : RS K W) (h : ∀ b o, W.H b = some o → H' b = some o) : To K W W.S (W.up H') := by
  have x : Ext W (W.up H') := by
    refine ⟨List.prefix_refl _, fun _ q => q, fun a u e n => ⟨h a u e, n⟩, fun a r => ?_, fun a vs e => h a _ e, fun a o u e => h a _ e⟩
    obtain ⟨u, e, _⟩ := s.rd a r
    exact (h a u e).trans e.symm
  refine ⟨x, ⟨s.len, s.nd, fun i a e => ?_, fun i o a h1 h2 => ?_, s.dis, fun a r => ?_, s.wf⟩, rfl⟩
  · obtain ⟨u, q⟩ := s.dom i a e
    exact ⟨u, h a u q⟩
  · obtain ⟨u, q⟩ := s.dom i a h2
    exact (s.obj i o a h1 h2).ext_same x ((h a u q).trans q.symm)
  · obtain ⟨u, e, q⟩ := s.rd a r
    exact ⟨u, h a u e, q⟩
end
def kpD : List (Key × D) → Option (List P)
  | [] => some []
  | (k, .p x) :: r => (kpD r).map (.tup [kP k, x] :: ·)
  | _ => none
theorem kpD_p (l : List (Key × P)) : kpD (l.map fun q => (q.1, .p q.2)) = some (l.map fun q => .tup [kP q.1, q.2]) := by
  induction l with
  | nil => rfl
  | cons q l ih =>
    show (kpD (l.map fun q => (q.1, D.p q.2))).map (P.tup [kP q.1, q.2] :: ·) = _
    rw [ih]; rfl
theorem kpD_rel {K : PySem.W.Frag} {W : Wd} {H' : Hp} (x : Ext W (W.up H')) : ∀ {l : List (Key × D)} {kvs : List (Key × V)} {ts : List Addr} {ps : List P}, kpD l = some ps → RDk K W l kvs → Paired (fun (t : Addr) (q : Key × V) => H' t = some (.tup [kV q.1, q.2])) ts kvs → RPs K H' (W.up H').L ps (ts.map V.ref)
  | _, _, _, _, e, .nil, .nil => by cases e; exact .nil
  | (k, d) :: l, _, _, _, e, .cons h t, .cons h1 t1 => by
    cases d with
    | ref i => cases e
    | p y =>
      have e : (kpD l).map (P.tup [kP k, y] :: ·) = some _ := e
      cases q : kpD l with
      | none => rw [q] at e; cases e
      | some r =>
        rw [q] at e; cases e
        obtain ⟨e1, r1⟩ := h
        refine .cons (.tup h1 (.cons ?_ (.cons ?_ .nil))) (kpD_rel x q t t1)
        · rw [← e1]; exact rp_key k
        · exact RP.mono x.keep x.tups r1
/-- list(d.items()), a dict of one's own, pure things -/
def fLItems (fe : FE) : FE := fun ds S => match fe ds S with
  | some (.ref i, S1) => match S1[i]? with
    | some (.dK l) => (kpD l).map fun ps => (.p (.lst ps), S1)
    | _ => none
  | _ => none
section
variable {X : Cx} {e : Expr} {fe : FE} {p apos cpos pos : Pos}
theorem de_lItems (hc : X.calm = true) (he : DE X e fe) (hg : Gl X "list") (hm : X.mg "list" = none) (hv : bootBuiltins "list" = some (.type "list")) (hbase : attributeBase e "items" X.env (eval e X.env) = eval e X.env := by rfl) (hline : (apos.endLine == cpos.line) = true := by rfl)
    (hs : starEach [.Call (.Attribute e "items" apos) [] [] cpos] X.env = (false, eval (.Call (.Attribute e "items" apos) [] [] cpos) X.env) :: starEach [] X.env := by rfl) :
    DE X (.Call (.Name "list" p) [.Call (.Attribute e "items" apos) [] [] cpos] [] pos) (fLItems fe) := PE.imp (LiI.pe_listItems hc he hg hm hv hbase hline hs) fun σ H Q ⟨W, ds, d, S', eH, s, re, e, q⟩ => by
  unfold fLItems at e
  split at e
  · rename_i i S1 e1
    split at e
    · rename_i l el
      cases hk : kpD l with
      | none => rw [hk] at e; cases e
      | some ps =>
        rw [hk] at e; cases e
        refine ⟨W, ds, .ref i, S', eH, s, re, e1, fun W1 v t1 r1 => ?_⟩
        obtain ⟨a, ea, rfl⟩ := r1
        obtain ⟨kvs, h1, h2⟩ := t1.s.obj i _ a (by rw [t1.e]; exact el) ea
        refine ⟨a, kvs, rfl, h1, fun H' p ts k1 k2 k3 k4 k5 k6 => ?_⟩
        have t2 := up_ok t1.s k1
        have te := t1.e
        refine q (W1.up H') (.ref p) ⟨t1.x.trans t2.x, t2.s, te⟩ ?_
        exact RP.lst k5 (RP.fresh (u := .lst []) t1.s k2) (kpD_rel t2.x hk h2 k6)
    · cases e
  · cases e
@[simp] theorem fLItems_eq {ds : DS} {S : DH} : fLItems fe ds S = match fe ds S with
  | some (.ref i, S1) => (match S1[i]? with
    | some (.dK l) => (kpD l).map fun ps => (.p (.lst ps), S1)
    | _ => none)
  | _ => none := rfl
end
end CK
/-! CkZf: slices of tuples whose object is known. -/
namespace CK
open PySem PySem.Spec PyProof.Rows L2

def rSlF : V → Option Int → Option Int → Hp → VK → Prop := fun x lo hi H Q => ∃ a xs, x = .ref a ∧ Ft H a xs ∧
  (HT.sIx xs.length 0 lo = 0 ∧ HT.sIx xs.length xs.length hi = xs.length → Q (.ref a) H) ∧ (¬ (HT.sIx xs.length 0 lo = 0 ∧ HT.sIx xs.length xs.length hi = xs.length) → ∀ p o, H p = none → o.dict = none → Q (.ref p) (upd H p (.frz o (.tup (cutV xs lo hi)))))
theorem sl_tupF {X : Cx} : SlR X rSlF := by
  intro pins s σ H x v vl vu lo hi sl Q I rx hs pl pu h
  obtain ⟨a, xs, rfl, hx, q1, q2⟩ := h
  cases rx
  obtain ⟨its, r, ht, hz⟩ := I.tuple (hx.sq (K := X.K))
  have hlen : its.toArray.size = xs.length := by rw [List.size_toArray]; exact r.length.symm
  refine ⟨"tuple", _, PyProof.Rows.slot_tuple_getitem.lookup, ht.typeIs, ?_⟩
  by_cases hw : HT.sIx xs.length 0 lo = 0 ∧ HT.sIx xs.length xs.length hi = xs.length
  · exact getItem_tuple_whole ht hs pl pu (by rw [hlen]; exact hw) ⟨.ref a, H, I, rfl, q1 hw⟩
  · refine HT.getItem_tuple_cut ht hs pl pu (by rw [hlen]; exact hw) ?_ (by rw [hlen]; exact hz)
    rw [hlen]
    refine ⟨.ref s.heap.objs.size, _, I.laid (t' := s.toks) (o := .frz { cls := .type "tuple", data := .seq ((its.drop (HT.sIx xs.length 0 lo)).take (HT.sIx xs.length xs.length hi - HT.sIx xs.length 0 lo)).toArray } (.tup (cutV xs lo hi))) (fun b ob q => Heap.get?_push_of_some _ q) (Nat.le_refl _) ?_, rfl, q2 hw _ _ (I.hok.fresh (Nat.le_refl _)) rfl⟩
    exact ⟨Heap.get?_push_size _ rfl, Nat.le_trans (cutV_length xs lo hi) hz, _, (r.drop (HT.sIx xs.length 0 lo)).take (HT.sIx xs.length xs.length hi - HT.sIx xs.length 0 lo), IsTup.new _ _⟩
def gSlF : GS := fun x lo hi S => match x with
  | .p (.ftup l) => some (.p (.ftup (cut l lo hi)), S)
  | _ => none
theorem vr_slF {K : PySem.W.Frag} : VRS K gSlF rSlF := by
  intro W x v lo hi z S' Q s r1 e q
  unfold gSlF at e
  split at e
  · rename_i l
    cases e
    cases r1 with
    | ftup h1 h0 h2 =>
      have hl := rps_length h2
      refine ⟨_, _, rfl, h1, fun hw => ?_, fun hw p o hp ho => ?_⟩
      · rw [← hl] at hw
        rw [cut_whole hw] at q
        exact q W _ (To.refl s) (.ftup h1 h0 h2)
      · obtain ⟨t, r⟩ := new_ftup s hp ho (rps_of_ds (by rw [← map_cut]; exact rds_cut (rps_ds h2) lo hi))
        exact q _ _ t r
  · cases e
theorem de_slF {X : Cx} {e : Expr} {lo hi : Option Expr} {fe : FE} {fl fh : FO} {p2 pos : Pos} (he : DE X e fe) (hl : DO' X lo fl) (hh : DO' X hi fh) : DE X (.Subscript e (.Slice lo hi none p2) pos) (fSl gSlF fe fl fh) :=
  de_slice sl_tupF vr_slF he hl hh
@[simp] theorem gSlF_eq {l : List P} {lo hi : Option Int} {S : DH} : gSlF (.p (.ftup l)) lo hi S = some (.p (.ftup (cut l lo hi)), S) := rfl
end CK
/-! CkZg: tuples that hold lists of the own heap. -/
namespace CK
open PySem PySem.Spec PyProof.Rows L2

def gIxP : G2 := fun x y S => match x, y with
  | .ref i, .p (.int k) => match S[i]? with
    | some (.tpl l) => (atI l k).map fun d => (d, S)
    | _ => none
  | _, _ => none
theorem vr_ixP {K : PySem.W.Frag} : VR2 K gIxP (rIxT K) := by
  intro W x y v w z S' Q s r1 r2 e q
  unfold gIxP at e
  split at e
  · rename_i i k
    split at e
    · rename_i l el
      cases h : atI l k with
      | none => rw [h] at e; cases e
      | some d =>
        rw [h] at e; cases e
        obtain ⟨a, ea, rfl⟩ := r1
        obtain ⟨vs, h1, h2⟩ := s.obj i _ a el ea
        cases r2
        obtain ⟨u, h3, h4⟩ := atI_rel (R := RD K W) (rds_length h2) (fun j x e => rds_get h2 e) h
        exact ⟨a, vs, k, u, rfl, rfl, SqT.of h1, h3, q W u (To.refl s) h4⟩
    · cases e
  · cases e
def gIxA : G2 := alt2 gIxP gIx
theorem de_itemA {X : Cx} {a b : Expr} {fa fb : FE} {pos : Pos} (hu : X.A.units + 1 < cLine) (ha : DE X a fa) (hb : DE X b fb) (hs : PlainIx b) : DE X (.Subscript a b pos) (fBin gIxA fa fb) :=
  de_ix (IxR.or ix_tup (IxR.or ix_list (IxR.or ix_tup (IxR.or ix_str (ix_dict hu))))) (VR2.alt vr_ixP (VR2.alt vr_ixL (VR2.alt vr_ixT (VR2.alt vr_ixS vr_ixK)))) ha hb hs
/-- a tuple with things of the own heap -/
def fTupH (fs : FA) : FE := fun ds S => match fs ds S with
  | none => none
  | some (l, S1) => if l.length ≤ sizeLine then some (.ref S1.length, S1 ++ [.tpl l]) else none
theorem add_tpl {K : PySem.W.Frag} {W : Wd} {p : Addr} {l : List D} {vs : List V} (s : RS K W) (hp : W.H p = none) (r : RDs K W l vs) : To K W (W.S ++ [.tpl l]) (W.add p (.tup vs) (.tpl l)) ∧ RD K (W.add p (.tup vs) (.tpl l)) (.ref W.S.length) (.ref p) := by
  have x := Ext.add (u := .tup vs) (o := .tpl l) s hp
  refine ⟨⟨x, s.add hp ⟨vs, upd_same, r.ext x⟩ (RDs.below s r), rfl⟩, p, ?_, rfl⟩
  show (W.ι ++ [p])[W.S.length]? = some p
  rw [← s.len]; simp
theorem de_tupH {X : Cx} {es : List Expr} {fs : FA} {x1} {pos : Pos} (h : DA X es fs) : DE X (.Tuple es x1 pos) (fTupH fs) := PE.imp (pe_tup h) fun σ H Q ⟨W, ds, d, S', eH, s, re, e, q⟩ => by
  unfold fTupH at e
  split at e
  · cases e
  · rename_i l S1 e1
    split at e
    · rename_i hl
      cases e
      refine ⟨W, ds, l, _, eH, s, re, e1, fun W1 vs t1 r1 => ⟨by rw [← rds_length r1]; exact hl, fun p hp => ?_⟩⟩
      obtain ⟨t2, r2⟩ := add_tpl t1.s hp r1
      rw [t1.e] at t2 r2
      exact q _ _ (t1.after t2) r2
    · cases e
/-- len of it -/
def gLenP : GN := fun xs S => match xs with
  | [.ref i] => match S[i]? with
    | some (.tpl l) => some (.p (.int l.length), S)
    | _ => none
  | _ => none
def gLenA : GN := altN gLenP gLen
theorem vrn_lenP {K : PySem.W.Frag} : VRN K gLenP (fun xs H Q => ∃ a vs, xs = [.ref a] ∧ (SqL K H a vs ∨ SqT K H a vs) ∧ Q (.int vs.length) H) := by
  intro W xs vs z S' Q s r e q
  unfold gLenP at e
  split at e
  · rename_i i
    split at e
    · rename_i l el
      cases e
      obtain ⟨u, rfl, ru⟩ := rds1 r
      obtain ⟨a, ea, rfl⟩ := ru
      obtain ⟨ws, h1, h2⟩ := s.obj i _ a el ea
      refine ⟨a, ws, rfl, .inr (SqT.of h1), ?_⟩
      rw [← rds_length h2]
      exact q W _ (To.refl s) (.int _)
    · cases e
  · cases e
theorem f_lenA {X : Cx} : Fun1 X (.builtin "len") gLenA := by
  obtain ⟨r, h1, h2⟩ := f_len (X := X)
  refine ⟨_, CallR.or call_len_seq h1, ?_⟩
  intro W xs vs z S' Q s r e q
  unfold gLenA altN at e
  split at e
  · rename_i w e'
    cases e
    exact .inl (vrn_lenP W xs vs z S' Q s r e' q)
  · exact .inr (h2 W xs vs z S' Q s r e q)
section
variable {ds : DS} {S : DH} {i : Nat} {l : List D}
@[simp] theorem fTupH_eq {fs : FA} : fTupH fs ds S = match fs ds S with
  | none => none
  | some (l, S1) => if l.length ≤ sizeLine then some (.ref S1.length, S1 ++ [.tpl l]) else none := rfl
theorem gIxA_tpl {k : Int} (h : S[i]? = some (.tpl l)) : gIxA (.ref i) (.p (.int k)) S = (atI l k).map fun d => (d, S) := by
  have h1 : gIxP (.ref i) (.p (.int k)) S = (atI l k).map fun d => (d, S) := by
    show (match S[i]? with | some (.tpl l) => (atI l k).map fun d => (d, S) | _ => none) = _
    rw [h]
  show (match gIxP (.ref i) (.p (.int k)) S with | some r => some r | none => gIx (.ref i) (.p (.int k)) S) = _
  rw [h1]
  cases e : atI l k with
  | some d => rfl
  | none =>
    show gIx (.ref i) (.p (.int k)) S = none
    have a1 : gIxL (.ref i) (.p (.int k)) S = none := by
      have : lstD S (.ref i) = none := by
        show (match S[i]? with | some (.lst l) => some l | _ => none) = none
        rw [h]
      unfold gIxL
      rw [this]
    have a2 : gIxK (.ref i) (.p (.int k)) S = none := by
      have : dictD S (.ref i) = none := by
        show (match S[i]? with | some (.dK l) => _ | some (.kK l) => _ | some (.dT l) => _ | some (.kT l) => _ | _ => _) = none
        rw [h]
      unfold gIxK dget
      rw [this]
    show (match gIxL (.ref i) (.p (.int k)) S with | some r => some r | none => gIxK (.ref i) (.p (.int k)) S) = none
    rw [a1, a2]
theorem gIxA_p {x : P} {k : D} : gIxA (.p x) k S = gIx (.p x) k S := rfl
theorem gLenA_tpl (h : S[i]? = some (.tpl l)) : gLenA [.ref i] S = some (.p (.int l.length), S) := by
  have h1 : gLenP [.ref i] S = some (.p (.int l.length), S) := by
    show (match S[i]? with | some (.tpl l) => some (D.p (.int l.length), S) | _ => none) = _
    rw [h]
  show (match gLenP [.ref i] S with | some r => some r | none => gLen [.ref i] S) = _
  rw [h1]
theorem gLenA_p {x : P} : gLenA [.p x] S = gLen [.p x] S := rfl
theorem isi_tpl (h : S[i]? = some (.tpl l)) : gIsi [.ref i, .p (.ty "tuple")] S = some (.p (.bl true), S) := by
  have : tyD S (.ref i) = "tuple" := by show (match S[i]? with | some o => tyDo o | none => "?") = _; rw [h]; rfl
  exact gIsi_eq (by rw [this]; decide) (by rw [this]; decide)
end
/-! ### zip, run -/
def zipI (x y : D) (S1 : DH) : Option (List D × (DH → Prop)) := match tupD x, tupD y with
  | some l, some m => some (zipD l m, fun _ => True)
  | _, _ => match lstD S1 x, lstD S1 y with
    | some l, some m => match allP l, allP m with
      | some ps, some qs => some (zipD ps qs, fun S => chkD S1 x S ∧ chkD S1 y S)
      | _, _ => none
    | _, _ => none
def zipL (S1 : DH) : List D → Option (List D × (DH → Prop) × DH)
  | [x, y] => (zipI x y S1).map fun z => (z.1, z.2, S1)
  | _ => none
theorem fZip_def {fs : FA} {ds : DS} {S : DH} : fZip fs ds S = match fs ds S with
  | some (l, S1) => zipL S1 l
  | none => none := by
  unfold fZip zipL zipI
  cases fs ds S with
  | none => rfl
  | some r =>
    obtain ⟨l, S1⟩ := r
    match l with
    | [] => rfl
    | [x] => rfl
    | [x, y] =>
      dsimp only
      cases tupD x <;> cases tupD y <;> try rfl
      all_goals
        dsimp only
        cases lstD S1 x <;> cases lstD S1 y <;> try rfl
        rename_i l m
        dsimp only
        cases allP l <;> cases allP m <;> rfl
    | x :: y :: z :: r => rfl
@[simp ↓] theorem ok_zip {fs : FA} {ds : DS} {S : DH} {Q : List D → (DH → Prop) → DH → Prop} : OkI (fZip fs ds S) Q = Ok (fs ds S) fun l S1 => OkI (zipL S1 l) Q := by
  rw [fZip_def]
  cases fs ds S with
  | none => simp
  | some p => obtain ⟨l, T⟩ := p; simp
@[simp] theorem zipL_2 {x y : D} {S1 : DH} : zipL S1 [x, y] = (zipI x y S1).map fun z => (z.1, z.2, S1) := rfl
@[simp] theorem zipI_lst {l m : List P} {S1 : DH} : zipI (.p (.lst l)) (.p (.lst m)) S1 = some (zipD l m, fun S => chkD S1 (.p (.lst l)) S ∧ chkD S1 (.p (.lst m)) S) := by
  simp [zipI, lstD, tupD]
end CK
/-! CkZh: == of own lists that hold own lists. -/
namespace CK
open PySem PySem.Spec PyProof.Rows L2

/-- a datum, through the own heap -/
def toPyN (S : DH) : Nat → D → Option PyData
  | _, .p x => toPy x
  | 0, .ref _ => none
  | f + 1, .ref i => match S[i]? with
    | some (.lst l) => (mapO (toPyN S f) l).map .list
    | some (.tpl l) => (mapO (toPyN S f) l).map .tuple
    | _ => none
theorem mapO_dp {K : PySem.W.Frag} {W : Wd} {h : D → Option PyData} (hh : ∀ d v x, RD K W d v → h d = some x → Dp K W.H v x) : ∀ {l : List D} {vs : List V} {ps : List PyData}, mapO h l = some ps → RDs K W l vs → DpAll K W.H vs ps
  | [], _, _, e, .nil => by cases e; exact .nil
  | d :: r, _, _, e, .cons a t => by
    unfold mapO at e
    split at e
    · cases e
    · rename_i x e1
      split at e
      · cases e
      · rename_i l e2
        cases e
        exact .cons (hh _ _ _ a e1) (mapO_dp hh e2 t)
theorem toPyN_ok {K : PySem.W.Frag} {W : Wd} (s : RS K W) : ∀ (f : Nat) (x : D) (v : V) (d : PyData), RD K W x v → toPyN W.S f x = some d → Dp K W.H v d
  | 0, .p x, v, d, r, e => toPy_ok r e
  | _ + 1, .p x, v, d, r, e => toPy_ok r e
  | 0, .ref i, v, d, r, e => by cases e
  | f + 1, .ref i, v, d, ⟨a, ea, hv⟩, e => by
    subst hv
    have e : (match W.S[i]? with
      | some (.lst l) => (mapO (toPyN W.S f) l).map PyData.list
      | some (.tpl l) => (mapO (toPyN W.S f) l).map PyData.tuple
      | _ => none) = some d := e
    split at e
    · rename_i l el
      obtain ⟨vs, h1, h2⟩ := s.obj i _ a el ea
      cases q : mapO (toPyN W.S f) l with
      | none => rw [q] at e; cases e
      | some ds =>
        rw [q] at e; cases e
        exact .lst (SqL.of h1) (mapO_dp (toPyN_ok s f) q h2)
    · rename_i l el
      obtain ⟨vs, h1, h2⟩ := s.obj i _ a el ea
      cases q : mapO (toPyN W.S f) l with
      | none => rw [q] at e; cases e
      | some ds =>
        rw [q] at e; cases e
        exact .tup (SqT.of h1) (mapO_dp (toPyN_ok s f) q h2)
    · cases e
def gEqN (neg : Bool) : G2 := fun x y S => match toPyN S 4 x, toPyN S 4 y with
  | some d, some e => if (SeqAt.shaped d && SeqAt.shaped e) = true then some (.p (.bl (if neg then !PyData.eqv d e else PyData.eqv d e)), S) else none
  | _, _ => none
theorem vr_eqN {K : PySem.W.Frag} : VR2 K (gEqN false) (rEqD K) := by
  intro W x y v w z S' Q s r1 r2 e q
  unfold gEqN at e
  split at e
  · rename_i d d' e1 e2
    split at e
    · rename_i hs
      cases e
      rw [Bool.and_eq_true] at hs
      exact ⟨d, d', toPyN_ok s _ _ _ _ r1 e1, toPyN_ok s _ _ _ _ r2 e2, hs.1, hs.2, q W _ (To.refl s) (.bl _)⟩
    · cases e
  · cases e
theorem vr_neN {K : PySem.W.Frag} : VR2 K (gEqN true) (rNeD K) := by
  intro W x y v w z S' Q s r1 r2 e q
  unfold gEqN at e
  split at e
  · rename_i d d' e1 e2
    split at e
    · rename_i hs
      cases e
      rw [Bool.and_eq_true] at hs
      exact ⟨d, d', toPyN_ok s _ _ _ _ r1 e1, toPyN_ok s _ _ _ _ r2 e2, hs.1, hs.2, q W _ (To.refl s) (.bl _)⟩
    · cases e
  · cases e
theorem c_eqN {X : Cx} (hu : X.A.units + 64 < cLine) : Cmp X .Eq (gEqN false) := ⟨_, op_eqD hu, vr_eqN⟩
theorem c_neN {X : Cx} (hu : X.A.units + 64 < cLine) : Cmp X .NotEq (gEqN true) := ⟨_, op_neD hu, vr_neN⟩
end CK
/-! CkZi: defs that call themselves; max with a default. -/
namespace CK
open PySem PySem.Spec PyProof.Rows L2

noncomputable def gNone : GN := fun _ _ => none
theorem dcs_none {X : Cx} {sts : List Stmt} : DCs X sts (fun _ _ => none) := ⟨fun pins s σ H E I h => by
  obtain ⟨W, ds, r, S', _, _, _, e, _⟩ := h
  cases e⟩
section
variable {P : Program} {w : World} {K : PySem.W.Frag} {mg : Str → Option Value} {base : Heap}
theorem callee_none {x qual : Str} {st : Stmt} {f : Addr} {fd : FuncData} {N ps : List Str} {k n : Nat} (F : Fun K x qual st f fd) (S : FnScope N ps (defScope st)) (hn : ps.length = n) (hm : mg x = some (.ref f)) (hb : L2.Binds K fd ps []) :
    Callee P w K mg base (k + 1) x n gNone := by
  refine ⟨f, fd, ps, hn, hm, F.kp, hb, F.ok S (fun vs H Q E h => by rw [hn]; exact h.1) fun cdv A outer s H vs Q E hr h => ⟨_, dcs_none, ?_⟩⟩
  obtain ⟨hl, W, xs, d, S', eH, rs, rd, e, q⟩ := h
  cases e
end
/-! ### max(xs, default=d) -/
def rMaxDef (K : PySem.W.Frag) : List V → List V → Hp → VK → Prop := fun vs zs H Q => ∃ (a : Addr) (ns : List Int) (d : Int), vs = [V.ref a] ∧ zs = [V.int d] ∧ SqL K H a (ns.map V.int) ∧ (ns = [] → Q (.int d) H) ∧ (∀ n ms, ns = n :: ms → Q (.int (ms.foldl max n)) H)
theorem alikeAll_ints (ns : List Int) : PySem.W.AlikeAll (ns.map PyData.int) := by
  refine ⟨fun x hx y hy => ?_, fun x hx => ?_⟩
  · obtain ⟨i, _, rfl⟩ := List.mem_map.mp hx
    obtain ⟨j, _, rfl⟩ := List.mem_map.mp hy
    rfl
  · obtain ⟨i, _, rfl⟩ := List.mem_map.mp hx
    exact fun z => by cases z
theorem depth_ints : ∀ ns : List Int, PyData.depthAll (ns.map PyData.int) = 0
  | [] => rfl
  | n :: ns => by
    rw [List.map_cons]
    simp [PyData.depthAll, PyData.depth, depth_ints ns]
theorem reads_ints (h : Heap) : ∀ {vs : List Value} {xs : List Int}, IntsAre vs xs → ReadsAll h vs (xs.map PyData.int) []
  | _, _, .nil => .nil
  | _, _, .cons n t r => .cons (.int n t) (reads_ints h r)
theorem cr_maxDef {X : Cx} (hc : X.calm = true) (hu : X.A.units + 1 < cLine) : CallRK X (.builtin "max") [("default" : Str)] (rMaxDef X.K) := by
  intro pins s σ H vs zs us ws Q I r1 r2 h
  obtain ⟨a, ns, d, rfl, rfl, hs, q0, q1⟩ := h
  obtain ⟨its, rv, hl, _⟩ := I.list hs
  rw [Vals.ref1 r1]
  obtain ⟨u, rfl, ru⟩ := vals1 r2
  have rd := reads_ints s.heap rv.ints
  refine PySem.W.max_list_default (I.ok.hd hc) hl.isList rd (alikeAll_ints ns) (by rw [depth_ints]; omega) (fun e h' tk hk => ?_) fun y ys i v h' tk bs e hv hr hk => ?_
  · exact ⟨_, H, I.kept hk, ru, q0 (List.map_eq_nil_iff.mp e)⟩
  · cases ns with
    | nil => cases e
    | cons n ms =>
      cases e
      rw [PySem.W.maxD_ints] at hr
      cases hr
      exact ⟨.int _, H, I.kept hk, ⟨_, rfl⟩, q1 n ms rfl⟩
def gMaxD : D → D → DH → Option (D × DH) := fun x y S => match lstD S x, y with
  | some l, .p (.int d) => match allInt l with
    | some [] => some (.p (.int d), S)
    | some (n :: ns) => some (.p (.int (ns.foldl max n)), S)
    | none => none
  | _, _ => none
def fMaxD (fs : FA) (fd : FE) : FE := fun ds S => match fs ds S with
  | some ([x], S1) => match fd ds S1 with
    | none => none
    | some (y, S2) => gMaxD x y S2
  | _ => none
theorem de_maxD {X : Cx} {a d : Expr} {fs : FA} {fd : FE} {p pos kpos : Pos} {nm : Option Str} (hc : X.calm = true) (hu : X.A.units + 1 < cLine) (hg : Gl X "max") (hm : X.mg "max" = none) (ha : DA X [a] fs) (hd : DE X d fd)
    (he : backTo pos (starEach [a] X.env) = (false, eval a X.env) :: backTo pos (starEach [] X.env) := by rfl) (hpl : (backTo pos (starEach [a] X.env)).any (·.1) = false := by rfl)
    (hall : (backToKw pos (keywordEach [⟨nm, d, kpos⟩] X.env)).all (·.1.isSome) = true := by rfl) (hnone : (backToKw pos (keywordEach [⟨nm, d, kpos⟩] X.env)).any (·.1.isNone) = false := by rfl) (hks : (backToKw pos (keywordEach [⟨nm, d, kpos⟩] X.env)).filterMap (·.1) = [("default" : Str)] := by rfl) :
    DE X (.Call (.Name "max" p) [a] [⟨nm, d, kpos⟩] pos) (fMaxD fs fd) :=
  PE.imp (pe_callBK (cr_maxDef hc hu) hg hm (by decide +kernel) ha (pk_cons hd pk_nil) (by decide +kernel) (by decide +kernel) he hpl hall hnone hks) fun σ H Q ⟨W, ds, z, S', eH, s, re, e, q⟩ => by
    unfold fMaxD at e
    split at e
    · rename_i x S1 e1
      split at e
      · cases e
      · rename_i y S2 e2
        refine ⟨W, ds, [x], S1, eH, s, re, e1, fun W1 vs t1 r1 => ?_⟩
        refine ⟨W1, ds, y, S2, rfl, t1.s, re.ext t1.x, by rw [t1.e]; exact e2, fun W2 v t2 r2 => ?_⟩
        show rMaxDef X.K vs [v] W2.H Q
        obtain ⟨vx, rfl, rx⟩ := rds1 r1
        unfold gMaxD at e
        split at e
        · rename_i l dd hl
          cases r2
          rw [← t2.e] at hl
          obtain ⟨a, ws, rfl, h1, h2⟩ := lstD_ok t2.s (rx.ext t2.x) hl
          have tt := t1.after t2
          split at e
          · rename_i hn
            cases e
            rw [allInt_ok hn h2] at h1
            exact ⟨a, [], dd, rfl, rfl, h1, (fun _ => q W2 _ tt (.int _)), (fun n ms e => by cases e)⟩
          · rename_i n ns hn
            cases e
            rw [allInt_ok hn h2] at h1
            exact ⟨a, n :: ns, dd, rfl, rfl, h1, (fun e => by cases e), (fun n' ms e => by cases e; exact q W2 _ tt (.int _))⟩
          · cases e
        · cases e
    · cases e
@[simp ↓] theorem ok_maxD {fs : FA} {fd : FE} {ds : DS} {S : DH} {QD : D → DH → Prop} : Ok (fMaxD fs fd ds S) QD = Ok (fs ds S) fun l S1 => ∃ x, l = [x] ∧ Ok (fd ds S1) fun y S2 => Ok (gMaxD x y S2) QD := by
  unfold fMaxD
  cases h : fs ds S with
  | none => simp
  | some r =>
    obtain ⟨l, S1⟩ := r
    match l with
    | [] => simp
    | [x] =>
      simp only [ok_some]
      cases h2 : fd ds S1 with
      | none => simp
      | some r =>
        obtain ⟨y, S2⟩ := r
        simp
    | _ :: _ :: _ => simp
end CK
/-! CkZj: dicts whose keys are nested tuples (new, setdefault, len); len(set(ints)). -/
namespace CK
open PySem PySem.Spec PyProof.Rows L2

/-! ### keys as they stand -/
section
variable {X : Cx} {pins : List (Addr × Obj)} {σ : L2.St} {H : Hp} {s : Shared} {L : Addr → Prop}
theorem tup_is {a : Addr} {vs : List V} {ks : List NestedKey} (I : Inv X pins σ H s) (h : SqT X.K H a vs) (r : ∀ us, Vals vs us → NestedAll s.heap ks us) : NestedIs s.heap (.tup ks) (.ref a) := by
  obtain ⟨its, r1, ⟨o, ho, hc, n, hd⟩, _⟩ := I.tuple h
  exact .tup ho hc hd (by simpa using r its r1)
mutual
theorem nk_is (I : Inv X pins σ H s) : ∀ (x : P) (v : V) (u : Value) (k : NestedKey), RP X.K H L x v → RelV v u → nkP x = some k → NestedIs s.heap k u
  | .int i, _, u, k, .int _, ru, e => by
    cases e
    obtain ⟨t, rfl⟩ := ru
    exact .int i t
  | .str i, _, u, k, .str _, ru, e => by
    cases e
    obtain ⟨t, rfl⟩ := ru
    exact .text i t
  | .tup l, _, u, k, .tup h1 h2, ru, e => by
    cases ru
    obtain ⟨ks, e1, rfl⟩ := Option.map_eq_some_iff.mp e
    exact tup_is I (SqT.of h1) fun us r => nks_is I l _ us ks h2 r e1
  | .ktup l, _, u, k, .ktup h1 h2, ru, e => by
    cases ru
    obtain ⟨ks, e1, rfl⟩ := Option.map_eq_some_iff.mp e
    exact tup_is I h1.sq fun us r => nks_is I l _ us ks h2 r e1
  | .ftup l, _, u, k, .ftup h1 _ h2, ru, e => by
    cases ru
    obtain ⟨ks, e1, rfl⟩ := Option.map_eq_some_iff.mp e
    exact tup_is I h1.sq fun us r => nks_is I l _ us ks h2 r e1
  | .non, _, _, _, _, _, e => nomatch e
  | .bl _, _, _, _, _, _, e => nomatch e
  | .ty _, _, _, _, _, _, e => nomatch e
  | .lst _, _, _, _, _, _, e => nomatch e
  | .flst _, _, _, _, _, _, e => nomatch e
  | .dK _, _, _, _, _, _, e => nomatch e
  | .dT _, _, _, _, _, _, e => nomatch e
theorem nks_is (I : Inv X pins σ H s) : ∀ (xs : List P) (vs : List V) (us : List Value) (ks : List NestedKey), RPs X.K H L xs vs → Vals vs us → nkPs xs = some ks → NestedAll s.heap ks us
  | [], _, _, ks, .nil, .nil, e => by cases e; exact .nil
  | x :: l, _, _, ks, .cons h1 h2, .cons r1 r2, e => by
    unfold nkPs at e
    split at e
    · rename_i k ks' e1 e2
      cases e
      exact .cons (nk_is I x _ _ k h1 r1 e1) (nks_is I l _ _ ks' h2 r2 e2)
    · cases e
end
end

/-! ### the entries -/
def valN (xs : List NE) (k : NestedKey) : Option V := (xs.find? fun x => decide (x.1 = k)).map (·.2.2)
theorem nv_at {xs : List NE} {ys : List (NestedKey × Addr × Value)} (r : NV xs ys) (k : NestedKey) : (valN xs k = none ∧ atKey ys k = none) ∨ ∃ v p, valN xs k = some v ∧ atKey ys k = some p ∧ RelV v p.2 := by
  induction r with
  | nil => exact .inl ⟨rfl, rfl⟩
  | @cons x y xs ys h t ih =>
    obtain ⟨h1, h2, h3⟩ := h
    by_cases hk : x.1 = k
    · refine .inr ⟨x.2.2, y.2, by simp [valN, hk], by simp [atKey, ← h1, hk], h3⟩
    · have a1 : valN (x :: xs) k = valN xs k := by simp [valN, hk]
      have a2 : atKey (y :: ys) k = atKey ys k := by simp [atKey, ← h1, hk]
      rw [a1, a2]
      exact ih
theorem rn_at {K : PySem.W.Frag} {W : Wd} {l : List (NestedKey × D)} {xs : List NE} (r : RN K W l xs) (k : NestedKey) : (dval l k = none ∧ valN xs k = none) ∨ ∃ d v, dval l k = some d ∧ valN xs k = some v ∧ RD K W d v := by
  induction r with
  | nil => exact .inl ⟨rfl, rfl⟩
  | @cons x y xs ys h t ih =>
    obtain ⟨h1, h2, h3⟩ := h
    by_cases hk : x.1 = k
    · refine .inr ⟨x.2, y.2.2, by simp [dval, hk], by simp [valN, ← h1, hk], h3⟩
    · have a1 : dval (x :: xs) k = dval xs k := by simp [dval, hk]
      have a2 : valN (y :: ys) k = valN ys k := by simp [valN, ← h1, hk]
      rw [a1, a2]
      exact ih

theorem nv_mem {xs : List NE} {ys : List (NestedKey × Addr × Value)} (r : NV xs ys) : ∀ y ∈ ys, ∃ x ∈ xs, x.1 = y.1 ∧ x.2.1 = y.2.1 := by
  induction r with
  | nil => intro y hy; cases hy
  | @cons p q ps qs h t ih =>
    intro y hy
    rcases List.mem_cons.mp hy with rfl | hy
    · exact ⟨p, List.mem_cons_self, h.1, h.2.1⟩
    · obtain ⟨x, hx, h1⟩ := ih y hy
      exact ⟨x, List.mem_cons_of_mem _ hx, h1⟩
theorem paired_snoc {α β : Type} {F : α → β → Prop} {x : α} {y : β} (h : F x y) : ∀ {l : List α} {m : List β}, Paired F l m → Paired F (l ++ [x]) (m ++ [y])
  | _, _, .nil => .cons h .nil
  | _, _, .cons a t => .cons a (paired_snoc h t)
theorem paired_map {α β : Type} {F : α → β → Prop} {l : List α} {m : List β} (r : Paired F l m) : ∀ y ∈ m, ∃ x ∈ l, F x y := by
  induction r with
  | nil => intro y hy; cases hy
  | @cons p q ps qs h t ih =>
    intro y hy
    rcases List.mem_cons.mp hy with rfl | hy
    · exact ⟨p, List.mem_cons_self, h⟩
    · obtain ⟨x, hx, h1⟩ := ih y hy
      exact ⟨x, List.mem_cons_of_mem _ hx, h1⟩
/-! ### the rules -/
/-- the key k at b -/
def KeyN (X : Cx) (H : Hp) (k : NestedKey) (b : Addr) : Prop := k.depth ≤ 8 ∧ ∀ pins σ s, Inv X pins σ H s → NestedIs s.heap k (.ref b)
section
variable {X : Cx} {pins : List (Addr × Obj)} {σ : L2.St} {H : Hp} {s : Shared} {a b : Addr} {xs : List NE} {k : NestedKey}
theorem dn_of (I : Inv X pins σ H s) (e : H a = some (dNO X.w a xs)) (hk : ∀ x ∈ xs, KeyN X H x.1 x.2.1) : (a == sysModules) = false ∧ xs.length ≤ sizeLine ∧ ∃ ys, NV xs ys ∧ s.heap.DictOfH (nestedKind X.prog X.w) a ys := by
  obtain ⟨⟨hd, hz, ys, r, o, es, ep, ho, hc, hdt, he, hn⟩, _, _⟩ := I.hok a _ e
  refine ⟨hd, hz, ys, r, o, es, ep, ho, hc, hdt, he, fun y hy => ?_, hn⟩
  obtain ⟨x, hx, e1, e2⟩ := nv_mem r y hy
  obtain ⟨h1, h2⟩ := hk x hx
  rw [← e1, ← e2]
  exact ⟨h2 pins σ s I, h1⟩
theorem dn_new {P : Program} {w : World} {H' : Hp} {h' : Heap} {ys : List (NestedKey × Addr × Value)} (hd : (a == sysModules) = false) (hz : xs.length ≤ sizeLine) (r : NV xs ys) (m : h'.DictOfH (nestedKind P w) a ys) : ObjOk P w H' h' a (dNO w a xs) := by
  obtain ⟨o, es, ep, ho, hc, hdt, he, _, hn⟩ := m
  exact ⟨⟨hd, hz, ys, r, o, es, ep, ho, hc, hdt, he, hn⟩, ⟨o, ho⟩, fun h1 h2 ⟨hd, hz, ys, r, o, es, ep, ho, hc, hdt, he, hn⟩ k => ⟨hd, hz, ys, r, o, es, ep, k o ho, hc, hdt, he, hn⟩⟩
theorem dn_isD (I : Inv X pins σ H s) (e : H a = some (dNO X.w a xs)) : s.TypeIs (.ref a) "dict" ∧ (∀ b, Value.ref a = .ref b → ∃ ob, s.heap.get? b = some ob ∧ ob.dict = none) := by
  obtain ⟨⟨hd, hz, ys, r, o, es, ep, ho, hc, hdt, he, hn⟩, _, _⟩ := I.hok a _ e
  refine ⟨⟨o, ho, hc.1⟩, fun b eb => ?_⟩
  cases eb
  exact ⟨o, ho, hc.2.1⟩
theorem d_setN {z : V} {u : Value} {A : Around} {E : Value → Shared → Prop} {Q : Value → Shared → Prop} (hu : A.units + 64 < cLine) (I : Inv X pins σ H s) (e : H a = some (dNO X.w a xs)) (hks : ∀ x ∈ xs, KeyN X H x.1 x.2.1) (hk : KeyN X H k b) (rz : RelV z u) (hl : xs.length < sizeLine)
    (h1 : ∀ v, valN xs k = some v → ∀ (w' : Value) (s' : Shared), Inv X pins σ H s' → RelV v w' → Q w' s') (h2 : valN xs k = none → ∀ (w' : Value) (s' : Shared), Inv X pins σ (upd H a (dNO X.w a (xs ++ [(k, b, z)]))) s' → RelV z w' → Q w' s') :
    wpAny (model X.prog X.w) A (call (.builtin "dict.setdefault") [.ref a, .ref b, u]) Q E s := by
  obtain ⟨hd, hz, ys, r, m⟩ := dn_of I e hks
  have hyl : ys.length = xs.length := (Paired.length r).symm
  refine call_setdefault_heap (knd := nestedKind X.prog X.w) (k := k) (hsz := by rw [hyl]; exact hz) (show A.units + 1 + 8 < cLine by omega) ⟨hk.2 pins σ s I, hk.1⟩ hd m (fun p hp => ?_) fun hn h' m' hs => ?_
  · rcases nv_at r k with ⟨_, e2⟩ | ⟨v, p', e1, e2, e3⟩
    · rw [hp] at e2; cases e2
    · rw [hp] at e2; cases e2
      exact h1 v e1 _ _ (I.tok _) e3
  · rcases nv_at r k with ⟨e1, _⟩ | ⟨v, p', e1, e2, e3⟩
    · rw [storedH_new hn] at m'
      have he : ∃ q, h'.get? a = some q := let ⟨q, _, _, hq, _⟩ := m'; ⟨q, hq⟩
      have r' : NV (xs ++ [(k, b, z)]) (ys ++ [(k, b, u)]) := paired_snoc ⟨rfl, rfl, rz⟩ r
      exact h2 e1 _ _ (d_write (t' := s.toks + (nestedKind X.prog X.w).draws k) I (by rw [e]; exact True.intro) hs he (dn_new hd (by rw [List.length_append, List.length_singleton]; omega) r' m')) rz
    · rw [hn] at e2; cases e2
theorem call_len_rawd {A : Around} {E : Value → Shared → Prop} {es : Array DictEntry} {ep : Nat} {P : Program} {w : World} {Q : Value → Shared → Prop} (hd : (a == sysModules) = false) (hm : s.heap.DictRaw a es ep) (hfit : (es.size : Int) < 2 ^ 63)
    (h : Q (.int es.size (s.toks + 1)) { s with toks := s.toks + 1 + 1 }) : wpAny (model P w) A (call (.builtin "len") [.ref a]) Q E s := by
  refine Calls.call_function_entry kind_len plain_len entry_len (args_len1 _) ?_
  unfold Builtin.«len»
  refine wpAny_bind (m := oneArg "len" _) (wpAny_pure ?_)
  refine wpAny_bind (m := callSpecial? (.ref a) (Str.ofString "__len__")) (wpAny_callSpecial?_slot (name := Str.ofString "__len__") hm.typeIs F.slot_dict_len
    (call_len_raw hd hm ?_))
  refine wpAny_bind (wpAny_holding (wpAny_pure ?_))
  refine wpAny_bind (wpAny_letGo ?_)
  show wpAny _ _ (if ((es.size : Nat) : Int) < 0 then _ else _) _ _ _
  rw [if_neg (by omega)]
  show wpAny _ _ (if ((es.size : Nat) : Int) ≥ 2 ^ 63 then _ else _) _ _ _
  rw [if_neg (by omega)]
  exact wpAny_bind (wpAny_mkInt (wpAny_pure ⟨_, rfl, h⟩))
/-- len(d) -/
def rLenN (w : World) : List V → Hp → VK → Prop := fun vs H Q => ∃ (a : Addr) (xs : List NE), vs = [V.ref a] ∧ H a = some (dNO w a xs) ∧ Q (.int xs.length) H
theorem cr_lenN : CallR X (.builtin "len") (rLenN X.w) := by
  intro pins s σ H xs us Q I r h
  obtain ⟨a, es, rfl, e, q⟩ := h
  obtain ⟨u, rfl, ru⟩ := vals1 r
  cases ru
  obtain ⟨⟨hd, hz, ys, r2, o, en, ep, ho, hc, hdt, he, hn⟩, _, _⟩ := I.hok a _ e
  have hl : en.size = es.length := by
    have := congrArg List.length he
    rw [List.length_map, ← Paired.length r2] at this
    simpa using this
  refine call_len_rawd hd ⟨o, ho, hc, hdt⟩ (by rw [hl]; rw [sizeLine_eq] at hz; omega) ?_
  rw [hl]
  exact ⟨.int es.length, H, I.tok _, ⟨_, rfl⟩, q⟩
/-- {} -/
def tNewN (w : World) : TE := fun σ H Q => ∀ p, H p = none → Q (.ref p) (upd H p (dNO w p []))
theorem pe_newN {pos : Pos} : PE X (.Dict [] [] pos) (tNewN X.w) := ⟨fun pins s σ H Q I h => by
  refine wpAny_Dict_empty ⟨.ref s.heap.objs.size, _, I.laid (a := s.heap.objs.size) (o := dNO X.w s.heap.objs.size []) (t' := s.toks) (fun _ _ q => Heap.get?_push_of_some _ q) (Nat.le_refl _) ?_, rfl, h _ (I.hok.fresh (Nat.le_refl _))⟩
  obtain ⟨_, hd, _⟩ := (dk_empty (P := X.prog) (w := X.w) (H := H) s.heap I.big)
  exact dn_new (P := X.prog) hd (Nat.zero_le _) .nil (Heap.DictOfH.new s.heap)⟩
/-- d.setdefault(k, z) -/
def tSetN (X : Cx) (td ty tx : TE) : TE := fun σ H Q => td σ H fun x H1 => ∃ a, x = .ref a ∧ (∃ xs, H1 a = some (dNO X.w a xs)) ∧ ty σ H1 fun y H2 => tx σ H2 fun z H3 => ∃ (xs : List NE) (k : NestedKey) (b : Addr), H3 a = some (dNO X.w a xs) ∧ y = .ref b ∧ xs.length < sizeLine ∧
  (∀ x ∈ xs, KeyN X H3 x.1 x.2.1) ∧ KeyN X H3 k b ∧ (∀ v, valN xs k = some v → Q v H3) ∧ (valN xs k = none → Q z (upd H3 a (dNO X.w a (xs ++ [(k, b, z)]))))
theorem pe_setN {o e f : Expr} {td ty tx : TE} {apos cpos : Pos} (hu : X.A.units + 64 < cLine) (ho : PE X o td) (he : PE X e ty) (hf : PE X f tx) (m : M2 X o "setdefault" apos e f cpos) : PE X (.Call (.Attribute o "setdefault" apos) [e, f] [] cpos) (tSetN X td ty tx) := by
  refine ⟨fun pins s σ H Q I h => ?_⟩
  refine wpAny_Call_method m.base m.few m.line PySem.F.plainAttrs_dict PySem.F.slot_dict_setdefault PySem.F.type_dict_setdefault (thn (ho.run pins s σ H _ I h) fun u s1 ⟨x, H1, I1, rx, a, ex, ⟨xs0, d⟩, q1⟩ => ?_)
  subst ex
  obtain rfl : u = Value.ref a := rx
  obtain ⟨t1, t2⟩ := dn_isD I1 d
  refine ⟨t1, t2, ?_⟩
  rw [m.trees]
  refine Calls.callWith_builtin rfl (Calls.evalArgs_plain (Calls.spliced_cons (thn (he.run pins s1 σ H1 _ I1 q1) fun iv s2 ⟨y, H2, I2, ry, q2⟩ =>
    Calls.spliced_cons (thn (hf.run pins s2 σ H2 _ I2 q2) fun fv s3 ⟨z, H3, I3, rz, xs, k, b, ea, ey, hl, hks, hk, q3, q4⟩ => Calls.spliced_nil ?_))))
  subst ey
  cases ry
  exact d_setN hu I3 ea hks hk rz hl (fun v hv w' s4 I4 rw' => ⟨v, _, I4, rw', q3 v hv⟩) fun hn w' s4 I4 rw' => ⟨z, _, I4, rw', q4 hn⟩
end
/-! ### over the own data -/
noncomputable section
open Classical in
def dNat (w : World) (S : DH) (i : Nat) : Option (List (NestedKey × D)) := match S[i]? with
  | some (.dN w' l) => if w' = w then some l else none
  | _ => none
theorem dNat_some {w : World} {S : DH} {i : Nat} {l : List (NestedKey × D)} (h : dNat w S i = some l) : S[i]? = some (.dN w l) := by
  unfold dNat at h
  split at h
  · rename_i w' l' e
    split at h
    · rename_i hw
      cases h
      rw [e, hw]
    · cases h
  · cases h
theorem dNat_of {w : World} {S : DH} {i : Nat} {l : List (NestedKey × D)} (h : S[i]? = some (.dN w l)) : dNat w S i = some l := by
  unfold dNat
  rw [h]
  simp
/-- a key that is a tuple -/
def nkT : P → Option NestedKey
  | .tup l => nkP (.tup l)
  | .ktup l => nkP (.ktup l)
  | .ftup l => nkP (.ftup l)
  | _ => none
def fNewN (w : World) : FE := fun _ S => some (.ref S.length, S ++ [.dN w []])
def gLenN1 (w : World) : GN := fun xs S => match xs with
  | [.ref i] => match dNat w S i with
    | some l => some (.p (.int l.length), S)
    | none => none
  | _ => none
def gLenN (w : World) : GN := altN (gLenN1 w) gLen
def gSetN (w : World) (i : Nat) (kp : P) (y : D) (S : DH) : Option (D × DH) := match dNat w S i, nkT kp with
  | some l, some k => if k.depth ≤ 8 ∧ l.length < 16777216 then match dval l k with
    | some v => some (v, S)
    | none => some (y, S.set i (.dN w (l ++ [(k, y)])))
    else none
  | _, _ => none
def fSetN (w : World) (fo fk fd : FE) : FE := fun ds S => match fo ds S with
  | some (.ref i, S1) => match dNat w S1 i with
    | none => none
    | some _ => match fk ds S1 with
      | some (.p kp, S2) => match fd ds S2 with
        | none => none
        | some (y, S3) => gSetN w i kp y S3
      | _ => none
  | _ => none
end
section
variable {X : Cx}
theorem de_newN {pos : Pos} : DE X (.Dict [] [] pos) (fNewN X.w) := PE.imp pe_newN fun σ H Q ⟨W, ds, d, S', eH, s, re, e, q⟩ => by
  subst eH
  cases e
  intro p hp
  have x := Ext.add (u := dNO X.w p []) (o := .dN X.w []) s hp
  refine q (W.add p (dNO X.w p []) (.dN X.w [])) _ ⟨x, s.add hp ⟨[], upd_same, .nil⟩ rfl, rfl⟩ ⟨p, ?_, rfl⟩
  show (W.ι ++ [p])[W.S.length]? = some p
  rw [← s.len]; simp
theorem f_lenN : Fun1 X (.builtin "len") (gLenN X.w) := by
  obtain ⟨r, h1, h2⟩ := f_len (X := X)
  refine ⟨_, CallR.or cr_lenN h1, ?_⟩
  intro W xs vs z S' Q s r e q
  unfold gLenN altN at e
  split at e
  · rename_i w e'
    cases e
    unfold gLenN1 at e'
    split at e'
    · rename_i i
      split at e'
      · rename_i l el
        cases e'
        obtain ⟨u, rfl, ru⟩ := rds1 r
        obtain ⟨a, ea, rfl⟩ := ru
        obtain ⟨ws, g1, g2⟩ := s.obj i _ a (dNat_some el) ea
        refine .inl ⟨a, ws, rfl, g1, ?_⟩
        rw [← Paired.length g2]
        exact q W _ (To.refl s) (.int _)
      · cases e'
    · cases e'
  · exact .inr (h2 W xs vs z S' Q s r e q)
theorem key_of {W : Wd} {x : P} {k : NestedKey} {b : Addr} (hd : k.depth ≤ 8) (e : nkP x = some k) (r : RD X.K W (.p x) (.ref b)) : KeyN X W.H k b :=
  ⟨hd, fun pins σ s I => nk_is I x (.ref b) (.ref b) k r rfl e⟩
theorem nkT_nk {x : P} {k : NestedKey} (h : nkT x = some k) : nkP x = some k := by cases x <;> first | exact h | cases h
theorem nkT_ref {K : PySem.W.Frag} {W : Wd} {x : P} {k : NestedKey} {v : V} (h : nkT x = some k) (r : RD K W (.p x) v) : ∃ b, v = .ref b := by
  cases x with
  | tup l => cases r with | tup _ _ => exact ⟨_, rfl⟩
  | ktup l => cases r with | ktup _ _ => exact ⟨_, rfl⟩
  | ftup l => cases r with | ftup _ _ _ => exact ⟨_, rfl⟩
  | _ => cases h
theorem de_setN {o e f : Expr} {fo fk fd : FE} {apos cpos : Pos} (hu : X.A.units + 64 < cLine) (ho : DE X o fo) (he : DE X e fk) (hf : DE X f fd) (m : M2 X o "setdefault" apos e f cpos) : DE X (.Call (.Attribute o "setdefault" apos) [e, f] [] cpos) (fSetN X.w fo fk fd) :=
  PE.imp (pe_setN hu ho he hf m) fun σ H Q ⟨W, ds, d, S', eH, s, re, ev, q⟩ => by
    unfold fSetN at ev
    split at ev
    · rename_i i S1 e1
      split at ev
      · cases ev
      rename_i l0 e0
      split at ev
      · rename_i kp S2 e2
        split at ev
        · cases ev
        rename_i y S3 e3
        refine ⟨W, ds, .ref i, S1, eH, s, re, e1, fun W1 u t1 r1 => ?_⟩
        obtain ⟨a, ea, rfl⟩ := r1
        obtain ⟨ws0, g1, _⟩ := t1.s.obj i _ a (dNat_some (by rw [t1.e]; exact e0)) ea
        refine ⟨a, rfl, ⟨ws0, g1⟩, W1, ds, .p kp, S2, rfl, t1.s, re.ext t1.x, by rw [t1.e]; exact e2, fun W2 v2 t2 r2 => ⟨W2, ds, y, S3, rfl, t2.s, re.ext (t1.x.trans t2.x), by rw [t2.e]; exact e3, fun W3 v3 t3 r3 => ?_⟩⟩
        unfold gSetN at ev
        split at ev
        · rename_i l k el ek
          split at ev
          · rename_i hc
            obtain ⟨b, rfl⟩ := nkT_ref ek r2
            have el' := dNat_some el
            rw [← t3.e] at el'
            have ea3 : W3.ι[i]? = some a := pre_get (t2.x.trans t3.x).pre ea
            obtain ⟨xs, f1, f2⟩ := t3.s.obj i _ a el' ea3
            have hkb : KeyN X W3.H k b := key_of hc.1 (nkT_nk ek) (r2.ext t3.x)
            refine ⟨xs, k, b, f1, rfl, ?_, ?_, hkb, ?_, ?_⟩
            · rw [← Paired.length f2]; exact size_lt hc.2
            · intro x hx
              obtain ⟨p, hp, h1, ⟨h2, x0, h3, h4⟩, h5⟩ := paired_map f2 x hx
              rw [← h1]
              exact key_of h2 h3 h4
            · intro v hv
              rcases rn_at f2 k with ⟨_, z2⟩ | ⟨dd, vv, z1, z2, z3⟩
              · rw [hv] at z2; cases z2
              · rw [hv] at z2; cases z2
                rw [z1] at ev
                cases ev
                exact q W3 _ ((t1.after t2).after t3) z3
            · intro hn
              rcases rn_at f2 k with ⟨z1, _⟩ | ⟨dd, vv, z1, z2, z3⟩
              · rw [z1] at ev
                cases ev
                have xx := Ext.put (u := dNO X.w a (xs ++ [(k, b, v3)])) (o' := .dN X.w (l ++ [(k, d)])) t3.s ea3 el' rfl
                have hb : (DO.dN X.w (l ++ [(k, d)])).below W3.S.length = true := by
                  have h0 := t3.s.wf i _ el'
                  show ((l ++ [(k, d)]).all fun q => q.2.below W3.S.length) = true
                  rw [List.all_append, Bool.and_eq_true]
                  exact ⟨h0, by simp [RD.below t3.s r3]⟩
                have rn' : RN X.K (W3.put i a (dNO X.w a (xs ++ [(k, b, v3)])) (.dN X.w (l ++ [(k, d)]))) (l ++ [(k, d)]) (xs ++ [(k, b, v3)]) :=
                  paired_snoc ⟨rfl, ⟨hc.1, kp, nkT_nk ek, RD.ext (t3.x.trans xx) r2⟩, r3.ext xx⟩ (f2.mono fun _ _ => RD.ext xx)
                exact q _ _ (((t1.after t2).after t3).after ⟨xx, t3.s.put ea3 el' rfl ⟨_, upd_same, rn'⟩ hb, by rw [← t3.e]; rfl⟩) (r3.ext xx)
              · rw [hn] at z2; cases z2
          · cases ev
        · cases ev
      · cases ev
    · cases ev
end
/-! ### len(set(ints)) -/
def dd (ns : List Int) : List Int := ns.foldl step_dedup []
theorem firstMet_dd (ns : List Int) : firstMet (fun i => ns.getD i 0) ns.length = dd ns := by
  unfold firstMet dd
  congr 1
  apply List.ext_getElem
  · simp
  · intro i h1 h2
    simp [List.getD_eq_getElem?_getD, List.getElem?_eq_getElem h2]
def tLenSetD (K : PySem.W.Frag) (ta : TE) : TE := fun σ H Q => ta σ H fun x H1 => ∃ (l : Addr) (ns : List Int), x = V.ref l ∧ SqL K H1 l (ns.map V.int) ∧ ns.length ≤ 4000 ∧ Q (.int (dd ns).length) H1
theorem dd_len (ns : List Int) : (dd ns).length ≤ ns.length := by
  rw [← firstMet_dd]
  exact firstMet_length_le _ _
theorem pe_lenSetD {X : Cx} {a : Expr} {ta : TE} {p p2 q pos : Pos} (hc : X.calm = true) (hg : Gl X "len") (hm : X.mg "len" = none) (hg2 : Gl X "set") (hm2 : X.mg "set" = none) (ha : PE X a ta)
    (na : starEach [a] X.env = (false, eval a X.env) :: starEach [] X.env := by rfl) : PE X (.Call (.Name "len" p) [.Call (.Name "set" p2) [a] [] q] [] pos) (tLenSetD X.K ta) := by
  refine ⟨fun pins s σ H Q I h => ?_⟩
  refine Call_ (ld_blt I hg hm PySem.boot_len ?_)
  refine PyProof.Rows.callWith_builtin1 (PyProof.Rows.args_cons ?_ rfl) rfl rfl
  refine Call_ (ld_blt I hg2 hm2 PyProof.Rows.boot_set ?_)
  refine PyProof.Rows.callWith_type1 (PyProof.Rows.args_cons (thn (ha.run pins s σ H _ I h) fun v s1 ⟨x, H1, I1, r1, q1⟩ => PyProof.Rows.args_nil ?_) na) na rfl
  obtain ⟨l, ns, rfl, hq, h1, q1⟩ := q1
  cases r1
  obtain ⟨its, r, pl, hz⟩ := I1.list hq
  have hl : its.toArray.size = ns.length := by rw [List.size_toArray, ← r.length, List.length_map]
  refine call_set_list (I1.ok.hd hc) pl.isList (ns := ns) (by simpa using r.ints) (by unfold scanBound; omega) fun h' tk hS hk => ?_
  rw [hl, firstMet_dd] at hS
  have hdl := dd_len ns
  refine PyProof.Rows.args_nil ?_
  obtain ⟨o, es, ep, t, ho, hex, hd, _, _, _, hf, hn⟩ := hS
  have I2 : Inv X pins σ H1 { s1 with heap := h', toks := tk } := I1.kept fun b o e => hk b o (Heap.lt_size e) e
  refine call_len_set ho hex hd hf (by rw [hn] <;> omega) ⟨.int (dd ns).length, H1, I2.tok _, ⟨_, by rw [hn]⟩, q1⟩
def fLenSet (fe : FE) : FE := fun ds S => match fe ds S with
  | some (x, S1) => match lstD S1 x with
    | some l => match allInt l with
      | some ns => if ns.length ≤ 4000 then some (.p (.int (dd ns).length), S1) else none
      | none => none
    | none => none
  | none => none
theorem de_lenSet {X : Cx} {a : Expr} {fa : FE} {p p2 q pos : Pos} (hc : X.calm = true) (hg : Gl X "len") (hm : X.mg "len" = none) (hg2 : Gl X "set") (hm2 : X.mg "set" = none) (ha : DE X a fa)
    (na : starEach [a] X.env = (false, eval a X.env) :: starEach [] X.env := by rfl) : DE X (.Call (.Name "len" p) [.Call (.Name "set" p2) [a] [] q] [] pos) (fLenSet fa) :=
  PE.imp (pe_lenSetD hc hg hm hg2 hm2 ha na) fun σ H Q ⟨W, ds, d, S', eH, s, re, e, q⟩ => by
    unfold fLenSet at e
    split at e
    · rename_i x S1 e1
      split at e
      · rename_i l el
        split at e
        · rename_i ns en
          split at e
          · rename_i hl
            cases e
            refine ⟨W, ds, x, S', eH, s, re, e1, fun W1 v t1 r1 => ?_⟩
            rw [← t1.e] at el
            obtain ⟨a, ws, rfl, h1, h2⟩ := lstD_ok t1.s r1 el
            rw [allInt_ok en h2] at h1
            exact ⟨a, ns, rfl, h1, hl, q W1 _ t1 (.int _)⟩
          · cases e
        · cases e
      · cases e
    · cases e
/-! ### the calculus -/
section
variable {w : World} {ds : DS} {S : DH} {QD : D → DH → Prop}
@[simp ↓] theorem ok_newN : Ok (fNewN w ds S) QD = QD (.ref S.length) (S ++ [.dN w []]) := ok_some
@[simp ↓] theorem ok_setN {fo fk fd : FE} : Ok (fSetN w fo fk fd ds S) QD = Ok (fo ds S) fun x S1 => ∃ i l0, x = .ref i ∧ dNat w S1 i = some l0 ∧ Ok (fk ds S1) fun k S2 => ∃ kp, k = .p kp ∧ Ok (fd ds S2) fun y S3 => Ok (gSetN w i kp y S3) QD := by
  unfold fSetN
  cases h : fo ds S with
  | none => simp
  | some r =>
    obtain ⟨x, S1⟩ := r
    cases x with
    | p x => simp
    | ref i =>
      dsimp only
      cases h0 : dNat w S1 i with
      | none => simp [h0]
      | some l0 =>
        dsimp only
        cases h2 : fk ds S1 with
        | none => simp [h0, h2]
        | some r =>
          obtain ⟨k, S2⟩ := r
          cases k with
          | ref j => simp [h0, h2]
          | p kp =>
            dsimp only
            cases h3 : fd ds S2 with
            | none => simp [h0, h2, h3]
            | some r =>
              obtain ⟨y, S3⟩ := r
              simp [h0, h2, h3]
@[simp ↓] theorem ok_lenSet {fe : FE} : Ok (fLenSet fe ds S) QD = Ok (fe ds S) fun x S1 => ∃ l ns, lstD S1 x = some l ∧ allInt l = some ns ∧ ns.length ≤ 4000 ∧ QD (.p (.int (dd ns).length)) S1 := by
  unfold fLenSet
  cases h : fe ds S with
  | none => simp
  | some r =>
    obtain ⟨x, S1⟩ := r
    dsimp only
    cases h1 : lstD S1 x with
    | none => simp [h1]
    | some l =>
      dsimp only
      cases h2 : allInt l with
      | none => simp [h1, h2]
      | some ns =>
        dsimp only
        split
        · rename_i hl; simp [h1, h2, hl]
        · rename_i hl; simp [h1, h2, hl]
theorem gLenN_dN {i : Nat} {l : List (NestedKey × D)} (h : S[i]? = some (.dN w l)) : gLenN w [.ref i] S = some (.p (.int l.length), S) := by
  have : gLenN1 w [.ref i] S = some (.p (.int l.length), S) := by
    show (match dNat w S i with | some l => some (D.p (.int l.length), S) | none => none) = _
    rw [dNat_of h]
  unfold gLenN altN
  rw [this]
theorem gSetN_old {i : Nat} {kp : P} {y v : D} {l : List (NestedKey × D)} {k : NestedKey} (h : S[i]? = some (.dN w l)) (hk : nkT kp = some k) (hd : k.depth ≤ 8) (hl : l.length < 16777216) (e : dval l k = some v) : gSetN w i kp y S = some (v, S) := by
  unfold gSetN
  rw [dNat_of h, hk]
  dsimp only
  rw [if_pos ⟨hd, hl⟩, e]
theorem gSetN_new {i : Nat} {kp : P} {y : D} {l : List (NestedKey × D)} {k : NestedKey} (h : S[i]? = some (.dN w l)) (hk : nkT kp = some k) (hd : k.depth ≤ 8) (hl : l.length < 16777216) (e : dval l k = none) : gSetN w i kp y S = some (y, S.set i (.dN w (l ++ [(k, y)]))) := by
  unfold gSetN
  rw [dNat_of h, hk]
  dsimp only
  rw [if_pos ⟨hd, hl⟩, e]
end
end CK
/-! CkZk: zip of a tuple and a list, in any mix. -/
namespace CK
open PySem PySem.Spec PyProof.Rows L2

def SqX (K : PySem.W.Frag) : Bool → Hp → Addr → List V → Prop
  | true => SqT K
  | false => SqL K
def IterX : Bool → Heap → Addr → Addr → Nat → Prop
  | true => Heap.IsTupleIter
  | false => Heap.IsListIter
def SeqX : Bool → Heap → Addr → Array Value → Prop
  | true => Heap.IsTuple
  | false => Heap.IsList
def iterO : Bool → Addr → Obj
  | true, l => { cls := .type "tuple_iterator", data := .fields #[.ref l, .int 0 0] }
  | false, l => { cls := .type "list_iterator", data := .fields #[.ref l, .int 0 0] }
theorem draws_x {prog : Program} {w : World} {A : Around} (hh : A.handled = none) (b : Bool) (it l : Addr) (hne : l ≠ it) (items : Array Value) :
    Draws prog w A it [it, l] items.size (fun i v => items[i]? = some v) (fun i h => IterX b h it l i ∧ SeqX b h l items) := by
  cases b with
  | true => exact Draws.tuple hh it l hne items
  | false => exact Draws.list hh it l hne items
theorem begins_x (b : Bool) (l : Addr) (items : Array Value) : Begins (.ref l) (iterO b l) fun h => SeqX b h l items := by
  cases b with
  | true => exact begins_tuple l items
  | false => exact begins_list l items
theorem iterO_iter (b : Bool) {h : Heap} {it l : Addr} (e : h.get? it = some (iterO b l)) : IterX b h it l 0 := by
  cases b with
  | true => exact ⟨_, e, rfl, rfl⟩
  | false => exact ⟨_, e, rfl, rfl⟩
section
variable {X : Cx} {pins : List (Addr × Obj)} {σ : L2.St} {H : Hp} {s : Shared} {a : Addr} {xs ys : List V}
theorem inv_x (b : Bool) (I : Inv X pins σ H s) (h : SqX X.K b H a xs) : ∃ its : List Value, Vals xs its ∧ SeqX b s.heap a its.toArray := by
  cases b with
  | true => obtain ⟨its, r, p, _⟩ := I.tuple h; exact ⟨its, r, p⟩
  | false => obtain ⟨its, r, p, _⟩ := I.list h; exact ⟨its, r, p.isList⟩
theorem inj_x (b : Bool) (I : Inv X pins σ H s) (h : SqX X.K b H a xs) (h' : SqX X.K b H a ys) : xs = ys := by
  cases b with
  | true => exact I.tuple_inj h h'
  | false => exact I.list_inj h h'
end
theorem seq_lt (b : Bool) {h : Heap} {a : Addr} {items : Array Value} (e : SeqX b h a items) : a < h.objs.size := by
  cases b with
  | true => obtain ⟨_, q, _⟩ := e; exact Heap.lt_size q
  | false => obtain ⟨_, q, _⟩ := e; exact Heap.lt_size q
theorem iter_lt (b : Bool) {h : Heap} {it a : Addr} {i : Nat} (e : IterX b h it a i) : it < h.objs.size := by
  cases b with
  | true => obtain ⟨_, q, _⟩ := e; exact Heap.lt_size q
  | false => obtain ⟨_, q, _⟩ := e; exact Heap.lt_size q
theorem iter_at (b : Bool) {h h' : Heap} {it a : Addr} {i : Nat} (e : IterX b h it a i) (k : ∀ o, h.get? it = some o → h'.get? it = some o) : IterX b h' it a i := by
  cases b with
  | true => exact Heap.IsTupleIter.at e k
  | false => exact Heap.IsListIter.at e k
theorem iter_obj (b : Bool) {h : Heap} {it a : Addr} {i : Nat} (e : IterX b h it a i) : ∃ o, h.get? it = some o ∧ ∀ v, o.data ≠ .cell v := by
  cases b with
  | true => obtain ⟨o, q, _, d⟩ := e; exact ⟨o, q, fun v z => by rw [d] at z; cases z⟩
  | false => obtain ⟨o, q, _, d⟩ := e; exact ⟨o, q, fun v z => by rw [d] at z; cases z⟩
def ItzX (K : PySem.W.Frag) (b1 b2 : Bool) (a b : Addr) : It :=
  ⟨fun i H => ∃ (xs ys : List V) (x y : V), SqX K b1 H a xs ∧ SqX K b2 H b ys ∧ xs[i]? = some x ∧ ys[i]? = some y,
    fun i H v H' => ∃ T x y, v = .ref T ∧ H T = none ∧ H' = upd H T (.tup [x, y]) ∧ (∀ xs, SqX K b1 H a xs → xs[i]? = some x) ∧ ∀ ys, SqX K b2 H b ys → ys[i]? = some y,
    fun i H => ∃ xs ys : List V, SqX K b1 H a xs ∧ SqX K b2 H b ys ∧ i ≤ xs.length ∧ i ≤ ys.length ∧ (i = xs.length ∨ i = ys.length)⟩
theorem zip_apart {z TI TO i1 i2 a b : Addr} (D : ZipApart z TI TO i1 i2 a b) : ZipSep2 z TI TO i1 i2 [i1, a] [i2, b] where
  TIz := D.TIz
  TOz := D.TOz
  TITO := D.TITO
  TIi1 := D.TIi1
  mem1 := by simp
  zf1 := by simp [D.i1z.symm, D.l1z.symm]
  Tf1 := by simp [D.TOi1, D.l1TO.symm]
  TIi2 := D.TIi2
  mem2 := by simp
  zf2 := by simp [D.i2z.symm, D.l2z.symm]
  Tf2 := by simp [D.TOi2, D.l2TO.symm]
  sep1_2 := by simp [D.i12, D.l2i1.symm]
  sep2_1 := by simp [D.i12.symm, D.l1i2.symm]
theorem turn_zipX {P : Program} {w : World} {K : PySem.W.Frag} {elts : List Expr} {kk : Nat} {tpos : Pos} (b1 b2 : Bool) {a b z TI TO i1 i2 : Addr} (D : ZipApart z TI TO i1 i2 a b) :
    Turn P w K (.Tuple elts kk tpos) (ItzX K b1 b2 a b) [z, TI, TO, i1, i2] z (fun i h => IsZip h z TI TO .none ∧ IsTupOf2 h TI (.ref i1) (.ref i2) ∧ (∃ x y, IsTupOf2 h TO x y) ∧ IterX b1 h i1 a i ∧ IterX b2 h i2 b i) where
  mem := by simp
  obj := fun i h st c hc => by
    obtain ⟨hz, hTI, ⟨x, y, hTO⟩, h1, h2⟩ := st
    have e' : c = z ∨ c = TI ∨ c = TO ∨ c = i1 ∨ c = i2 := by simpa using hc
    rcases e' with q | q | q | q | q
    · rw [q]; exact ⟨_, hz, fun v q => nomatch q⟩
    · rw [q]; exact ⟨_, hTI, fun v q => nomatch q⟩
    · rw [q]; exact ⟨_, hTO, fun v q => nomatch q⟩
    · rw [q]; exact iter_obj b1 h1
    · rw [q]; exact iter_obj b2 h2
  keep := fun i h h' st k => by
    obtain ⟨hz, hTI, ⟨x, y, hTO⟩, h1, h2⟩ := st
    exact ⟨k z (by simp) _ hz, k TI (by simp) _ hTI, ⟨x, y, k TO (by simp) _ hTO⟩, iter_at b1 h1 fun o q => k i1 (by simp) o q, iter_at b2 h2 fun o q => k i2 (by simp) o q⟩
  item := by
    intro X hP hw hK hc i pins s σ H E I hf st hg
    subst hP hw hK
    obtain ⟨hz, hTI, ⟨x0, y0, hTO⟩, h1, h2⟩ := st
    obtain ⟨xs, ys, x, y, hqx, hqy, hx, hy⟩ := hg
    obtain ⟨its, rv, p⟩ := inv_x b1 I hqx
    obtain ⟨its2, rv2, p2⟩ := inv_x b2 I hqy
    obtain ⟨u, hu, ru⟩ := rv.get hx
    obtain ⟨u2, hu2, ru2⟩ := rv2.get hy
    have hzl : z < s.heap.objs.size := Heap.lt_size hz
    have hh : X.A.in1.handled = none := I.ok.hd hc
    have hi1 : i < its.toArray.size := by have := get_lt hu; simpa using this
    have hi2 : i < its2.toArray.size := by have := get_lt hu2; simpa using this
    refine wpAny_pyNext_zipD2_item (zip_apart D) (draws_x hh b1 i1 a D.l1i1 its.toArray) (draws_x hh b2 i2 b D.l2i2 its2.toArray) hz hTI hTO ⟨h1, p⟩ ⟨h2, p2⟩ hi1 hi2 fun v1 v2 h' tk hv1 hv2 z' TO' h1' h2' hT hsz hk => ?_
    have ev1 : v1 = u := by
      rw [show its.toArray[i]? = some u by simpa using hu] at hv1
      cases hv1; rfl
    have ev2 : v2 = u2 := by
      rw [show its2.toArray[i]? = some u2 by simpa using hu2] at hv2
      cases hv2; rfl
    subst ev1 ev2
    refine ⟨_, rfl, wpAny_letOwnedTupleGo_zip (s := { s with heap := h', toks := tk }) z' fun h'' z'' sb => ?_⟩
    have hT2 : h''.get? s.heap.objs.size = some { cls := .type "tuple", data := .seq #[v1, v2] } := (sb.2 _ (Nat.ne_of_gt hzl)).trans hT
    have new : ObjOk X.prog X.w (upd H s.heap.objs.size (.tup [x, y])) h'' s.heap.objs.size (.tup [x, y]) :=
      ⟨by show 2 ≤ sizeLine; decide, [v1, v2], .cons ru (.cons ru2 .nil), ⟨_, hT2, rfl, _, rfl⟩⟩
    have I1 : Inv X pins σ (upd H s.heap.objs.size (.tup [x, y])) { s with heap := h'', toks := tk } :=
      I.turnedNew (t' := tk) (ch := [z, TI, TO, i1, i2]) (fun c o hb q => (sb.2 c (fun q' => hb (by simp [q']))).trans (hk c o (fun q' => hb (by simp [q'])) (fun q' => hb (by simp [q'])) (fun q' => hb (by simp [q'])) (fun q' => hb (by simp [q'])) q)) hf (Nat.le_refl _) new
    refine ⟨.ref s.heap.objs.size, _, I1, rfl, ⟨_, x, y, rfl, I.hok.fresh (Nat.le_refl _), rfl, fun l hl => by rw [inj_x b1 I hl hqx]; exact hx, fun l hl => by rw [inj_x b2 I hl hqy]; exact hy⟩, ⟨z'', ?_, ⟨v1, v2, ?_⟩, ?_, ?_⟩, fun c hcm => ?_⟩
    · exact (sb.2 _ D.TIz).trans (hk _ _ D.TIz D.TITO D.TIi1 D.TIi2 hTI)
    · exact (sb.2 _ D.TOz).trans TO'
    · exact iter_at b1 h1'.1 fun o q => (sb.2 _ D.i1z).trans q
    · exact iter_at b2 h2'.1 fun o q => (sb.2 _ D.i2z).trans q
    · have hlt : c < s.heap.objs.size := by
        have e' : c = z ∨ c = TI ∨ c = TO ∨ c = i1 ∨ c = i2 := by simpa using hcm
        rcases e' with q | q | q | q | q
        · rw [q]; exact hzl
        · rw [q]; exact Heap.lt_size hTI
        · rw [q]; exact Heap.lt_size hTO
        · rw [q]; exact iter_lt b1 h1
        · rw [q]; exact iter_lt b2 h2
      rw [upd_ne (Nat.ne_of_lt hlt)]
      exact (hf c hcm).1
  done := by
    intro X hP hw hK hc i pins s σ H E I hf st hg
    subst hP hw hK
    obtain ⟨hz, hTI, ⟨x0, y0, hTO⟩, h1, h2⟩ := st
    obtain ⟨xs, ys, hqx, hqy, e1, e2, hend⟩ := hg
    obtain ⟨its, rv, p⟩ := inv_x b1 I hqx
    obtain ⟨its2, rv2, p2⟩ := inv_x b2 I hqy
    have l1 := rv.length
    have l2 := rv2.length
    have hh : X.A.in1.handled = none := I.ok.hd hc
    exact wpAny_pyNext_zipD2_end (zip_apart D) (draws_x hh b1 i1 a D.l1i1 its.toArray) (draws_x hh b2 i2 b D.l2i2 its2.toArray) hz hTI hTO ⟨h1, p⟩ ⟨h2, p2⟩ (by simp; omega) (by simp; omega) (by simp; omega) fun h' tk hk => ⟨rfl, I.turnedL (t' := tk) (ch := [z, TI, TO, i1, i2]) (fun c o hb q =>
      hk c o (fun q' => hb (by simp [q'])) (fun q' => hb (by simp [q'])) (fun q' => hb (by simp [q'])) (fun q' => hb (by simp [q'])) q) hf⟩
  self := fun A i s Q E st h => wpAny_pyIter_zip st.1 h
def iZipX (K : PySem.W.Frag) (b1 b2 : Bool) (ta : TA) : TI := fun σ H R => ta σ H fun vs H1 => ∃ a b xs ys, vs = [.ref a, .ref b] ∧ SqX K b1 H1 a xs ∧ SqX K b2 H1 b ys ∧ R (ItzX K b1 b2 a b) H1
theorem pi_zipX {X : Cx} {e e2 : Expr} {ta : TA} {p pos tpos : Pos} {elts : List Expr} {kk : Nat} (b1 b2 : Bool) (hg : Gl X "zip") (hm : X.mg "zip" = none) (ha : PA X [e, e2] ta)
    (hs : starEach [e, e2] X.env = (false, eval e X.env) :: starEach [e2] X.env := by rfl) (hpl : (backTo pos (starEach [e2] X.env)).any (·.1) = false := by rfl) :
    PI X (.Tuple elts kk tpos) (.Call (.Name "zip" p) [e, e2] [] pos) (iZipX X.K b1 b2 ta) := by
  refine ⟨fun pins s σ H R I h => ?_⟩
  refine Call_ (ld_blt I hg hm PyProof.Rows.boot_zip (PyProof.Rows.callWith_type1 (thn (ha.run pos pins s σ H _ I h) fun us s1 ⟨vs, H1, I1, r1, q1⟩ => ?_) hs hpl))
  obtain ⟨a, b, xs, ys, ex, hqx, hqy, q⟩ := q1
  subst ex
  cases r1 with
  | cons r rr =>
    cases rr with
    | cons r' rr =>
      cases rr
      cases r
      cases r'
      obtain ⟨its, rv, p1⟩ := inv_x b1 I1 hqx
      obtain ⟨its2, rv2, p2⟩ := inv_x b2 I1 hqy
      refine zip_begins2 (begins_x b1 a its.toArray) (begins_x b2 b its2.toArray) p1 p2 fun h' hz hTI hTO h1 h2 hsz hk => wpAny_pyIter_zip hz ?_
      have I2 : Inv X pins σ H1 { s1 with heap := h' } := I1.kept (t' := s1.toks) hk
      refine ⟨s1.heap.objs.size + 4, [s1.heap.objs.size + 4, s1.heap.objs.size + 2, s1.heap.objs.size + 3, s1.heap.objs.size, s1.heap.objs.size + 1], _, _, H1, rfl, I2, turn_zipX b1 b2 (PySem.W.ktu_apart s1.heap.objs.size a b (seq_lt b1 p1) (seq_lt b2 p2)), ⟨hz, hTI, ⟨_, _, hTO⟩, iterO_iter b1 h1, iterO_iter b2 h2⟩, fun c hcm => ?_, q⟩
      have e' : c = s1.heap.objs.size + 4 ∨ c = s1.heap.objs.size + 2 ∨ c = s1.heap.objs.size + 3 ∨ c = s1.heap.objs.size ∨ c = s1.heap.objs.size + 1 := by simpa using hcm
      have hle : s1.heap.objs.size ≤ c := by
        rcases e' with z | z | z | z | z
        · rw [z]; exact Nat.le_add_right _ _
        · rw [z]; exact Nat.le_add_right _ _
        · rw [z]; exact Nat.le_add_right _ _
        · rw [z]; exact Nat.le_refl _
        · rw [z]; exact Nat.le_add_right _ _
      exact I1.fpOk hle (I1.hok.fresh hle)
def srcD : Bool → DH → D → Option (List P)
  | true, _, x => tupD x
  | false, S, x => (lstD S x).bind allP
def chkX : Bool → DH → D → DH → Prop
  | true, _, _, _ => True
  | false, S, x, S' => chkD S x S'
theorem srcD_ok (b : Bool) {K : PySem.W.Frag} {W : Wd} {d : D} {v : V} {ps : List P} (s : RS K W) (r : RD K W d v) (h : srcD b W.S d = some ps) : ∃ a vs, v = .ref a ∧ SqX K b W.H a vs ∧ RPs K W.H W.L ps vs := by
  cases b with
  | true => exact tupD_ok r h
  | false =>
    have h : (lstD W.S d).bind allP = some ps := h
    cases e : lstD W.S d with
    | none => rw [e] at h; cases h
    | some l =>
      rw [e] at h
      obtain ⟨a, vs, h1, h2, h3⟩ := lstD_ok s r e
      exact ⟨a, vs, h1, h2, allP_rel h h3⟩
theorem srcD_stay (b : Bool) {K : PySem.W.Frag} {W0 W : Wd} {d : D} {v : V} {ps : List P} (s : RS K W) (x : Ext W0 W) (r : RD K W0 d v) (h : srcD b W0.S d = some ps) (hc : chkX b W0.S d W.S) : ∃ a vs, v = .ref a ∧ SqX K b W.H a vs ∧ RPs K W.H W.L ps vs := by
  cases b with
  | true => exact tupD_ok (r.ext x) h
  | false =>
    have h : (lstD W0.S d).bind allP = some ps := h
    cases e : lstD W0.S d with
    | none => rw [e] at h; cases h
    | some l =>
      rw [e] at h
      obtain ⟨a, vs, h1, h2, h3⟩ := lstD_stay s x r e hc
      exact ⟨a, vs, h1, h2, allP_rel h h3⟩
/-- zip of two of which each is a tuple (true) or a list -/
def fZipX (b1 b2 : Bool) (fs : FA) : FI := fun ds S => match fs ds S with
  | some ([x, y], S1) => match srcD b1 S1 x, srcD b2 S1 y with
    | some l, some m => some (zipD l m, fun S => chkX b1 S1 x S ∧ chkX b2 S1 y S, S1)
    | _, _ => none
  | _ => none
theorem di_zipX {X : Cx} {e e2 : Expr} {fs : FA} {p pos tpos : Pos} {elts : List Expr} {kk : Nat} {b1 b2 : Bool} (hg : Gl X "zip") (hm : X.mg "zip" = none) (ha : DA X [e, e2] fs)
    (hs : starEach [e, e2] X.env = (false, eval e X.env) :: starEach [e2] X.env := by rfl) (hpl : (backTo pos (starEach [e2] X.env)).any (·.1) = false := by rfl) :
    DI X (.Tuple elts kk tpos) (.Call (.Name "zip" p) [e, e2] [] pos) (fZipX b1 b2 fs) := PI.imp (pi_zipX b1 b2 hg hm ha hs hpl) fun σ H R ⟨W, ds, its, chk, S', eH, s, re, e, q⟩ => by
  unfold fZipX at e
  split at e
  · rename_i x y S1 e1
    split at e
    · rename_i l m el em
      cases e
      refine ⟨W, ds, _, _, eH, s, re, e1, fun W1 vs t1 r1 => ?_⟩
      cases r1 with
      | cons rx t =>
        cases t with
        | cons ry t =>
          cases t
          obtain ⟨a, us, rfl, h1, h2⟩ := srcD_ok b1 t1.s rx (by rw [t1.e]; exact el)
          obtain ⟨b, ws, rfl, h3, h4⟩ := srcD_ok b2 t1.s ry (by rw [t1.e]; exact em)
          refine ⟨a, b, us, ws, rfl, h1, h3, q W1 _ t1 ⟨fun W2 i d x2 s2 hc e2 => ?_, fun W2 x2 s2 hc => ?_⟩⟩
          · obtain ⟨a', us', ea, k1, k2⟩ := srcD_stay b1 s2 x2 rx (by rw [t1.e]; exact el) (by rw [t1.e]; exact hc.1)
            obtain ⟨b', ws', eb, k3, k4⟩ := srcD_stay b2 s2 x2 ry (by rw [t1.e]; exact em) (by rw [t1.e]; exact hc.2)
            cases ea; cases eb
            obtain ⟨p, q', h5, h6, rfl⟩ := zipD_get e2
            obtain ⟨v, h7, h8⟩ := rps_get k2 h5
            obtain ⟨w, h9, h10⟩ := rps_get k4 h6
            refine ⟨⟨us', ws', v, w, k1, k3, h7, h9⟩, fun u H' hy => ?_⟩
            obtain ⟨T, x', y', rfl, hT, rfl, hx, hy⟩ := hy
            have := hx us' k1
            rw [h7] at this; cases this
            have := hy ws' k3
            rw [h9] at this; cases this
            exact pair_new s2 hT h8 h10
          · obtain ⟨a', us', ea, k1, k2⟩ := srcD_stay b1 s2 x2 rx (by rw [t1.e]; exact el) (by rw [t1.e]; exact hc.1)
            obtain ⟨b', ws', eb, k3, k4⟩ := srcD_stay b2 s2 x2 ry (by rw [t1.e]; exact em) (by rw [t1.e]; exact hc.2)
            cases ea; cases eb
            have g1 := rps_length k2
            have g2 := rps_length k4
            have g3 := zipD_length l m
            exact ⟨us', ws', k1, k3, by omega, by omega, by omega⟩
    · cases e
  · cases e
/-! ### run -/
def zipXL (b1 b2 : Bool) (S1 : DH) : List D → Option (List D × (DH → Prop) × DH)
  | [x, y] => match srcD b1 S1 x, srcD b2 S1 y with
    | some l, some m => some (zipD l m, (fun S => chkX b1 S1 x S ∧ chkX b2 S1 y S), S1)
    | _, _ => none
  | _ => none
theorem fZipX_def {b1 b2 : Bool} {fs : FA} {ds : DS} {S : DH} : fZipX b1 b2 fs ds S = match fs ds S with
  | some (l, S1) => zipXL b1 b2 S1 l
  | none => none := by
  unfold fZipX zipXL
  cases fs ds S with
  | none => rfl
  | some r =>
    obtain ⟨l, S1⟩ := r
    match l with
    | [] => rfl
    | [x] => rfl
    | [x, y] => rfl
    | x :: y :: z :: r => rfl
@[simp ↓] theorem ok_zipX {b1 b2 : Bool} {fs : FA} {ds : DS} {S : DH} {Q : List D → (DH → Prop) → DH → Prop} : OkI (fZipX b1 b2 fs ds S) Q = Ok (fs ds S) fun l S1 => OkI (zipXL b1 b2 S1 l) Q := by
  rw [fZipX_def]
  cases fs ds S with
  | none => simp
  | some p => obtain ⟨l, T⟩ := p; simp
@[simp] theorem zipXL_tl {l m : List P} {S1 : DH} : zipXL true false S1 [.p (.ftup l), .p (.lst m)] = some (zipD l m, (fun S => chkX true S1 (.p (.ftup l)) S ∧ chkX false S1 (.p (.lst m)) S), S1) := by
  simp [zipXL, srcD, tupD, lstD]
@[simp] theorem zipXL_lt {l m : List P} {S1 : DH} : zipXL false true S1 [.p (.lst l), .p (.ftup m)] = some (zipD l m, (fun S => chkX false S1 (.p (.lst l)) S ∧ chkX true S1 (.p (.ftup m)) S), S1) := by
  simp [zipXL, srcD, tupD, lstD]
theorem chkX_t {S1 S : DH} {x : D} : chkX true S1 x S := trivial
theorem chkX_l {S1 S : DH} {l : List P} : chkX false S1 (.p (.lst l)) S := trivial
end CK
/-! CkZl: str(n). -/
namespace CK
open PySem PySem.Spec PyProof.Rows L2

noncomputable def gStr : GN := fun xs S => match xs with
  | [.p (.int i)] => if inW i = true then some (.p (.str (Str.ofString (toString i))), S) else none
  | _ => none
theorem log_small {i : Int} (h : inW i = true) : i.natAbs.log2 < 1920 := by
  obtain ⟨h1, h2⟩ := inW_ok h
  by_cases h0 : i.natAbs = 0
  · rw [h0]; decide
  · rw [Nat.log2_lt h0]
    have h3 : i.natAbs ≤ 2 ^ 62 := by omega
    exact Nat.lt_of_le_of_lt h3 (Nat.pow_lt_pow_right (by decide) (by decide))
theorem f_str {X : Cx} : Fun1 X (.type "str") gStr := by
  refine ⟨_, call_str_int, ?_⟩
  intro W xs vs z S' Q s r e q
  unfold gStr at e
  split at e
  · rename_i i
    split at e
    · rename_i hi
      cases e
      cases r with
      | cons a t =>
        cases t
        cases a with
        | int _ => exact ⟨i, rfl, log_small hi, q W _ (To.refl s) (.str _)⟩
    · cases e
  · cases e
@[simp] theorem gStr_eq {i : Int} {S : DH} (h : inW i = true) : gStr [.p (.int i)] S = some (.p (.str (Str.ofString (toString i))), S) := by
  unfold gStr
  dsimp only
  rw [if_pos h]
end CK
set_option maxHeartbeats 4000000
/-! CkZm: sorted(set(texts)), sorted(d) of a dict whose keys are texts. -/
namespace CK
open PySem PySem.Spec PyProof.Rows L2

/-! ### the order of texts -/
def leS (a b : Str) : Bool := decide (a.cps.toList ≤ b.cps.toList)
theorem leS_trans (a b c : Str) (h : leS a b = true) (k : leS b c = true) : leS a c = true := by
  unfold leS at *
  rw [decide_eq_true_eq] at *
  exact Std.le_trans h k
theorem leS_total (a b : Str) : (leS a b || leS b a) = true := by
  unfold leS
  rw [Bool.or_eq_true, decide_eq_true_eq, decide_eq_true_eq]
  exact Std.le_total
theorem leS_anti (a b : Str) (h : leS a b = true) (k : leS b a = true) : a = b := by
  unfold leS at *
  rw [decide_eq_true_eq] at *
  have e := Std.le_antisymm h k
  cases a; cases b
  have e : _ = _ := Array.toList_inj.mp e
  simp at e
  rw [e]
theorem leS_le : PySem.W.dataLe false (fun b : Str => PyData.str b) = leS := by
  rw [PySem.W.dataLe_str fun b => b]; rfl
/-- each text once, sorted -/
def onceS : List Str → List Str
  | [] => []
  | x :: l => if x ∈ onceS l then onceS l else x :: onceS l
theorem onceS_mem (l : List Str) (x : Str) : x ∈ onceS l ↔ x ∈ l := by
  induction l with
  | nil => rfl
  | cons y l ih =>
    unfold onceS
    split
    · rename_i h
      rw [ih, List.mem_cons]
      refine ⟨.inr, ?_⟩
      rintro (rfl | h2)
      · exact (ih.mp h)
      · exact h2
    · rw [List.mem_cons, List.mem_cons, ih]
theorem onceS_nd (l : List Str) : (onceS l).Nodup := by
  induction l with
  | nil => exact .nil
  | cons y l ih =>
    unfold onceS
    split
    · exact ih
    · rename_i h
      exact List.nodup_cons.mpr ⟨h, ih⟩
theorem onceS_len (l : List Str) : (onceS l).length ≤ l.length := by
  induction l with
  | nil => exact Nat.le_refl _
  | cons y l ih =>
    unfold onceS
    split
    · rw [List.length_cons]; omega
    · rw [List.length_cons, List.length_cons]; omega
def sortS (l : List Str) : List Str := l.mergeSort leS
theorem sortS_pw (l : List Str) : (sortS l).Pairwise fun a b => leS a b = true := List.pairwise_mergeSort leS_trans leS_total l
theorem sortS_perm {l m : List Str} (h : l.Perm m) : sortS l = sortS m :=
  List.Perm.eq_of_pairwise (fun a b _ _ => leS_anti a b) (sortS_pw l) (sortS_pw m) ((List.mergeSort_perm l leS).trans (h.trans (List.mergeSort_perm m leS).symm))
theorem sortS_id {l : List Str} (h : l.Pairwise fun a b => leS a b = true) : sortS l = l := List.mergeSort_of_pairwise h
/-- what sorted(set(..)) gives: the rising list of the same texts -/
theorem sort_once {l r : List Str} (h : r.Pairwise fun a b => leS a b = true) (nd : r.Nodup) (m : ∀ x, x ∈ r ↔ x ∈ l) : sortS (onceS l) = r := by
  rw [← sortS_id h]
  exact sortS_perm ((List.perm_ext_iff_of_nodup (onceS_nd l) nd).mpr fun x => (onceS_mem l x).trans (m x).symm)

theorem strs_of_perm (vs : List Value) (ks : List (Str × Tok)) (pm : vs.Perm (ks.map fun q => Value.str q.1 q.2)) : ∃ ks' : List (Str × Tok), vs = ks'.map (fun q => Value.str q.1 q.2) ∧ ks'.Perm ks := by
  have hv : ∀ (vs : List Value), (∀ v ∈ vs, ∃ q : Str × Tok, v = Value.str q.1 q.2) → ∃ ks' : List (Str × Tok), vs = ks'.map (fun q => Value.str q.1 q.2) := by
    intro vs
    induction vs with
    | nil => intro _; exact ⟨[], rfl⟩
    | cons v vs ih =>
      intro hv
      obtain ⟨q, e⟩ := hv v List.mem_cons_self
      obtain ⟨ks', e'⟩ := ih fun u hu => hv u (List.mem_cons_of_mem _ hu)
      exact ⟨q :: ks', by rw [List.map_cons, ← e, ← e']⟩
  obtain ⟨ks', e'⟩ := hv vs fun v hv => by
    obtain ⟨q, _, e⟩ := List.mem_map.mp (pm.mem_iff.mp hv)
    exact ⟨q, e.symm⟩
  refine ⟨ks', e', ?_⟩
  rw [e'] at pm
  have := pm.map fun v : Value => (match v with | .str k t => (k, t) | _ => (Str.empty, 0) : Str × Tok)
  rw [List.map_map, List.map_map] at this
  have id1 : ∀ l : List (Str × Tok), l.map ((fun v : Value => (match v with | .str k t => (k, t) | _ => (Str.empty, 0) : Str × Tok)) ∘ fun q => Value.str q.1 q.2) = l := fun l => by
    conv => rhs; rw [← List.map_id l]
    rfl
  rw [id1, id1] at this
  exact this
/-! ### a set of texts -/
section
variable {P : Program} {w : World} {A : Around} {E : Value → Shared → Prop} {s : Shared}
open PySem.Froz in
/-- the set at a holds just the texts l -/
structure SetS (P : Program) (w : World) (h : Heap) (a : Addr) (D : SD) (l : List Str) : Prop where
  ob : h.get? a = some (sObj "set" D)
  tx : TxOk P w D l
  nd : l.Nodup
  vs : ∃ ks : List (Str × Tok), D.1.toList.map (·.2) = ks.map (fun q => Value.str q.1 q.2) ∧ (ks.map (·.1)).Perm l
  ri : Ris D.2.2.place.toList
  le : w.params.followText "set-order" = true ∨ D.2.2.led = true
open PySem.Froz in
theorem addTx_facts (h : Int) (v : Value) (D : SD) : (addTx h v D).1.toList.Perm (D.1.toList ++ [(h, v)]) ∧ (Ris D.2.2.place.toList → Ris (addTx h v D).2.2.place.toList) ∧ (addTx h v D).2.2.led = D.2.2.led := by
  obtain ⟨es, ep, t⟩ := D
  have pm := layNew_perm t es h v
  have hr := layNew_ris t es h v
  have hl := layNew_led t es h v
  rw [Array.toList_push] at pm
  show (tailTx ep (layNew t es h v).1 (if (layNew t es h v).2.1.plain = true then { (layNew t es h v).2.1 with plain := false } else (layNew t es h v).2.1) (layNew t es h v).2.2.1).1.toList.Perm (es.toList ++ [(h, v)]) ∧ _
  show _ ∧ (Ris t.place.toList → Ris (tailTx ep (layNew t es h v).1 (if (layNew t es h v).2.1.plain = true then { (layNew t es h v).2.1 with plain := false } else (layNew t es h v).2.1) (layNew t es h v).2.2.1).2.2.place.toList) ∧ (tailTx ep (layNew t es h v).1 (if (layNew t es h v).2.1.plain = true then { (layNew t es h v).2.1 with plain := false } else (layNew t es h v).2.1) (layNew t es h v).2.2.1).2.2.led = t.led
  generalize layNew t es h v = Z at pm hr hl ⊢
  obtain ⟨es1, t1, wd, gave⟩ := Z
  dsimp only at pm hr hl ⊢
  have hr2 : Ris t.place.toList → Ris (if t1.plain = true then { t1 with plain := false } else t1).place.toList := fun z => by
    split <;> exact hr z
  have hl2 : (if t1.plain = true then { t1 with plain := false } else t1).led = t.led := by
    split <;> exact hl
  generalize (if t1.plain = true then { t1 with plain := false } else t1) = t2 at hr2 hl2 ⊢
  unfold tailTx
  split
  · exact ⟨(relayAll_perm t2 es1 _).trans pm, fun _ => relayAll_ris t2 es1 _, (relayAll_led t2 es1 _).trans hl2⟩
  · exact ⟨pm, hr2, hl2⟩
open PySem.Froz in
theorem dup_x {a : Addr} {D : SD} {l : List Str} {k : Str} {u : Tok} {Q : Bool → Shared → Prop} (R : SetS P w s.heap a D l) (hk : k ∈ l) (hb : l.length < scanBound) (h : Q false s) : wpAny (model P w) A (setAddHashed a (.str k u) (hashStr w k)) Q E s := by
  obtain ⟨es, ep, t⟩ := D
  have hd : (sObj "set" (es, ep, t)).data = .set es ep t := rfl
  have hf : t.fits es.size = true := R.tx.fit
  have hel : ElemsOf (strKind P w) es.toList := R.tx.el
  have hsz : es.size = l.length := R.tx.sz
  have hkey : (strKind P w).is k (.str k u) = true := is_str k u
  obtain ⟨e, he, hq⟩ := (R.tx.mem k).mp hk
  unfold setAddHashed setAddHashedIn
  refine wpAny_holding (wpAny_bind (wpAny_setState_of R.ob hd hf ?_))
  dsimp only
  rw [byScan_of rfl (by omega) hel]
  simp only [↓reduceIte]
  unfold setAddByScan
  refine wpAny_bind ?_
  refine wpAny_bind (wpAny_rule ?_)
  refine wpAny_bind (wpAny_setScan_of (knd := strKind P w) (k := k) hkey R.ob hd hf hel ?_)
  cases hfi : List.findIdx? (fun e => (strKind P w).is k e.2) es.toList with
  | some j =>
    dsimp only
    exact wpAny_pure (wpAny_pure h)
  | none =>
    have c := List.findIdx?_eq_none_iff.mp hfi e he
    rw [hq] at c
    cases c
theorem same_get {h h' : Heap} {a b : Addr} (hs : Heap.SameBut a h h') (hb : b ≠ a) : h'.get? b = h.get? b := hs.2 b hb
open PySem.Froz in
/-- adding a text -/
theorem put_x {a : Addr} {D : SD} {l : List Str} {k : Str} {u : Tok} {Q : Bool → Shared → Prop} (R : SetS P w s.heap a D l) (hb : l.length + 1 < scanBound)
    (h : ∀ h' D' l' b, Heap.SameBut a s.heap h' → SetS P w h' a D' l' → (∀ x, x ∈ l' ↔ x ∈ l ∨ x = k) → l'.length ≤ l.length + 1 → Q b { s with heap := h' }) : wpAny (model P w) A (setAddHashed a (.str k u) (hashStr w k)) Q E s := by
  by_cases hk : k ∈ l
  · refine dup_x R hk (by omega) ?_
    exact h s.heap D l false (Heap.SameBut.refl a s.heap) R (fun x => ⟨.inl, fun z => z.elim id fun e => e ▸ hk⟩) (Nat.le_succ _)
  · refine add_x R.ob R.tx hk hb ?_
    obtain ⟨f1, f2, f3⟩ := addTx_facts (hashStr w k) (.str k u) D
    have hg : (s.heap.update a (fun _ => sObj "set" (addTx (hashStr w k) (.str k u) D))).get? a = some (sObj "set" (addTx (hashStr w k) (.str k u) D)) := get_upd _ R.ob rfl
    refine h _ (addTx (hashStr w k) (.str k u) D) (k :: l) true (Heap.SameBut.update s.heap a _) ⟨hg, add_ok u R.tx, List.nodup_cons.mpr ⟨hk, R.nd⟩, ?_, f2 R.ri, ?_⟩ (fun x => by rw [List.mem_cons]; exact Or.comm) (by simp)
    · obtain ⟨ks, e1, e2⟩ := R.vs
      have pm : ((addTx (hashStr w k) (.str k u) D).1.toList.map (·.2)).Perm ((ks ++ [(k, u)]).map fun q => Value.str q.1 q.2) := by
        have := f1.map (·.2)
        rw [List.map_append, e1] at this
        rw [List.map_append]
        exact this
      obtain ⟨ks', e3, p3⟩ := strs_of_perm _ _ pm
      refine ⟨ks', e3, ?_⟩
      have := p3.map (·.1)
      rw [List.map_append] at this
      exact this.trans ((List.perm_append_singleton _ _).trans (List.Perm.cons k e2))
    · exact R.le.imp id fun z => by rw [f3]; exact z
end

/-! ### set(xs) -/
section
variable {P : Program} {w : World} {A : Around}
open PySem.Froz in
theorem SetS.keep {h h' : Heap} {a : Addr} {D : SD} {l : List Str} (R : SetS P w h a D l) (k : ∀ o, h.get? a = some o → h'.get? a = some o) : SetS P w h' a D l := ⟨k _ R.ob, R.tx, R.nd, R.vs, R.ri, R.le⟩
open PySem.Froz in
theorem setS_update {I : Addr} {fp wr : List Addr} {G : Array GenState → Array GenState → Prop} {n : Nat} {Pv : Nat → Value → Prop} {St : Nat → Shared → Prop} {R : Result → Shared → Prop}
    (W : WalksS P w A.in1 I fp wr G n Pv St) (S : Addr) (hSf : S ∉ fp) (xs : List Str) (hn : n = xs.length) (hb : xs.length + 1 < scanBound) (hval : ∀ i v, Pv i v → ∃ k t, xs[i]? = some k ∧ v = .str k t) :
    ∀ (m i : Nat) (s : Shared), n - i = m → i ≤ n → St i s → (∃ D l, SetS P w s.heap S D l ∧ (∀ x, x ∈ l ↔ x ∈ xs.take i) ∧ l.length ≤ i) →
      (∀ s' D l, Moved (S :: wr) G s s' → SetS P w s'.heap S D l → (∀ x, x ∈ l ↔ x ∈ xs) → l.length ≤ n → R (.ok (.ret .none)) s') →
      codeAny (model P w) A (.builtin "set.update.loop" ⟨[.ref S, .ref I], []⟩) R s := by
  have hSw : S ∉ wr := fun h => hSf (W.sub _ h)
  have hsub : ∀ b ∈ wr, b ∈ S :: wr := fun b hb => List.mem_cons_of_mem _ hb
  intro m
  induction m with
  | zero =>
    intro i s hm hi hst ⟨D, l, hS, hx, hl⟩ hR
    have hin : i = n := by omega
    subst hin
    refine codeAny_builtin PyProof.Rows.F.entry_set_update_loop ?_
    rw [Around.under_plainId PyProof.Rows.F.plain_set_update_loop _]
    show wpAny _ A.in1 (pyNext (.ref I) >>= _) _ _ s
    refine wpAny_bind (W.done s _ _ hst fun s' hm => ?_)
    show wpAny _ A.in1 (ret Value.none) _ _ s'
    rw [List.take_of_length_le (by omega)] at hx
    exact wpAny_pure (hR s' D l (hm.mono hsub) (hS.keep fun o e => hm.heap S o hSw e) hx hl)
  | succ m ih =>
    intro i s hm' hi hst ⟨D, l, hS, hx, hl⟩ hR
    have hlt : i < n := by omega
    refine codeAny_builtin PyProof.Rows.F.entry_set_update_loop ?_
    rw [Around.under_plainId PyProof.Rows.F.plain_set_update_loop _]
    show wpAny _ A.in1 (pyNext (.ref I) >>= _) _ _ s
    refine wpAny_bind (W.item i s _ _ hlt hst fun v s' hP hst' hm => ?_)
    obtain ⟨z, t, hz, rfl⟩ := hval i v hP
    have hS' : SetS P w s'.heap S D l := hS.keep fun o e => hm.heap S o hSw e
    show wpAny _ A.in1 (holding [Value.str z t] (setAdd S (.str z t)) >>= _) _ _ s'
    refine wpAny_bind (wpAny_holding ?_)
    unfold setAdd
    refine wpAny_holding ?_
    refine wpAny_bind ((strKind P w).pyHash (k := z) (is_str _ _) ?_)
    refine put_x (s := { s' with toks := s'.toks + 1 }) hS' (by omega) fun h' D' l' b hsb hS2 hx2 hl2 => ?_
    have hx3 : ∀ x, x ∈ l' ↔ x ∈ xs.take (i + 1) := fun x => by
      rw [hx2, hx, List.take_add_one, hz]
      simp
    refine wpAny_pure ⟨plainId_quiet PyProof.Rows.F.plain_set_update_loop _, ih (i + 1) _ (by omega) hlt (W.frame _ s' _ _ hst' (Nat.le_succ _) fun b hb o e => ?_) ⟨D', l', hS2, hx3, by omega⟩ fun s'' D2 l2 hm2 hS3 hx4 hl4 => ?_⟩
    · rw [hsb.2 b (fun h : b = S => hSf (by rw [← h]; exact hb))]; exact e
    · refine hR s'' D2 l2 (Moved.trans W.gtrans ((hm.mono hsub).then_heap (Nat.le_succ _) fun b o hb e => ?_) hm2) hS3 hx4 hl4
      rw [hsb.2 b (fun h : b = S => hb (by rw [h]; exact List.mem_cons_self))]; exact e
theorem strs_get : ∀ {us : List Value} {xs : List Str}, StrsAre us xs → ∀ (i : Nat) (v : Value), us[i]? = some v → ∃ k t, xs[i]? = some k ∧ v = .str k t
  | _, _, .nil, i, v, h => by simp at h
  | _, _, .cons y t _, 0, v, h => by simp at h; exact ⟨y, t, by simp, h.symm⟩
  | _, _, .cons _ _ r, i + 1, v, h => by
    rw [List.getElem?_cons_succ] at h ⊢
    exact strs_get r i v h
open PySem.Froz in
theorem setS_new {h : Heap} {a : Addr} (ho : h.get? a = some { cls := .type "set", dict := none, data := .set #[] 0 (.fresh 0 0 (!w.params.followText "set-order")) }) : SetS P w h a (#[], 0, .fresh 0 0 (!w.params.followText "set-order")) [] where
  ob := ho
  tx := TxOk.nil rfl
  nd := .nil
  vs := ⟨[], rfl, .nil⟩
  ri := List.Pairwise.nil
  le := by
    show _ ∨ (!w.params.followText "set-order") = true
    cases w.params.followText "set-order"
    · exact .inr rfl
    · exact .inl rfl
end
section
variable {P : Program} {w : World} {A : Around} {E : Value → Shared → Prop} {s : Shared}
open PySem.Froz in
theorem setS_call {l : Addr} {items : Array Value} (xs : List Str) {Q : Value → Shared → Prop} (hh : A.handled = none) (hl : s.heap.IsList l items) (hit : StrsAre items.toList xs) (hb : xs.length + 1 < scanBound)
    (h : ∀ (h' : Heap) (tk : Nat) D ys, SetS P w h' s.heap.objs.size D ys → (∀ x, x ∈ ys ↔ x ∈ xs) → ys.length ≤ xs.length → (∀ b o, s.heap.get? b = some o → h'.get? b = some o) → Q (.ref s.heap.objs.size) { s with heap := h', toks := tk }) :
    wpAny (model P w) A (call (.type "set") [.ref l]) Q E s := by
  have hisz : items.size = xs.length := by rw [← Array.length_toList]; exact hit.length
  obtain ⟨c, tl, hmro⟩ := PySem.F.called_set.mro
  have hmade := PySem.F.called_set.made
  have hsub := PySem.F.called_set.sub
  refine wpAny_call (codeAny_of_tree ?_)
  show wpAny _ _ (callAny (.type "set") _) _ _ _
  refine wpAny_pure ⟨Code.quiet_builtin _ (by decide +kernel), codeAny_builtin PySem.F.entry_type_call ?_⟩
  rw [Around.under_plain (weight_type_call_type "set" [.ref l] []) rfl]
  have h1 := PySem.F.called_set.notType
  have h2 := PySem.F.called_set.canCreate
  have hct := PySem.F.typeCall_set_1 (.ref l)
  repeat (any_goals (first | assumption | wp_step))
  refine codeAny_mono (code_set_led1 (.ref l) (E := E) (Q₁ := fun obj s₁ => obj = .ref s.heap.objs.size ∧ s₁ = { s with heap := s.heap.push { cls := .type "set", dict := none, data := .set #[] 0 (.fresh 0 0 (!w.params.followText "set-order")) } }) ⟨rfl, rfl⟩) fun r s₁ hr => ?_
  cases r with
  | error e => exact hr
  | ok fl =>
    cases fl with
    | ret obj =>
      obtain ⟨rfl, rfl⟩ := hr
      have hS : (s.heap.push { cls := .type "set", dict := none, data := .set #[] 0 (.fresh 0 0 (!w.params.followText "set-order")) }).get? s.heap.objs.size = some { cls := .type "set", dict := none, data := .set #[] 0 (.fresh 0 0 (!w.params.followText "set-order")) } := Heap.get?_push_size _ rfl
      have hT : Shared.TypeIs { s with heap := s.heap.push { cls := .type "set", dict := none, data := .set #[] 0 (.fresh 0 0 (!w.params.followText "set-order")) } } (.ref s.heap.objs.size) "set" := ⟨_, hS, rfl⟩
      have hli := PySem.F.called_set.init.lookup
      have hbi := PySem.F.called_set.init.bind (.ref s.heap.objs.size)
      repeat (any_goals (first | assumption | wp_step))
      refine codeAny_mono (codeAny_call_builtin (R := wants (fun r s₂ => r = .none ∧ ∃ h' tk D ys, s₂ = { s with heap := h', toks := tk } ∧ SetS P w h' s.heap.objs.size D ys ∧ (∀ x, x ∈ ys ↔ x ∈ xs) ∧ ys.length ≤ xs.length ∧
          (∀ b o, s.heap.get? b = some o → h'.get? b = some o)) E) PySem.F.called_set.init.plain PySem.F.entry_set_init (check_set_init_1 hT ?_)) fun r₂ s₂ hr₂ => ?_
      · obtain ⟨ol, hol, hcl, nl, hdl⟩ := hl
        obtain ⟨ocls, odict, odata, oslots⟩ := ol
        simp only at hcl hdl
        subst hcl; subst hdl
        have hol' : (s.heap.push { cls := .type "set", dict := none, data := .set #[] 0 (.fresh 0 0 (!w.params.followText "set-order")) }).get? l = some { cls := .type "list", dict := odict, data := .seq items nl, slots := oslots } := Heap.get?_push_of_some _ hol
        have hsls := PySem.F.sub_list_set
        have hslf := PySem.F.sub_list_frozenset
        have hne : (Value.type "list" == Value.type "dict") = false := by decide
        have hl1 : (s.heap.push { cls := .type "set", dict := none, data := .set #[] 0 (.fresh 0 0 (!w.params.followText "set-order")) }).IsList l items := ⟨_, hol', rfl, nl, rfl⟩
        unfold Builtin.«set.__init__» noKeywords Builtin.Frozenset.updateFrom
        generalize hPI : pyIter = PI
        wp_walk
        subst hPI
        refine wpAny_pyIter_list hl1 ?_
        refine wpAny_bind (wpAny_runValue ?_)
        have hlS : l < s.heap.objs.size := Heap.lt_size hol
        have hh3 : A.in1.in1.in1.handled = none := by simp [hh]
        have hneI : l ≠ (s.heap.push { cls := .type "set", dict := none, data := .set #[] 0 (.fresh 0 0 (!w.params.followText "set-order")) }).objs.size := by
          rw [Heap.size_push]; exact Nat.ne_of_lt (Nat.lt_succ_of_lt hlS)
        have hSf : s.heap.objs.size ∉ [(s.heap.push { cls := .type "set", dict := none, data := .set #[] 0 (.fresh 0 0 (!w.params.followText "set-order")) }).objs.size, l] := by
          rw [Heap.size_push]; simp only [List.mem_cons, List.mem_singleton, List.not_mem_nil, or_false, not_or]
          exact ⟨Nat.ne_of_lt (Nat.lt_succ_self _), Nat.ne_of_gt hlS⟩
        refine setS_update ((Walks.list hh3 _ l hneI items).toS) s.heap.objs.size hSf xs hisz hb (fun i v hv => strs_get hit i v (by rw [Array.getElem?_toList]; exact hv)) (items.size - 0) 0 _ (by omega) (Nat.zero_le _)
          ⟨⟨_, Heap.get?_push_size _ rfl, rfl, rfl⟩, (hl1.push _)⟩ ?hS0 ?hR
        case hS0 => exact ⟨_, [], setS_new (Heap.get?_push_of_some _ hS), fun x => by simp, Nat.zero_le _⟩
        case hR =>
          intro s' D ys hm hS' hx hyl
          obtain ⟨h', g2, d', tk', os'⟩ := s'
          have eg : g2 = s.gens := hm.gens
          have ed : d' = s.drawn := hm.drawn
          have eo : os' = s.os := hm.os
          subst eg; subst ed; subst eo
          show wpAny _ _ _ _ _ _
          refine wpAny_pure ?_
          show wpAny _ _ (ret Value.none) _ _ _
          rw [hisz] at hyl
          refine wpAny_pure ⟨rfl, h', tk', D, ys, rfl, hS', hx, hyl, fun b o e => ?_⟩
          have hb0 : b < s.heap.objs.size := Heap.lt_size e
          have hb2 : b ≠ (s.heap.push { cls := .type "set", dict := none, data := .set #[] 0 (.fresh 0 0 (!w.params.followText "set-order")) }).objs.size := by
            rw [Heap.size_push]; exact Nat.ne_of_lt (Nat.lt_succ_of_lt hb0)
          exact hm.heap b o (by simp only [List.mem_cons, List.mem_singleton, List.not_mem_nil, or_false, not_or]; exact ⟨Nat.ne_of_lt hb0, hb2⟩) (Heap.get?_push_of_some _ (Heap.get?_push_of_some _ e))
      · cases r₂ with
        | error e => exact hr₂
        | ok fl₂ =>
          cases fl₂ with
          | ret r =>
            obtain ⟨rfl, h', tk, D, ys, rfl, hS', hx, hyl, hk'⟩ := hr₂
            repeat (any_goals (first | assumption | wp_step))
            exact h _ _ _ _ hS' hx hyl hk'
          | _ => exact hr₂.elim
    | _ => exact hr.elim
end

/-! ### sorted of texts -/
def isStrV (v : Value) (b : Str) : Prop := ∃ t, v = Value.str b t
theorem each_strs : ∀ {us : List Value} {xs : List Str}, StrsAre us xs → PySem.W.EachIs isStrV us xs
  | _, _, .nil => .nil
  | _, _, .cons y t r => .cons ⟨t, rfl⟩ (each_strs r)
theorem strs_each : ∀ {us : List Value} {xs : List Str}, PySem.W.EachIs isStrV us xs → StrsAre us xs
  | _, _, .nil => .nil
  | _, _, .cons ⟨t, e⟩ r => by
    rw [e]
    exact .cons _ t (strs_each r)
theorem strs_kts : ∀ ks : List (Str × Tok), StrsAre (ks.map fun q => Value.str q.1 q.2) (ks.map (·.1))
  | [] => .nil
  | q :: ks => .cons q.1 q.2 (strs_kts ks)
section
variable {P : Program} {w : World} {A : Around} {E : Value → Shared → Prop} {s : Shared}
/-- xs.sort() of texts -/
theorem sort_texts {a : Addr} {vs : List Value} {xs : List Str} {Q : Value → Shared → Prop} (ho : s.heap.get? a = some (seqObj "list" vs.toArray 0)) (hv : StrsAre vs xs) (hL : xs.length ≤ sizeLine) (hu : A.units + 1 < cLine)
    (h : ∀ out : List Value, StrsAre out (sortS xs) → Q .none { s with heap := sortedHeap s.heap a vs out.toArray }) : wpAny (model P w) A (call (.builtin "list.sort") [.ref a]) Q E s := by
  refine PySem.W.list_sort_data (enc := fun b : Str => PyData.str b) ho (each_strs hv) ((each_strs hv).mono fun v b ⟨t, e⟩ => ⟨[], by rw [e]; exact .str _ _, List.not_mem_nil⟩) (PySem.W.AllAlike.of fun b b' => rfl) (PySem.W.Sortable.others fun b => ⟨nofun, nofun⟩) hL (fun b hb => ?_) fun out ho eo => ?_
  · show A.units + 1 + 0 < cLine
    omega
  · rw [leS_le] at eo
    exact h out (strs_each eo)
open PySem.Froz in
theorem sorted_setS {a : Addr} {D : SD} {l : List Str} {Q : Value → Shared → Prop} (R : SetS P w s.heap a D l) (hh : A.handled = none) (hl : l.length < scanBound) (hu : A.units + 4 < cLine)
    (hQ : ∀ s' p (out : List Value) (c : Nat), (∀ b o, s.heap.get? b = some o → s'.heap.get? b = some o) → s'.gens = s.gens → s'.os = s.os → s.heap.objs.size ≤ p →
      s'.heap.get? p = some (seqObj "list" out.toArray c) → StrsAre out (sortS l) → Q (.ref p) s') :
    wpAny (model P w) A (call (.builtin "sorted") [.ref a]) Q E s := by
  obtain ⟨es, ep, t⟩ := D
  have hsz : es.size = l.length := R.tx.sz
  have hs3 := fits_of_scanBound hl
  refine Calls.call_function_entry PyProof.Rows.kind_sorted PyProof.Rows.plain_sorted PyProof.Rows.entry_sorted (PyProof.Rows.args_sorted1 _) ?_
  unfold Builtin.«sorted»
  refine wpAny_bind (m := checkCount "sorted" 1 1 _) (wpAny_pure ?_)
  refine wpAny_bind (collect_set (A := A.in1) (es := es) (ep := ep) (t := t) hh ⟨_, R.ob, rfl, rfl⟩ R.tx.fit (by omega) R.ri R.le fun s1 vs k1 hz g1 o1 pm => ?_)
  obtain ⟨ks, e1, p1⟩ := R.vs
  have e1 : es.toList.map (·.2) = ks.map fun q => Value.str q.1 q.2 := e1
  rw [e1] at pm
  obtain ⟨ks', e2, p2⟩ := strs_of_perm vs ks pm
  have hv : StrsAre vs (ks'.map (·.1)) := by rw [e2]; exact strs_kts ks'
  have pl : (ks'.map (·.1)).Perm l := (p2.map (·.1)).trans p1
  have hvl : vs.length = l.length := by rw [hv.length, pl.length_eq]
  refine wpAny_bind (wpAny_newList ?_ (by rw [hvl]; exact hs3))
  have hoL : (s1.heap.push (seqObj "list" vs.toArray 0)).get? s1.heap.objs.size = some (seqObj "list" vs.toArray 0) := Heap.get?_push_size _ rfl
  refine wpAny_bind (wpAny_holding (sort_texts (s := { s1 with heap := s1.heap.push (seqObj "list" vs.toArray 0) }) hoL hv (by rw [pl.length_eq]; exact hs3) (by show A.units + 1 + 1 < cLine; omega) fun out ho => ?_))
  rw [sortS_perm pl] at ho
  obtain ⟨c, hc⟩ := PyProof.Rows.sortedHeap_at (vs := vs) (out := out.toArray) hoL
  refine wpAny_pure ⟨_, rfl, hQ _ s1.heap.objs.size out c (fun b u e => ?_) g1 o1 hz hc ho⟩
  have q := k1 b u e
  have hlt := Heap.lt_size q
  show (PyProof.Rows.sortedHeap (s1.heap.push (seqObj "list" vs.toArray 0)) s1.heap.objs.size vs out.toArray).get? b = some u
  rw [PyProof.Rows.sortedHeap_old (Nat.ne_of_lt hlt) (by rw [Heap.size_push]; exact Nat.lt_succ_of_lt hlt)]
  exact Heap.get?_push_of_some _ q
end

/-! ### sorted(set(xs)) as an expression -/
theorem vals_strs : ∀ {us : List Value} {xs : List Str}, StrsAre us xs → Vals (xs.map V.str) us
  | _, _, .nil => .nil
  | _, _, .cons y t r => .cons ⟨t, rfl⟩ (vals_strs r)
def tSortSet (K : PySem.W.Frag) (ta : TE) : TE := fun σ H Q => ta σ H fun x H1 => ∃ (l : Addr) (xs : List Str), x = V.ref l ∧ SqL K H1 l (xs.map V.str) ∧ xs.length ≤ 4000 ∧ ∀ p, H1 p = none → Q (.ref p) (upd H1 p (.lst ((sortS (onceS xs)).map V.str)))
theorem pe_sortSet {X : Cx} {a : Expr} {ta : TE} {p p2 q pos : Pos} (hc : X.calm = true) (hu : X.A.units + 64 < cLine) (hg : Gl X "sorted") (hm : X.mg "sorted" = none) (hb : bootBuiltins "sorted" = some (.builtin "sorted")) (hg2 : Gl X "set") (hm2 : X.mg "set" = none) (ha : PE X a ta)
    (na : starEach [a] X.env = (false, eval a X.env) :: starEach [] X.env := by rfl) : PE X (.Call (.Name "sorted" p) [.Call (.Name "set" p2) [a] [] q] [] pos) (tSortSet X.K ta) := by
  refine ⟨fun pins s σ H Q I h => ?_⟩
  refine Call_ (ld_blt I hg hm hb ?_)
  refine PyProof.Rows.callWith_builtin1 (PyProof.Rows.args_cons ?_ rfl) rfl rfl
  refine Call_ (ld_blt I hg2 hm2 PyProof.Rows.boot_set ?_)
  refine PyProof.Rows.callWith_type1 (PyProof.Rows.args_cons (thn (ha.run pins s σ H _ I h) fun v s1 ⟨x, H1, I1, r1, q1⟩ => PyProof.Rows.args_nil ?_) na) na rfl
  obtain ⟨l, xs, rfl, hq, h1, q1⟩ := q1
  cases r1
  obtain ⟨its, r, pl, hz⟩ := I1.list hq
  refine setS_call (P := X.prog) (w := X.w) xs (I1.ok.hd hc) pl.isList (by simpa using r.strs) (by unfold scanBound; omega) fun h' tk D ys R hy hyl hk => ?_
  refine PyProof.Rows.args_nil ?_
  have I2 : Inv X pins σ H1 { s1 with heap := h', toks := tk } := I1.kept hk
  refine sorted_setS (P := X.prog) (w := X.w) (s := { s1 with heap := h', toks := tk }) R (I2.ok.hd hc) (by unfold scanBound; omega) (by omega) fun s' pp out c k g o hp hg hv => ?_
  have e1 : sortS ys = sortS (onceS xs) := sortS_perm ((List.perm_ext_iff_of_nodup R.nd (onceS_nd xs)).mpr fun x => (hy x).trans (onceS_mem xs x).symm)
  rw [e1] at hv
  have hlen : ((sortS (onceS xs)).map V.str).length ≤ sizeLine := by
    have := onceS_len xs
    have e2 : (sortS (onceS xs)).length = (onceS xs).length := List.length_mergeSort _
    rw [List.length_map, e2, sizeLine_eq]; omega
  have hn : H1 pp = none := I2.hok.fresh hp
  have J : Inv X pins σ (upd H1 pp (.lst ((sortS (onceS xs)).map V.str))) { ({ s1 with heap := h', toks := tk } : Shared) with heap := s'.heap, gens := s'.gens, drawn := s'.drawn, toks := s'.toks } :=
    I2.call (ch := []) (Un.laid k hp hn) (I2.hok.laid k hp ⟨hlen, out, c, vals_strs hv, hg⟩) (by rw [g]; exact I2.bare) (fun _ z => nomatch z)
  have e : s' = { ({ s1 with heap := h', toks := tk } : Shared) with heap := s'.heap, gens := s'.gens, drawn := s'.drawn, toks := s'.toks } := by
    cases s'
    cases s1
    cases o
    rfl
  rw [e]
  exact ⟨.ref pp, _, J, rfl, q1 pp hn⟩
def strsP : List P → Option (List Str)
  | [] => some []
  | .str x :: r => (strsP r).map (x :: ·)
  | _ => none
theorem strsP_ok {K : PySem.W.Frag} {H : Hp} {L : Addr → Prop} : ∀ {ps : List P} {vs : List V} {xs : List Str}, strsP ps = some xs → RPs K H L ps vs → vs = xs.map V.str
  | [], _, _, e, .nil => by cases e; rfl
  | .str x :: r, _, _, e, .cons h t => by
    have e : (strsP r).map (x :: ·) = some _ := e
    cases q : strsP r with
    | none => rw [q] at e; cases e
    | some l =>
      rw [q] at e; cases e
      cases h
      rw [strsP_ok q t]; rfl
theorem strsP_map : ∀ xs : List Str, strsP (xs.map .str) = some xs
  | [] => rfl
  | x :: xs => by
    show (strsP (xs.map .str)).map (x :: ·) = _
    rw [strsP_map xs]; rfl
theorem rps_strs {K : PySem.W.Frag} {H : Hp} {L : Addr → Prop} : ∀ xs : List Str, RPs K H L (xs.map .str) (xs.map V.str)
  | [] => .nil
  | x :: xs => .cons (.str x) (rps_strs xs)
def gSortSet (x : D) (S : DH) : Option (D × DH) := match lstP S x with
  | some ps => match strsP ps with
    | some xs => if xs.length ≤ 4000 then some (.p (.lst ((sortS (onceS xs)).map .str)), S) else none
    | none => none
  | none => none
def fSortSet (fe : FE) : FE := fun ds S => match fe ds S with
  | some (x, S1) => gSortSet x S1
  | none => none
theorem de_sortSet {X : Cx} {a : Expr} {fa : FE} {p p2 q pos : Pos} (hc : X.calm = true) (hu : X.A.units + 64 < cLine) (hg : Gl X "sorted") (hm : X.mg "sorted" = none) (hb : bootBuiltins "sorted" = some (.builtin "sorted")) (hg2 : Gl X "set") (hm2 : X.mg "set" = none) (ha : DE X a fa)
    (na : starEach [a] X.env = (false, eval a X.env) :: starEach [] X.env := by rfl) : DE X (.Call (.Name "sorted" p) [.Call (.Name "set" p2) [a] [] q] [] pos) (fSortSet fa) :=
  PE.imp (pe_sortSet hc hu hg hm hb hg2 hm2 ha na) fun σ H Q ⟨W, ds, d, S', eH, s, re, e, q⟩ => by
    unfold fSortSet at e
    split at e
    · rename_i x S1 e1
      unfold gSortSet at e
      split at e
      · rename_i ps el
        split at e
        · rename_i xs en
          split at e
          · rename_i hl
            cases e
            refine ⟨W, ds, x, S', eH, s, re, e1, fun W1 v t1 r1 => ?_⟩
            unfold lstP at el
            rw [← t1.e] at el
            split at el
            · rename_i l hl2
              obtain ⟨a, ws, rfl, h1, h2⟩ := lstD_ok t1.s r1 hl2
              rw [strsP_ok en (allP_rel el h2)] at h1
              refine ⟨a, xs, rfl, h1, hl, fun p hp => ?_⟩
              obtain ⟨t, r⟩ := new_lst t1.s hp (rps_strs (sortS (onceS xs)))
              exact q _ _ ⟨t1.x.trans t.x, t.s, t.e.trans t1.e⟩ r
            · cases el
          · cases e
        · cases e
      · cases e
    · cases e
@[simp ↓] theorem ok_sortSet {fe : FE} {ds : DS} {S : DH} {Q : D → DH → Prop} : Ok (fSortSet fe ds S) Q = Ok (fe ds S) fun x S1 => Ok (gSortSet x S1) Q := by
  unfold fSortSet
  cases fe ds S with
  | none => simp
  | some r => obtain ⟨x, S1⟩ := r; simp
theorem gSortSet_eq {xs : List Str} {S : DH} (h : xs.length ≤ 4000) : gSortSet (.p (.lst (xs.map .str))) S = some (.p (.lst ((sortS (onceS xs)).map .str)), S) := by
  have e1 : lstP S (.p (.lst (xs.map P.str))) = some (xs.map .str) := by
    unfold lstP
    have : lstD S (.p (.lst (xs.map P.str))) = some ((xs.map P.str).map .p) := rfl
    rw [this]
    exact allP_map _
  unfold gSortSet
  rw [e1]
  dsimp only
  rw [strsP_map]
  dsimp only
  rw [if_pos h]
/-! ### sorted(d) -/
def rSortDk : List V → Hp → VK → Prop := fun xs H Q => ∃ (a : Addr) (kvs : List (Key × V)) (ks : List Str), xs = [.ref a] ∧ Rd H a (.dK kvs) ∧ kvs.map (·.1) = ks.map Sum.inr ∧ ks.length ≤ 4000 ∧
    ∀ p, H p = none → Q (.ref p) (upd H p (.lst ((sortS ks).map V.str)))
theorem cr_sortDk {X : Cx} (hcalm : X.calm = true) (hu : X.A.units + 64 < cLine) : CallR X (.builtin "sorted") rSortDk := by
  intro pins s σ H xs us Q I r q
  obtain ⟨a, kvs, ks, rfl, hd, hks, h64, q⟩ := q
  obtain ⟨u, rfl, rx⟩ := vals1 r
  cases rx
  obtain ⟨z, lo, vs, rel, dd⟩ := dk_rd I.hok hd
  obtain ⟨ep, hat⟩ := dd.dictAt
  have hkeys : vs.map (·.1) = ks.map Sum.inr := rel.keys.symm.trans hks
  have hl : vs.length = ks.length := by
    have e := congrArg List.length hkeys
    rw [List.length_map, List.length_map] at e
    exact e
  have h16 : vs.length ≤ sizeLine := by rw [hl, sizeLine_eq]; omega
  refine Calls.call_function_entry PyProof.Rows.kind_sorted PyProof.Rows.plain_sorted PyProof.Rows.entry_sorted (PyProof.Rows.args_sorted1 _) ?_
  unfold Builtin.«sorted»
  refine wpAny_bind (m := checkCount "sorted" 1 1 _) (wpAny_pure ?_)
  refine wpAny_bind (PySem.W.kdu_collect (A := X.A.in1) (PySem.W.kdl_dict (knd := mixKind X.prog X.w) (kvs := vs) (ep := ep) lo) (I.ok.hd hcalm) hat h16 fun h' tk acc hk hacc => ?_)
  have hal : acc.toList.length = ks.length := by rw [Array.length_toList, hacc.1, hl]
  have hS : StrsAre acc.toList ks := L2.strs_at hal fun j v e => by
    obtain ⟨k, x, e1, e2⟩ := hacc.2 j v (by rw [← Array.getElem?_toList]; exact e)
    have e3 : (vs.map (·.1))[j]? = some k := by rw [List.getElem?_map, e1]; all_goals rfl
    rw [hkeys, List.getElem?_map] at e3
    cases e4 : ks[j]? with
    | none => rw [e4] at e3; cases e3
    | some y =>
      rw [e4] at e3
      have e5 : Sum.inr y = k := Option.some.inj e3
      subst e5
      obtain ⟨t, ev⟩ := Value.isStrOf_shape (x := y) (v := v) e2
      exact ⟨y, t, rfl, ev⟩
  have I1 : Inv X pins σ H { s with heap := h', toks := tk } := I.kept hk
  have hL : ks.length ≤ sizeLine := by rw [sizeLine_eq]; omega
  refine wpAny_bind (wpAny_newList ?_ (by rw [hal]; exact hL))
  have hoL : (h'.push (seqObj "list" acc.toList.toArray 0)).get? h'.objs.size = some (seqObj "list" acc.toList.toArray 0) := Heap.get?_push_size _ rfl
  show wpAny _ _ _ _ _ { s with heap := h'.push (seqObj "list" acc.toList.toArray 0), toks := tk }
  refine wpAny_bind (wpAny_holding (sort_texts (s := { s with heap := h'.push (seqObj "list" acc.toList.toArray 0), toks := tk }) hoL hS hL (by show X.A.units + 1 + 1 < cLine; omega) fun out ho => ?_))
  obtain ⟨c, hc⟩ := PyProof.Rows.sortedHeap_at (vs := acc.toList) (out := out.toArray) hoL
  have hlen : ((sortS ks).map V.str).length ≤ sizeLine := by
    have e2 : (sortS ks).length = ks.length := List.length_mergeSort _
    rw [List.length_map, e2]; exact hL
  refine wpAny_pure ⟨_, rfl, .ref h'.objs.size, upd H h'.objs.size (.lst ((sortS ks).map V.str)), I1.laid (t' := tk) (fun b u e => ?_) (Nat.le_refl _)
    (show ObjOk X.prog X.w _ _ _ (.lst ((sortS ks).map V.str)) from ⟨hlen, out, c, vals_strs ho, hc⟩), rfl, q _ (I1.hok.fresh (Nat.le_refl _))⟩
  have hb : b < h'.objs.size := Heap.lt_size e
  rw [PyProof.Rows.sortedHeap_old (Nat.ne_of_lt hb) (by rw [Heap.size_push]; exact Nat.lt_succ_of_lt hb)]
  exact Heap.get?_push_of_some _ e
def keyStrs {α : Type} : List (Key × α) → Option (List Str)
  | [] => some []
  | (.inr x, _) :: r => (keyStrs r).map (x :: ·)
  | _ => none
theorem keyStrs_ok {K : PySem.W.Frag} {W : Wd} : ∀ {l : List (Key × D)} {kvs : List (Key × V)} {ks : List Str}, keyStrs l = some ks → RDk K W l kvs → kvs.map (·.1) = ks.map Sum.inr ∧ kvs.length = ks.length
  | [], _, _, e, .nil => by cases e; exact ⟨rfl, rfl⟩
  | (.inr x, d) :: r, _, _, e, .cons h t => by
    have e : (keyStrs r).map (x :: ·) = some _ := e
    cases q : keyStrs r with
    | none => rw [q] at e; cases e
    | some l =>
      rw [q] at e; cases e
      obtain ⟨h1, h2⟩ := keyStrs_ok q t
      have h3 := h.1
      exact ⟨by rw [List.map_cons, List.map_cons, h1, ← h3], by rw [List.length_cons, List.length_cons, h2]⟩
def gSortDk : GN := fun xs S => match xs with
  | [x] => match dictD S x with
    | some (.inl l) => match keyStrs l with
      | some ks => if ks.length ≤ 4000 then some (.p (.lst ((sortS ks).map .str)), S) else none
      | none => none
    | _ => none
  | _ => none
theorem f_sortDk {X : Cx} (hc : X.calm = true) (hu : X.A.units + 64 < cLine) : Fun1 X (.builtin "sorted") gSortDk := by
  refine ⟨_, cr_sortDk hc hu, ?_⟩
  intro W xs vs z S' Q s r e q
  unfold gSortDk at e
  split at e
  · rename_i x
    obtain ⟨v, rfl, r1⟩ := rds1 r
    split at e
    · rename_i l hl
      split at e
      · rename_i ks hk
        split at e
        · rename_i hlen
          cases e
          obtain ⟨a, rfl, kvs, h1, h2⟩ := dictD_ok s r1 hl
          refine ⟨a, kvs, ks, rfl, h1, (keyStrs_ok hk h2).1, hlen, fun p hp => ?_⟩
          obtain ⟨t, r⟩ := new_lst s hp (rps_strs (sortS ks))
          exact q _ _ t r
        · cases e
      · cases e
    · cases e
  · cases e
theorem keyStrs_map {α : Type} (l : List (Str × α)) : keyStrs (l.map fun q => ((.inr q.1 : Key), q.2)) = some (l.map (·.1)) := by
  induction l with
  | nil => rfl
  | cons q l ih =>
    show (keyStrs (l.map fun q => ((.inr q.1 : Key), q.2))).map (q.1 :: ·) = _
    rw [ih]; rfl
end CK
set_option maxHeartbeats 2000000
/-! CkZn: list(zip(xs, ys)) of two lists. -/
namespace CK
open PySem PySem.Spec PyProof.Rows L2

theorem zip_no_len : typeLookup (.type "zip") "__len__" = pure none := by rw [typeLookup_type, builtinLookup_eq_fast]; kernel_rfl
theorem zip_no_hint : typeLookup (.type "zip") "__length_hint__" = pure none := by rw [typeLookup_type, builtinLookup_eq_fast]; kernel_rfl

/-- a zip over two lists, i pairs drawn, the first of them held -/
def ZSt (h : Heap) (z TI TO i1 i2 l1 l2 S : Addr) (xs ys : Array Value) (i : Nat) : Prop :=
  IsPair h TI (.ref i1) (.ref i2) ∧ h.IsListIter i1 l1 i ∧ h.IsListIter i2 l2 i ∧ h.IsList l1 xs ∧ h.IsList l2 ys ∧
    ((IsZip h z TI TO .none ∧ ∃ a b, IsPair h TO a b) ∨ ∃ T f oT, IsZipHeld h z TI TO T f ∧ h.get? T = some oT ∧ T ≠ z ∧ T ≠ i1 ∧ T ≠ i2 ∧ T ≠ S)
structure ZOff (S z TI TO i1 i2 l1 l2 : Addr) : Prop where
  z : z ≠ S
  TI : TI ≠ S
  TO : TO ≠ S
  i1 : i1 ≠ S
  i2 : i2 ≠ S
  l1 : l1 ≠ S
  l2 : l2 ≠ S
section
variable {prog : Program} {w : World} {A : Around} {E : Value → Shared → Prop} {s : Shared} {z TI TO i1 i2 l1 l2 S : Addr} {xs ys : Array Value} {i : Nat}
theorem ZSt.keep {h h' : Heap} (O : ZOff S z TI TO i1 i2 l1 l2) (st : ZSt h z TI TO i1 i2 l1 l2 S xs ys i) (hk : ∀ b o, b ≠ S → h.get? b = some o → h'.get? b = some o) : ZSt h' z TI TO i1 i2 l1 l2 S xs ys i := by
  obtain ⟨hTI, h1, h2, hl1, hl2, hz⟩ := st
  refine ⟨hk _ _ O.TI hTI, h1.at fun o e => hk _ o O.i1 e, h2.at fun o e => hk _ o O.i2 e, hl1.at fun o e => hk _ o O.l1 e, hl2.at fun o e => hk _ o O.l2 e, ?_⟩
  rcases hz with ⟨hz, a, b, hTO⟩ | ⟨T, f, oT, hz, hT, r1, r2, r3, r4⟩
  · exact .inl ⟨hk _ _ O.z hz, a, b, hk _ _ O.TO hTO⟩
  · exact .inr ⟨T, f, oT, hk _ _ O.z hz, hk _ _ r4 hT, r1, r2, r3, r4⟩
theorem zst_item {Q : Option Value → Shared → Prop} {x y : Value} (D : ZipApart z TI TO i1 i2 l1 l2) (st : ZSt s.heap z TI TO i1 i2 l1 l2 S xs ys i) (ex : xs[i]? = some x) (ey : ys[i]? = some y) (hS : S < s.heap.objs.size)
    (hQ : ∀ h', ZSt h' z TI TO i1 i2 l1 l2 S xs ys (i + 1) → h'.get? s.heap.objs.size = some { cls := .type "tuple", data := .seq #[x, y] } → h'.objs.size = s.heap.objs.size + 1 →
      (∀ c o, c ≠ z → c ≠ TO → c ≠ i1 → c ≠ i2 → s.heap.get? c = some o → h'.get? c = some o) → Q (some (.ref s.heap.objs.size)) { s with heap := h' }) : wpAny (model prog w) A (pyNext (.ref z)) Q E s := by
  obtain ⟨hTI, h1, h2, hl1, hl2, hz⟩ := st
  have lt : ∀ {c o}, s.heap.get? c = some o → s.heap.objs.size ≠ c := fun e => Nat.ne_of_gt (Heap.lt_size e)
  have n1 : s.heap.objs.size ≠ i1 := let ⟨_, e, _⟩ := h1; lt e
  have n2 : s.heap.objs.size ≠ i2 := let ⟨_, e, _⟩ := h2; lt e
  rcases hz with ⟨hz, a, b, hTO⟩ | ⟨T, f, oT, hz, hT, r1, r2, r3, r4⟩
  · refine wpAny_pyNext_zip_item D hz hTI hTO h1 h2 hl1 hl2 ex ey fun h' a1 a2 a3 a4 a5 a6 hk => ?_
    exact hQ h' ⟨hk _ _ D.TIz D.TITO D.TIi1 D.TIi2 hTI, a3, a4, hl1.at fun o e => hk _ o D.l1z D.l1TO D.l1i1 D.l1i2 e, hl2.at fun o e => hk _ o D.l2z D.l2TO D.l2i1 D.l2i2 e,
      .inr ⟨s.heap.objs.size, false, _, a1, a5, lt hz, n1, n2, Nat.ne_of_gt hS⟩⟩ a5 a6 hk
  · refine wpAny_pyNext_zip_item_held D hz hT hTI h1 h2 hl1 hl2 ex ey fun h' a1 a3 a4 a5 a6 hk => ?_
    exact hQ h' ⟨hk _ _ D.TIz D.TIi1 D.TIi2 hTI, a3, a4, hl1.at fun o e => hk _ o D.l1z D.l1i1 D.l1i2 e, hl2.at fun o e => hk _ o D.l2z D.l2i1 D.l2i2 e,
      .inr ⟨T, true, oT, a1, hk _ _ r1 r2 r3 hT, r1, r2, r3, r4⟩⟩ a5 a6 fun c o c1 _ c2 c3 e => hk c o c1 c2 c3 e
theorem zst_done {Q : Option Value → Shared → Prop} (hh : A.handled = none) (D : ZipApart z TI TO i1 i2 l1 l2) (st : ZSt s.heap z TI TO i1 i2 l1 l2 S xs ys i) (hend : xs[i]? = none ∨ ys[i]? = none)
    (hQ : ∀ h', (∀ c o, c ≠ z → c ≠ TO → c ≠ i1 → c ≠ i2 → s.heap.get? c = some o → h'.get? c = some o) → Q none { s with heap := h' }) : wpAny (model prog w) A (pyNext (.ref z)) Q E s := by
  obtain ⟨hTI, h1, h2, hl1, hl2, hz⟩ := st
  rcases hz with ⟨hz, a, b, hTO⟩ | ⟨T, f, oT, hz, hT, r1, r2, r3, r4⟩
  · exact wpAny_pyNext_zip_end hh D hz hTI hTO h1 h2 hl1 hl2 hend hQ
  · exact wpAny_pyNext_zip_end_held hh D hz hT hTI h1 h2 hl1 hl2 hend fun h' hk => hQ h' fun c o c1 _ c2 c3 e => hk c o c1 c2 c3 e
end
/-- new tuples at as are the pairs ps -/
structure ZG (ps : List (Value × Value)) (lo : Addr) (h : Heap) (as : List Addr) : Prop where
  rise : as.Pairwise (· < ·)
  above : ∀ a ∈ as, lo < a
  pairs : ∀ (j : Nat) (a : Addr), as[j]? = some a → ∃ k x, ps[j]? = some (k, x) ∧ h.get? a = some { cls := .type "tuple", data := .seq #[k, x] }
theorem ZG.there {ps : List (Value × Value)} {lo : Addr} {h : Heap} {as : List Addr} (g : ZG ps lo h as) {a : Addr} (ha : a ∈ as) : a < h.objs.size := by
  obtain ⟨j, hj⟩ := List.mem_iff_getElem?.mp ha
  obtain ⟨_, _, _, e⟩ := g.pairs j a hj
  exact Heap.lt_size e
section
variable {prog : Program} {w : World} {A : Around} {E : Value → Shared → Prop} {s : Shared} {R : Result → Shared → Prop} {z TI TO i1 i2 l1 l2 S : Addr} {xs ys : Array Value}
theorem zg_loop (hh : A.handled = none) (D : ZipApart z TI TO i1 i2 l1 l2) (O : ZOff S z TI TO i1 i2 l1 l2) (ps : List (Value × Value)) (hps : ps = xs.toList.zip ys.toList) (hn : ps.length ≤ sizeLine) (hzS : z < S ∧ TO < S ∧ i1 < S ∧ i2 < S) (res : Value) {h₁ : Heap}
    (hR : ∀ h' acc c as, (∀ b o, b ≠ S → b ≠ z → b ≠ TO → b ≠ i1 → b ≠ i2 → h₁.get? b = some o → h'.get? b = some o) → h'.get? S = some { cls := .type "list", dict := none, data := .seq acc c, slots := #[] } → as.length = ps.length → ZG ps S h' as →
      acc.toList = as.map Value.ref → R (.ok (.ret res)) { s with heap := h' }) :
    ∀ (k i : Nat) (h : Heap) (c : Nat) (acc : Array Value) (as : List Addr), ps.length - i = k → i ≤ ps.length → ZSt h z TI TO i1 i2 l1 l2 S xs ys i → (∀ b o, b ≠ S → b ≠ z → b ≠ TO → b ≠ i1 → b ≠ i2 → h₁.get? b = some o → h.get? b = some o) →
      h.get? S = some { cls := .type "list", dict := none, data := .seq acc c, slots := #[] } → acc.toList = as.map Value.ref → as.length = i → ZG ps S h as →
      codeAny (model prog w) A (.builtin "list.extend.loop" ⟨[.ref S, .ref z, res], []⟩) R { s with heap := h } := by
  obtain ⟨hz, hTO, hi1, hi2⟩ := hzS
  intro k
  induction k with
  | zero =>
    intro i h c acc as hk hi hst hkeep hS hacc hal hG
    have hin : i = ps.length := by omega
    have hend : xs[i]? = none ∨ ys[i]? = none := by
      rw [hps, List.length_zip, Array.length_toList, Array.length_toList] at hin
      rcases Nat.le_total xs.size ys.size with h | h
      · exact .inl (Array.getElem?_eq_none (by omega))
      · exact .inr (Array.getElem?_eq_none (by omega))
    refine codeAny_builtin PySem.F.entry_extend_loop ?_
    rw [Around.under_plainId PySem.F.plain_extend_loop _]
    show wpAny _ A.in1 (pyNext (.ref z) >>= _) _ _ _
    refine wpAny_bind (zst_done (s := { s with heap := h }) (A := A.in1) hh D hst hend fun h' he => ?_)
    refine wpAny_pure (hR h' acc c as (fun b o h0 h1 h2 h3 h4 e => he b o h1 h2 h3 h4 (hkeep b o h0 h1 h2 h3 h4 e)) (he S _ O.z.symm O.TO.symm O.i1.symm O.i2.symm hS) (by omega) ⟨hG.rise, hG.above, fun j a hj => ?_⟩ hacc)
    obtain ⟨kk, x, e1, e3⟩ := hG.pairs j a hj
    have ha := hG.above a (List.mem_of_getElem? hj)
    exact ⟨kk, x, e1, he a _ (Nat.ne_of_gt (Nat.lt_trans hz ha)) (Nat.ne_of_gt (Nat.lt_trans hTO ha)) (Nat.ne_of_gt (Nat.lt_trans hi1 ha)) (Nat.ne_of_gt (Nat.lt_trans hi2 ha)) e3⟩
  | succ k ih =>
    intro i h c acc as hk hi hst hkeep hS hacc hal hG
    have hlt : i < ps.length := by omega
    have hlt' : i < xs.size ∧ i < ys.size := by
      rw [hps, List.length_zip, Array.length_toList, Array.length_toList] at hlt
      omega
    have ex := Array.getElem?_eq_getElem hlt'.1
    have ey := Array.getElem?_eq_getElem hlt'.2
    have hx : ps[i]? = some (xs[i]'hlt'.1, ys[i]'hlt'.2) := by
      rw [hps, List.getElem?_zip_eq_some]
      exact ⟨by rw [Array.getElem?_toList]; exact ex, by rw [Array.getElem?_toList]; exact ey⟩
    have hsz : acc.size = i := by rw [← Array.length_toList, hacc, List.length_map, hal]
    refine codeAny_builtin PySem.F.entry_extend_loop ?_
    rw [Around.under_plainId PySem.F.plain_extend_loop _]
    show wpAny _ A.in1 (pyNext (.ref z) >>= _) _ _ _
    refine wpAny_bind (zst_item (s := { s with heap := h }) (S := S) D hst ex ey (Heap.lt_size hS) fun h' hst' ht hz' hkp => ?_)
    dsimp only at ht hz' hkp ⊢
    have hS' := hkp S _ O.z.symm O.TO.symm O.i1.symm O.i2.symm hS
    have up : ∀ b o, b ≠ S → h'.get? b = some o → (h'.update S (Obj.mapSeq (·.push (Value.ref h.objs.size)))).get? b = some o := fun b o hb e => (Heap.get?_update_other _ _ (Ne.symm hb)).trans e
    have hSl : S < h.objs.size := Heap.lt_size hS
    show wpAny _ A.in1 (updateSeq S (·.push (Value.ref h.objs.size)) >>= _) _ _ _
    refine wpAny_bind ?_
    refine wpAny_updateSeq hS' rfl (wpAny_pure ⟨plainId_quiet PySem.F.plain_extend_loop _, ih (i + 1) _ _ (acc.push (Value.ref h.objs.size)) (as ++ [h.objs.size]) (by omega) hlt (hst'.keep O up)
      (fun b o h0 h1 h2 h3 h4 e => up b o h0 (hkp b o h1 h2 h3 h4 (hkeep b o h0 h1 h2 h3 h4 e))) (Heap.get?_update_self _ hS' rfl) (by rw [Array.toList_push, hacc, List.map_append]; rfl) (by rw [List.length_append, hal]; rfl) ⟨?_, ?_, ?_⟩⟩) (by rw [hsz]; omega) (by show (acc.push (Value.ref h.objs.size)).size ≤ sizeLine + 1; rw [Array.size_push, hsz]; omega)
    · refine List.pairwise_append.mpr ⟨hG.rise, List.pairwise_singleton _ _, fun a ha b hb => ?_⟩
      rw [List.mem_singleton.mp hb]
      exact hG.there ha
    · intro a ha
      rcases List.mem_append.mp ha with ha | ha
      · exact hG.above a ha
      · rw [List.mem_singleton.mp ha]; exact hSl
    · intro j b hj
      rcases Nat.lt_trichotomy j as.length with h1 | h1 | h1
      · rw [List.getElem?_append_left h1] at hj
        obtain ⟨k', x', e1, e3⟩ := hG.pairs j b hj
        have hb := hG.above b (List.mem_of_getElem? hj)
        exact ⟨k', x', e1, up b _ (Nat.ne_of_gt hb) (hkp b _ (Nat.ne_of_gt (Nat.lt_trans hz hb)) (Nat.ne_of_gt (Nat.lt_trans hTO hb)) (Nat.ne_of_gt (Nat.lt_trans hi1 hb)) (Nat.ne_of_gt (Nat.lt_trans hi2 hb)) e3)⟩
      · subst h1
        have hb : h.objs.size = b := by simpa using hj
        subst hb
        exact ⟨_, _, by rw [hal]; exact hx, up _ _ (Nat.ne_of_gt hSl) ht⟩
      · have hnone : (as ++ [h.objs.size])[j]? = none := List.getElem?_eq_none (by rw [List.length_append, List.length_singleton]; omega)
        rw [hnone] at hj; cases hj
theorem zg_call {Q : Value → Shared → Prop} (hh : A.handled = none) (D : ZipApart z TI TO i1 i2 l1 l2) (hz0 : IsZip s.heap z TI TO .none) (hTI : IsPair s.heap TI (.ref i1) (.ref i2)) (hTO : ∃ a b, IsPair s.heap TO a b) (h1 : s.heap.IsListIter i1 l1 0) (h2 : s.heap.IsListIter i2 l2 0) (hl1 : s.heap.IsList l1 xs) (hl2 : s.heap.IsList l2 ys) (O : ZOff s.heap.objs.size z TI TO i1 i2 l1 l2) (hzS : z < s.heap.objs.size ∧ TO < s.heap.objs.size ∧ i1 < s.heap.objs.size ∧ i2 < s.heap.objs.size)
    (hn : (xs.toList.zip ys.toList).length ≤ sizeLine)
    (hQ : ∀ h' acc c as, (∀ b o, b ≠ z → b ≠ TO → b ≠ i1 → b ≠ i2 → s.heap.get? b = some o → h'.get? b = some o) → h'.get? s.heap.objs.size = some { cls := .type "list", dict := none, data := .seq acc c, slots := #[] } → as.length = (xs.toList.zip ys.toList).length →
      ZG (xs.toList.zip ys.toList) s.heap.objs.size h' as → acc.toList = as.map Value.ref → Q (.ref s.heap.objs.size) { s with heap := h' }) :
    wpAny (model prog w) A (call (.type "list") [.ref z]) Q E s := by
  refine callType_codes (Q₁ := fun obj s₁ => obj = .ref s.heap.objs.size ∧ s₁ = { s with heap := s.heap.push { cls := .type "list", data := .seq #[] } }) PySem.F.called_list (PySem.F.typeCall_list_1 _) PySem.F.entry_list_init
    (code_list_new _ ⟨rfl, rfl⟩) fun obj s₁ h₁ => ?_
  obtain ⟨rfl, rfl⟩ := h₁
  have hS : (s.heap.push { cls := .type "list", data := .seq #[] }).get? s.heap.objs.size = some { cls := .type "list", data := .seq #[] } := Heap.get?_push_size _ rfl
  refine ⟨⟨_, hS, rfl⟩, PySem.F.args_list_init_2 _ _, ?_⟩
  show wpAny _ _ (do let old ← Builtin.List.listItems (.ref s.heap.objs.size); Builtin.List.listUpdate (.ref s.heap.objs.size) (fun _ => #[]); letGo old.toList.reverse; Builtin.List.listExtendWith (.ref s.heap.objs.size) (.ref z) .none) _ _ _
  refine wpAny_bind ?_
  unfold Builtin.List.listItems
  refine wpAny_bind (wpAny_seqItems hS rfl (wpAny_pure ?_))
  show wpAny _ _ (updateSeq s.heap.objs.size (fun _ => #[]) >>= fun _ => letGo (#[] : Array Value).toList.reverse >>= fun _ => Builtin.List.listExtendWith (.ref s.heap.objs.size) (.ref z) .none) _ _ _
  refine wpAny_bind (wpAny_updateSeq hS rfl ?_)
  have hS₂ := Heap.get?_update_self (Obj.mapSeq (fun _ => (#[] : Array Value))) hS rfl
  have oth2 : ∀ b o, b ≠ s.heap.objs.size → s.heap.get? b = some o → ((s.heap.push { cls := .type "list", data := .seq #[] }).update s.heap.objs.size (Obj.mapSeq (fun _ => (#[] : Array Value)))).get? b = some o :=
    fun b o hb e => (Heap.get?_update_other _ _ (Ne.symm hb)).trans (Heap.get?_push_of_some _ e)
  refine wpAny_bind (wpAny_letGo ?_)
  generalize (s.heap.push { cls := .type "list", data := .seq #[] }).update s.heap.objs.size (Obj.mapSeq (fun _ => (#[] : Array Value))) = hp2 at hS₂ oth2 ⊢
  have st : ZSt s.heap z TI TO i1 i2 l1 l2 s.heap.objs.size xs ys 0 := ⟨hTI, h1, h2, hl1, hl2, .inl ⟨hz0, hTO⟩⟩
  have st2 := st.keep O oth2
  have hz2 : IsZip hp2 z TI TO .none := oth2 _ _ O.z hz0
  have ty : ({ s with heap := hp2 } : Shared).TypeIs (.ref z) "zip" := ⟨_, hz2, rfl⟩
  unfold Builtin.List.listExtendWith
  refine wpAny_bind (wpAny_typeOf (T := "zip") ty ?_)
  have q1 : Builtin.List.listSameRef (.ref s.heap.objs.size) (.ref z) = false := by simp [Builtin.List.listSameRef, O.z.symm]
  have q2 : (Value.type "zip" == Value.type "list") = false := by decide
  have q3 : (Value.type "zip" == Value.type "tuple") = false := by decide
  simp only [q1, q2, q3, Bool.or_false, Bool.false_eq_true, if_false]
  refine wpAny_bind (wpAny_pyIter_zip hz2 ?_)
  refine wpAny_bind (wpAny_holding ?_)
  unfold Builtin.List.listLengthHint
  refine wpAny_bind (wpAny_specialOf ty zip_no_len ?_)
  show wpAny _ _ (specialOf (Value.ref z) (Str.ofString "__length_hint__") >>= _) _ _ _
  refine wpAny_bind (wpAny_specialOf ty zip_no_hint ?_)
  refine wpAny_pure ?_
  show wpAny _ _ (rule "list.extend.makes-room" >>= fun _ => Builtin.List.listTouch (.ref s.heap.objs.size) >>= fun _ =>
    again (.builtin "list.extend.loop" ⟨[.ref s.heap.objs.size, .ref z, .none], []⟩)) _ _ _
  refine wpAny_bind (wpAny_rule ?_)
  refine wpAny_bind ?_
  show wpAny _ _ (updateSeq s.heap.objs.size (·.push .none) >>= fun _ => updateSeq s.heap.objs.size (·.pop)) _ _ _
  refine wpAny_bind (wpAny_updateSeq hS₂ rfl ?_)
  have hS3 := Heap.get?_update_self (Obj.mapSeq (·.push Value.none)) hS₂ rfl
  refine wpAny_updateSeq (hz := by seq_fits) hS3 rfl ?_
  have hS4 := Heap.get?_update_self (Obj.mapSeq (·.pop)) hS3 rfl
  have oth4 : ∀ b o, b ≠ s.heap.objs.size → hp2.get? b = some o → ((hp2.update s.heap.objs.size (Obj.mapSeq (·.push Value.none))).update s.heap.objs.size (Obj.mapSeq (·.pop))).get? b = some o :=
    fun b o hb e => (Heap.get?_update_other _ _ (Ne.symm hb)).trans ((Heap.get?_update_other _ _ (Ne.symm hb)).trans e)
  refine wpAny_pure ⟨plainId_quiet PySem.F.plain_extend_loop _, zg_loop (A := A.in1) (s := s) (h₁ := s.heap) hh D O _ rfl hn hzS .none (fun h' acc c as hk hS' hl hG hacc => ?_) (xs.toList.zip ys.toList).length 0 _ _ _ [] (Nat.sub_zero _) (Nat.zero_le _) (st2.keep O oth4)
    (fun b o h0 _ _ _ _ e => oth4 b o h0 (oth2 b o h0 e)) hS4 rfl rfl ⟨List.Pairwise.nil, (fun _ ha => nomatch ha), (fun j a hj => by simp at hj)⟩⟩
  exact ⟨rfl, hQ h' acc c as (fun b o h1 h2 h3 h4 e => hk b o (Nat.ne_of_lt (Heap.lt_size e)) h1 h2 h3 h4 e) hS' hl hG hacc⟩
end

/-! ### laid into what is tracked -/
def putP : Hp → List Addr → List (V × V) → Hp
  | H, a :: as, p :: ps => putP (upd H a (.tup [p.1, p.2])) as ps
  | H, _, _ => H
theorem putP_off {b : Addr} : ∀ (as : List Addr) (ps : List (V × V)) (H : Hp), b ∉ as → putP H as ps b = H b
  | [], _, _, _ => rfl
  | _ :: _, [], _, _ => rfl
  | a :: as, p :: ps, H, h => by
    show putP (upd H a (.tup [p.1, p.2])) as ps b = H b
    rw [putP_off as ps _ (fun z => h (List.mem_cons_of_mem _ z)), upd_ne (fun z => h (by rw [z]; exact List.mem_cons_self))]
theorem putP_at : ∀ (as : List Addr) (ps : List (V × V)) (H : Hp), as.length = ps.length → as.Nodup → Paired (fun (t : Addr) (p : V × V) => putP H as ps t = some (.tup [p.1, p.2])) as ps
  | [], [], _, _, _ => .nil
  | [], _ :: _, _, h, _ => by cases h
  | _ :: _, [], _, h, _ => by cases h
  | a :: as, p :: ps, H, h, hn => by
    have hn' := List.nodup_cons.mp hn
    have ih := putP_at as ps (upd H a (.tup [p.1, p.2])) (Nat.succ.inj h) hn'.2
    refine .cons ?_ ih
    show putP (upd H a (.tup [p.1, p.2])) as ps a = some (.tup [p.1, p.2])
    rw [putP_off as ps _ hn'.1, upd_same]
theorem vals_zip : ∀ {xs ys : List V} {us ws : List Value}, Vals xs us → Vals ys ws → Paired (fun (p : V × V) (q : Value × Value) => RelV p.1 q.1 ∧ RelV p.2 q.2) (xs.zip ys) (us.zip ws)
  | [], _, _, _, .nil, _ => .nil
  | _ :: _, [], _, _, .cons _ _, .nil => .nil
  | _ :: _, _ :: _, _, _, .cons h t, .cons h2 t2 => .cons ⟨h, h2⟩ (vals_zip t t2)
section
variable {X : Cx}
theorem pairs_laid {pins : List (Addr × Obj)} {σ : L2.St} {H : Hp} {s : Shared} {h' : Heap} {tk : Nat} {S : Addr} {ps : List (V × V)} {vs : List (Value × Value)} {acc : Array Value} {c : Nat} {as : List Addr} (I : Inv X pins σ H s) (hz : ps.length ≤ sizeLine) (kv : Paired (fun (p : V × V) (q : Value × Value) => RelV p.1 q.1 ∧ RelV p.2 q.2) ps vs)
    (hSz : s.heap.objs.size ≤ S) (hk : ∀ b o, s.heap.get? b = some o → h'.get? b = some o) (hS : h'.get? S = some { cls := .type "list", dict := none, data := .seq acc c, slots := #[] }) (hl : as.length = vs.length) (hG : ZG vs S h' as) (hacc : acc.toList = as.map Value.ref) :
    ∃ H' : Hp, (∀ b o, H b = some o → H' b = some o) ∧ H S = none ∧ (∀ t ∈ as, H t = none) ∧ S ∉ as ∧ H' S = some (.lst (as.map V.ref)) ∧ Paired (fun (t : Addr) (q : V × V) => H' t = some (.tup [q.1, q.2])) as ps ∧ Inv X pins σ H' { s with heap := h', toks := tk } := by
  have lk : ps.length = vs.length := Paired.length kv
  have hSn : S ∉ as := fun z => Nat.lt_irrefl _ (hG.above _ z)
  have nd : as.Nodup := List.Pairwise.imp (fun {a b} (h : a < b) => Nat.ne_of_lt h) hG.rise
  have new : ∀ t ∈ as, H t = none := fun t ht => I.hok.fresh (Nat.le_of_lt (Nat.lt_of_le_of_lt hSz (hG.above t ht)))
  have newS : H S = none := I.hok.fresh hSz
  have atP := putP_at as ps (upd H S (.lst (as.map V.ref))) (by omega) nd
  have off : ∀ b, b ∉ as → b ≠ S → putP (upd H S (.lst (as.map V.ref))) as ps b = H b := fun b h1 h2 => by rw [putP_off as ps _ h1, upd_ne h2]
  have low : ∀ b o, s.heap.get? b = some o → b ∉ as ∧ b ≠ S := fun b o e => ⟨fun z => absurd (Heap.lt_size e) (Nat.not_lt.mpr (Nat.le_of_lt (Nat.lt_of_le_of_lt hSz (hG.above b z)))), Nat.ne_of_lt (Nat.lt_of_lt_of_le (Heap.lt_size e) hSz)⟩
  have kp : ∀ b u, H b = some u → (putP (upd H S (.lst (as.map V.ref))) as ps) b = some u := fun b u e => by
    rw [off b (fun z => by rw [new b z] at e; cases e) (fun z => by rw [z, newS] at e; cases e)]
    exact e
  have eS : putP (upd H S (.lst (as.map V.ref))) as ps S = some (.lst (as.map V.ref)) := by rw [putP_off as ps _ hSn, upd_same]
  refine ⟨putP (upd H S (.lst (as.map V.ref))) as ps, kp, newS, new, hSn, eS, atP, ?_⟩
  refine I.call' (ch := []) rfl ⟨fun b o q _ _ _ => hk b o q, fun b o q _ _ _ => ⟨o.slots, hk b o q⟩, fun b o q n _ => ?_, fun b o q _ => ⟨o, hk b o q⟩, fun b xs q => kp b _ q, fun b o u q => kp b _ q, fun b ps q => ⟨#[], by rw [kp b _ q]; simp⟩⟩ (fun b u q => ?_) I.bare fun b z => by simp at z
  · obtain ⟨z1, z2⟩ := low b o q
    rw [off b z1 z2]
    exact n
  · by_cases hb : b ∈ as
    · obtain ⟨j, pk, e1, e2, e3⟩ := LiI.paired_ix atP hb
      rw [e3] at q
      cases q
      obtain ⟨k, x, f1, f3⟩ := hG.pairs j b e1
      obtain ⟨qv, g1, g2, g3⟩ := LiI.paired_get kv e2
      rw [f1] at g1
      cases g1
      exact ⟨by show 2 ≤ sizeLine; decide, [k, x], .cons g2 (.cons g3 .nil), ⟨_, f3, rfl, _, rfl⟩⟩
    · by_cases hb2 : b = S
      · rw [hb2] at q ⊢
        rw [eS] at q
        cases q
        refine ⟨by rw [List.length_map]; omega, acc.toList, c, by rw [hacc]; exact LiI.vals_refs as, ?_⟩
        rw [Array.toArray_toList]
        exact hS
      · rw [off b hb hb2] at q
        exact (I.hok b u q).stay (fun d v _ y => hk d v y) (fun d y => kp d _ y) fun d xs y => kp d _ y
def tListZip (K : PySem.W.Frag) (ta : TA) : TE := fun σ H Q => ta σ H fun vs H1 => ∃ (a b : Addr) (xs ys : List V), vs = [.ref a, .ref b] ∧ SqL K H1 a xs ∧ SqL K H1 b ys ∧
  ∀ (H' : Hp) (p : Addr) (ts : List Addr), (∀ b o, H1 b = some o → H' b = some o) → H1 p = none → (∀ t ∈ ts, H1 t = none) → p ∉ ts → H' p = some (.lst (ts.map V.ref)) → Paired (fun (t : Addr) (q : V × V) => H' t = some (.tup [q.1, q.2])) ts (xs.zip ys) → Q (.ref p) H'
/-- list(zip(xs, ys)) of two lists -/
theorem pe_listZip {e e2 : Expr} {ta : TA} {p p2 q pos : Pos} (hc : X.calm = true) (hg : Gl X "list") (hm : X.mg "list" = none) (hv : bootBuiltins "list" = some (.type "list")) (hg2 : Gl X "zip") (hm2 : X.mg "zip" = none) (ha : PA X [e, e2] ta)
    (hs : starEach [.Call (.Name "zip" p2) [e, e2] [] q] X.env = (false, eval (.Call (.Name "zip" p2) [e, e2] [] q) X.env) :: starEach [] X.env := by rfl)
    (hs2 : starEach [e, e2] X.env = (false, eval e X.env) :: starEach [e2] X.env := by rfl) (hpl : (backTo q (starEach [e2] X.env)).any (·.1) = false := by rfl) :
    PE X (.Call (.Name "list" p) [.Call (.Name "zip" p2) [e, e2] [] q] [] pos) (tListZip X.K ta) := by
  refine ⟨fun pins s σ H Q I h => ?_⟩
  refine Call_ (ld_blt I hg hm hv ?_)
  refine PyProof.Rows.callWith_type1 (PyProof.Rows.args_cons ?_ hs) hs rfl
  refine Call_ (ld_blt I hg2 hm2 PyProof.Rows.boot_zip (PyProof.Rows.callWith_type1 (thn (ha.run q pins s σ H _ I h) fun us s1 ⟨vs, H1, I1, r1, q1⟩ => ?_) hs2 hpl))
  obtain ⟨a, b, xs, ys, rfl, hqx, hqy, q1⟩ := q1
  cases r1 with
  | cons r rr =>
    cases rr with
    | cons r' rr =>
      cases rr
      cases r
      cases r'
      obtain ⟨its, rv, p1, z1⟩ := I1.list hqx
      obtain ⟨its2, rv2, p2, z2⟩ := I1.list hqy
      refine call_zip_2 p1.isList p2.isList fun h' hz hTI hTO h1 h2 hsz hk => ?_
      refine PyProof.Rows.args_nil ?_
      have D := PySem.W.ktu_apart s1.heap.objs.size a b p1.lt p2.lt
      have lx : xs.length = its.length := Paired.length rv
      have ly : ys.length = its2.length := Paired.length rv2
      have hn : (its.toArray.toList.zip its2.toArray.toList).length ≤ sizeLine := by
        rw [List.length_zip]
        show min its.length its2.length ≤ sizeLine
        omega
      have l1 := p1.lt
      have l2 := p2.lt
      refine zg_call (s := { s1 with heap := h' }) (xs := its.toArray) (ys := its2.toArray) (I1.ok.hd hc) D hz hTI ⟨_, _, hTO⟩ h1 h2 (p1.isList.at fun o e => hk _ o e) (p2.isList.at fun o e => hk _ o e) ⟨?_, ?_, ?_, ?_, ?_, ?_, ?_⟩ ⟨?_, ?_, ?_, ?_⟩ hn fun hh acc c as hkk hS' hl hG hacc => ?_
      any_goals (refine Nat.ne_of_lt ?_; show (_ : Nat) < h'.objs.size; rw [hsz]; first | omega | exact Nat.lt_add_right _ (by assumption))
      any_goals (show (_ : Nat) < h'.objs.size; rw [hsz]; omega)
      have lo : ∀ b o, s1.heap.get? b = some o → hh.get? b = some o := fun b o e => by
        have := Heap.lt_size e
        exact hkk b o (Nat.ne_of_lt (Nat.lt_add_right _ this)) (Nat.ne_of_lt (Nat.lt_add_right _ this)) (Nat.ne_of_lt this) (Nat.ne_of_lt (Nat.lt_add_right _ this)) (hk b o e)
      obtain ⟨H', k1, k2, k3, k4, k5, k6, J⟩ := pairs_laid (tk := s1.toks) (S := h'.objs.size) I1 (ps := xs.zip ys) (by rw [List.length_zip]; omega) (vals_zip rv rv2) (by rw [hsz]; omega) lo hS' hl hG hacc
      exact ⟨.ref _, H', J, rfl, q1 H' _ as k1 k2 k3 k4 k5 k6⟩
end
/-! ### in the own reckoning -/
def zipP (l m : List P) : List P := (l.zip m).map fun q => .tup [q.1, q.2]
def fListZip (fs : FA) : FE := fun ds S => match fs ds S with
  | some ([x, y], S1) => match lstP S1 x, lstP S1 y with
    | some l, some m => some (.p (.lst (zipP l m)), S1)
    | _, _ => none
  | _ => none
theorem zipP_rel {K : PySem.W.Frag} {W : Wd} {H' : Hp} (x : Ext W (W.up H')) : ∀ {l m : List P} {xs ys : List V} {ts : List Addr}, RPs K W.H W.L l xs → RPs K W.H W.L m ys → Paired (fun (t : Addr) (q : V × V) => H' t = some (.tup [q.1, q.2])) ts (xs.zip ys) → RPs K H' (W.up H').L (zipP l m) (ts.map V.ref)
  | [], _, _, _, _, .nil, _, h => by
    cases h; exact .nil
  | _ :: _, [], _, _, _, .cons _ _, .nil, h => by
    cases h; exact .nil
  | _ :: _, _ :: _, _, _, _, .cons h1 t1, .cons h2 t2, .cons h t => .cons (.tup h (.cons (RP.mono x.keep x.tups h1) (.cons (RP.mono x.keep x.tups h2) .nil))) (zipP_rel x t1 t2 t)
theorem lstP_ok {K : PySem.W.Frag} {W : Wd} {d : D} {v : V} {l : List P} (s : RS K W) (r : RD K W d v) (h : lstP W.S d = some l) : ∃ a vs, v = .ref a ∧ SqL K W.H a vs ∧ RPs K W.H W.L l vs := by
  unfold lstP at h
  split at h
  · rename_i l' e
    obtain ⟨a, vs, e1, e2, e3⟩ := lstD_ok s r e
    exact ⟨a, vs, e1, e2, allP_rel h e3⟩
  · cases h
theorem de_listZip {X : Cx} {e e2 : Expr} {fs : FA} {p p2 q pos : Pos} (hc : X.calm = true) (hg : Gl X "list") (hm : X.mg "list" = none) (hv : bootBuiltins "list" = some (.type "list")) (hg2 : Gl X "zip") (hm2 : X.mg "zip" = none) (ha : DA X [e, e2] fs)
    (hs : starEach [.Call (.Name "zip" p2) [e, e2] [] q] X.env = (false, eval (.Call (.Name "zip" p2) [e, e2] [] q) X.env) :: starEach [] X.env := by rfl)
    (hs2 : starEach [e, e2] X.env = (false, eval e X.env) :: starEach [e2] X.env := by rfl) (hpl : (backTo q (starEach [e2] X.env)).any (·.1) = false := by rfl) :
    DE X (.Call (.Name "list" p) [.Call (.Name "zip" p2) [e, e2] [] q] [] pos) (fListZip fs) := PE.imp (pe_listZip hc hg hm hv hg2 hm2 ha hs hs2 hpl) fun σ H Q ⟨W, ds, d, S', eH, s, re, e, qq⟩ => by
  unfold fListZip at e
  split at e
  · rename_i x y S1 e1
    split at e
    · rename_i l m el em
      cases e
      refine ⟨W, ds, [x, y], S', eH, s, re, e1, fun W1 vs t1 r1 => ?_⟩
      cases r1 with
      | cons rx rr =>
        cases rr with
        | cons ry rr =>
          cases rr
          obtain ⟨a, xs, rfl, h1, h2⟩ := lstP_ok t1.s rx (by rw [t1.e]; exact el)
          obtain ⟨b, ys, rfl, h3, h4⟩ := lstP_ok t1.s ry (by rw [t1.e]; exact em)
          refine ⟨a, b, xs, ys, rfl, h1, h3, fun H' p ts k1 k2 k3 k4 k5 k6 => ?_⟩
          have t2 := up_ok t1.s k1
          refine qq (W1.up H') (.ref p) ⟨t1.x.trans t2.x, t2.s, t1.e⟩ ?_
          exact RP.lst k5 (RP.fresh (u := .lst []) t1.s k2) (zipP_rel t2.x h2 h4 k6)
    · cases e
  · cases e
@[simp] theorem fListZip_eq {fs : FA} {ds : DS} {S : DH} : fListZip fs ds S = match fs ds S with
  | some ([x, y], S1) => (match lstP S1 x, lstP S1 y with
    | some l, some m => some (.p (.lst (zipP l m)), S1)
    | _, _ => none)
  | _ => none := rfl
end CK
/-! CkZo: for k, v in d.items(), for v in d.values(). -/
namespace CK
open PySem PySem.Spec PyProof.Rows L2

/-- the entries of a dict that stays as it is -/
def entD (S : DH) : D → Option (List (Key × D))
  | .p (.dK l) => some (l.map fun q => (q.1, .p q.2))
  | .ref i => match S[i]? with
    | some (.kK l) => some l
    | _ => none
  | _ => none
def fItI (fe : FE) : FI := fun ds S => match fe ds S with
  | none => none
  | some (d, S1) => match entD S1 d with
    | none => none
    | some l => match kpD l with
      | none => none
      | some ps => some (ps.map .p, fun _ => True, S1)
def fItV (fe : FE) : FI := fun ds S => match fe ds S with
  | none => none
  | some (d, S1) => match entD S1 d with
    | none => none
    | some l => some (l.map (·.2), fun _ => True, S1)
theorem kpD_get : ∀ {l : List (Key × D)} {ps : List P} {i : Nat} {d : D}, kpD l = some ps → (ps.map D.p)[i]? = some d → ∃ k x, l[i]? = some (k, .p x) ∧ d = .p (.tup [kP k, x])
  | [], ps, i, d, e, h => by cases e; simp at h
  | (k, .ref j) :: l, ps, i, d, e, h => by cases e
  | (k, .p x) :: l, ps, i, d, e, h => by
    have e : (kpD l).map (P.tup [kP k, x] :: ·) = some ps := e
    cases q : kpD l with
    | none => rw [q] at e; cases e
    | some r =>
      rw [q] at e; cases e
      cases i with
      | zero => exact ⟨k, x, rfl, by simpa using h.symm⟩
      | succ i =>
        obtain ⟨k', x', h1, h2⟩ := kpD_get (l := l) (i := i) (d := d) q (by simpa using h)
        exact ⟨k', x', by simpa using h1, h2⟩
theorem kpD_length : ∀ {l : List (Key × D)} {ps : List P}, kpD l = some ps → ps.length = l.length
  | [], ps, e => by cases e; rfl
  | (k, .ref j) :: l, ps, e => by cases e
  | (k, .p x) :: l, ps, e => by
    have e : (kpD l).map (P.tup [kP k, x] :: ·) = some ps := e
    cases q : kpD l with
    | none => rw [q] at e; cases e
    | some r =>
      rw [q] at e; cases e
      rw [List.length_cons, List.length_cons, kpD_length q]
section
variable {K : PySem.W.Frag} {W0 : Wd} {a : Addr} {o : Obj}
theorem wk_items {l : List (Key × D)} {kvs : List (Key × V)} {ps : List P} (h : W0.H a = some (.frz o (.dK kvs))) (r : RDk K W0 l kvs) (ek : kpD l = some ps) : Wk K W0 (ps.map .p) (fun _ => True) (Iti a o kvs) where
  go := fun W i d x s _ e => by
    obtain ⟨k, y, h1, rfl⟩ := kpD_get ek e
    obtain ⟨kv, h2, h3, h4⟩ := paired_get r h1
    refine ⟨⟨x.frz _ _ _ h, get_lt h2⟩, fun u H' yy => ?_⟩
    obtain ⟨T, k', v', h5, rfl, hT, rfl⟩ := yy
    rw [h2] at h5; cases h5
    have h3 : k = k' := h3
    subst h3
    obtain ⟨W', h8, h9, h10⟩ := pair_new s hT (kP_ok k) (RD.ext x h4)
    exact ⟨W', h8, h9, h10⟩
  stop := fun W x s _ => ⟨x.frz _ _ _ h, by rw [List.length_map, kpD_length ek, Paired.length r]; exact Nat.le_refl _⟩
theorem wk_values {l : List (Key × D)} {kvs : List (Key × V)} (h : W0.H a = some (.frz o (.dK kvs))) (r : RDk K W0 l kvs) : Wk K W0 (l.map (·.2)) (fun _ => True) (Itd a o kvs) where
  go := fun W i d x s _ e => by
    rw [List.getElem?_map] at e
    cases h0 : l[i]? with
    | none => rw [h0] at e; cases e
    | some q =>
      rw [h0] at e; cases e
      obtain ⟨kv, h2, h3, h4⟩ := paired_get r h0
      refine ⟨⟨x.frz _ _ _ h, get_lt h2⟩, fun u H' yy => ?_⟩
      obtain ⟨e1, k', h5⟩ := yy
      rw [h2] at h5; cases h5
      exact ⟨W, e1.symm, To.refl s, RD.ext x h4⟩
  stop := fun W x s _ => ⟨x.frz _ _ _ h, by rw [List.length_map, Paired.length r]; exact Nat.le_refl _⟩
/-- a dict with its entries, locked -/
theorem ent_ok {W : Wd} {d : D} {v : V} {l : List (Key × D)} (s : RS K W) (r : RD K W d v) (e : entD W.S d = some l) : ∃ a o kvs, v = .ref a ∧ W.H a = some (.frz o (.dK kvs)) ∧ RDk K W l kvs := by
  cases d with
  | p x =>
    cases x with
    | dK l' =>
      cases e
      cases r with
      | dK h1 _ h2 =>
        obtain ⟨o, h1⟩ := h1
        exact ⟨_, o, _, rfl, h1, rpk_d h2⟩
    | _ => cases e
  | ref i =>
    obtain ⟨a, ea, rfl⟩ := r
    have e : (match W.S[i]? with | some (.kK l) => some l | _ => none) = some l := e
    split at e
    · rename_i l' el
      cases e
      obtain ⟨o, kvs, h1, h2⟩ := s.obj i _ a el ea
      exact ⟨a, o, kvs, rfl, h1, h2⟩
    · cases e
end
section
variable {X : Cx} {tg e : Expr} {fe : FE} {apos cpos tpos : Pos} {elts : List Expr} {kk : Nat}
theorem di_items (he : DE X e fe) (hbase : attributeBase e "items" X.env (eval e X.env) = eval e X.env := by rfl) (hline : (apos.endLine == cpos.line) = true := by rfl) :
    DI X (.Tuple elts kk tpos) (.Call (.Attribute e "items" apos) [] [] cpos) (fItI fe) := PI.imp (pi_items he hbase hline) fun σ H R ⟨W, ds, its, chk, S', eH, s, re, e, q⟩ => by
  unfold fItI at e
  split at e
  · cases e
  rename_i d S1 e1
  split at e
  · cases e
  rename_i l e2
  split at e
  · cases e
  rename_i ps e3
  cases e
  refine ⟨W, ds, _, _, eH, s, re, e1, fun W1 v t1 r1 => ?_⟩
  obtain ⟨a, o, kvs, rfl, h1, h2⟩ := ent_ok t1.s r1 (by rw [t1.e]; exact e2)
  exact ⟨a, o, kvs, rfl, h1, q W1 _ t1 (wk_items h1 h2 e3)⟩
theorem di_values (he : DE X e fe) (hbase : attributeBase e "values" X.env (eval e X.env) = eval e X.env := by rfl) (hline : (apos.endLine == cpos.line) = true := by rfl) :
    DI X tg (.Call (.Attribute e "values" apos) [] [] cpos) (fItV fe) := PI.imp (pi_values he hbase hline) fun σ H R ⟨W, ds, its, chk, S', eH, s, re, e, q⟩ => by
  unfold fItV at e
  split at e
  · cases e
  rename_i d S1 e1
  split at e
  · cases e
  rename_i l e2
  cases e
  refine ⟨W, ds, _, _, eH, s, re, e1, fun W1 v t1 r1 => ?_⟩
  obtain ⟨a, o, kvs, rfl, h1, h2⟩ := ent_ok t1.s r1 (by rw [t1.e]; exact e2)
  exact ⟨a, o, kvs, rfl, h1, q W1 _ t1 (wk_values h1 h2)⟩
end
@[simp] theorem fItI_eq {fe : FE} {ds : DS} {S : DH} : fItI fe ds S = match fe ds S with
  | none => none
  | some (d, S1) => (match entD S1 d with
    | none => none
    | some l => (match kpD l with
      | none => none
      | some ps => some (ps.map .p, fun _ => True, S1))) := rfl
@[simp] theorem fItV_eq {fe : FE} {ds : DS} {S : DH} : fItV fe ds S = match fe ds S with
  | none => none
  | some (d, S1) => (match entD S1 d with
    | none => none
    | some l => some (l.map (·.2), fun _ => True, S1)) := rfl
end CK
set_option maxHeartbeats 2000000
/-! CkZp: sorted(d.items()), keys texts. -/
namespace CK
open PySem PySem.Spec PyProof.Rows L2 PySem.W

/-- a tuple of a text and something -/
def TxP (h : Heap) (v : Value) (k : Str) : Prop := ∃ (a : Addr) (t : Tok) (x : Value), v = .ref a ∧ h.get? a = some { cls := .type "tuple", data := .seq #[.str k t, x] }
theorem TxP.uniq {h : Heap} {v : Value} {k k' : Str} (p : TxP h v k) (q : TxP h v k') : k = k' := by
  obtain ⟨a, t, x, rfl, e⟩ := p
  obtain ⟨b, u, y, e2, e3⟩ := q
  injection e2 with e2
  subst e2
  rw [e] at e3
  simp at e3
  exact e3.1.1
noncomputable def txKind (vs : List Value) (ks : List Str) : PyProof.Rows.KeyKind where
  toKeyOrd := listOrd itemOrd
  keyOf v := open Classical in if q : ∃ k, (v, k) ∈ vs.zip ks then some (keyToks (.str q.choose)) else none
  dflt := ([] : List (Int ⊕ List Nat))
section
variable {h : Heap} {vs : List Value} {ks : List Str} {v v' : Value} {k : Str}
theorem txKind_some (e : EachIs (TxP h) vs ks) (hm : (v, k) ∈ vs.zip ks) : (txKind vs ks).keyOf v = some (keyToks (.str k)) := by
  have q : ∃ k, (v, k) ∈ vs.zip ks := ⟨k, hm⟩
  have e1 : (txKind vs ks).keyOf v = some (keyToks (.str q.choose)) := by
    show (open Classical in if q : ∃ k, (v, k) ∈ vs.zip ks then some (keyToks (.str q.choose)) else none) = _
    rw [dif_pos q]
  have u : q.choose = k := TxP.uniq (h := h) (v := v) (e.zip (v, q.choose) q.choose_spec) (e.zip (v, k) hm)
  rw [e1, u]
theorem txKind_inv {a : List (Int ⊕ List Nat)} (e : (txKind vs ks).keyOf v = some a) : ∃ k, (v, k) ∈ vs.zip ks ∧ a = keyToks (.str k) := by
  by_cases q : ∃ k, (v, k) ∈ vs.zip ks
  · have e1 : (txKind vs ks).keyOf v = some (keyToks (.str q.choose)) := by
      show (open Classical in if q : ∃ k, (v, k) ∈ vs.zip ks then some (keyToks (.str q.choose)) else none) = _
      rw [dif_pos q]
    rw [e1] at e
    exact ⟨_, q.choose_spec, (Option.some.inj e).symm⟩
  · have e1 : (txKind vs ks).keyOf v = none := by
      show (open Classical in if q : ∃ k, (v, k) ∈ vs.zip ks then some (keyToks (.str q.choose)) else none) = _
      rw [dif_neg q]; rfl
    rw [e1] at e; cases e
theorem zip_same (nd : ks.Nodup) (h1 : (v, k) ∈ vs.zip ks) (h2 : (v', k) ∈ vs.zip ks) : v = v' := by
  obtain ⟨i, hi⟩ := List.mem_iff_getElem?.mp h1
  obtain ⟨j, hj⟩ := List.mem_iff_getElem?.mp h2
  rw [List.getElem?_zip_eq_some] at hi hj
  obtain ⟨a1, a2⟩ := hi
  obtain ⟨b1, b2⟩ := hj
  obtain ⟨li, ei⟩ := List.getElem?_eq_some_iff.mp a2
  obtain ⟨lj, ej⟩ := List.getElem?_eq_some_iff.mp b2
  have : i = j := (List.getElem_inj nd).mp (by rw [ei, ej])
  subst this
  exact Option.some.inj (a1.symm.trans b1)
theorem tx_tups : ∀ {vs : List Value} {ks : List Str}, EachIs (TxP h) vs ks → ∃ fs, KatTups h vs fs ∧ fs.length = vs.length ∧ ∀ f ∈ fs, ∃ k t, f = .str k t
  | _, _, .nil => ⟨[], KatTups.nil, rfl, fun f hf => absurd hf (by simp)⟩
  | _, _, .cons (b := k) ⟨a, t, x, e, g⟩ r => by
    obtain ⟨fs, h1, h2, h3⟩ := tx_tups r
    subst e
    refine ⟨.str k t :: fs, KatTups.cons g rfl rfl rfl h1, by rw [List.length_cons, List.length_cons, h2], fun f hf => ?_⟩
    rcases List.mem_cons.mp hf with rfl | hf
    · exact ⟨k, t, rfl⟩
    · exact h3 f hf
end
section
variable {prog : Program} {w : World} {A : Around} {E : Value → Shared → Prop} {s : Shared} {vs : List Value} {ks : List Str}
theorem sortsAt_tx (e : EachIs (TxP s.heap) vs ks) (nd : ks.Nodup) (hu : A.units < cLine) : SortsAt prog w A s (txKind vs ks) vs := by
  refine ⟨fun v hv => ?_, tuples' (Value.type "str" != Value.type "tuple"), ?_, fun h2 E Q hq => ?_⟩
  · obtain ⟨i, hi⟩ := List.mem_iff_getElem?.mp hv
    have hl := e.length
    obtain ⟨li, ei⟩ := List.getElem?_eq_some_iff.mp hi
    have hk : ks[i]? = some (ks[i]'(by omega)) := List.getElem?_eq_getElem _
    exact ⟨_, txKind_some e (List.mem_iff_getElem?.mpr ⟨i, by rw [List.getElem?_zip_eq_some]; exact ⟨hi, hk⟩⟩)⟩
  · intro E x y a b Q ha hb hq
    obtain ⟨k, hx, rfl⟩ := txKind_inv ha
    obtain ⟨k', hy, rfl⟩ := txKind_inv hb
    have hq' : Q (dataLt (.str k) (.str k')) s := hq
    by_cases hk : k = k'
    · subst hk
      have hxy := zip_same nd hx hy
      subst hxy
      obtain ⟨ax, tx, ux, ex, gx⟩ := e.zip _ hx
      have ex : x = .ref ax := ex
      subst ex
      rw [dataLt_str, decide_eq_false (List.lt_irrefl _)] at hq'
      exact kat_lt gx rfl gx rfl (kat_cons (SeqAt.EqAt.same _ prog w _ _ (kat_yes (kat_cons (SeqAt.EqAt.same _ prog w _ _ (kat_yes (kat_nil hq')))))))
    · obtain ⟨ax, tx, ux, ex, gx⟩ := e.zip _ hx
      obtain ⟨ay, ty, uy, ey, gy⟩ := e.zip _ hy
      have ex : x = .ref ax := ex
      have ey : y = .ref ay := ey
      subst ex ey
      refine kat_lt gx rfl gy rfl (kat_cons (SeqAt.EqAt.str_str k tx k' ty prog w _ _ ?_))
      have hne : (k == k') = false := by simpa using hk
      rw [hne]
      exact kat_no (oneLt_alike (fun _ xs z => by cases z) (.str _ _) (.str _ _) rfl (fun z => by cases z) (by show A.units + min 0 0 < cLine; simpa using hu) hq')
  · obtain ⟨fs, t1, t2, t3⟩ := tx_tups e
    refine kat_kind (T := Value.type "str") t1 (by omega) (fun f hf => ?_) (beq_self_eq_true _) hq
    obtain ⟨k, t, rfl⟩ := t3 f hf
    exact Looks.of_pure rfl
/-- xs.sort() of tuples that begin with texts, no two alike -/
theorem sort_tx {β : Type} {R : Value → β → Prop} {kf : β → Str} {a : Addr} {bs : List β} {Q : Value → Shared → Prop} (ho : s.heap.get? a = some (seqObj "list" vs.toArray 0)) (e : EachIs R vs bs) (er : EachIs (TxP s.heap) vs (bs.map kf)) (nd : (bs.map kf).Nodup) (hL : bs.length ≤ sizeLine) (hu : A.units + 1 < cLine)
    (h : ∀ out : List Value, out.length = bs.length → EachIs R out (bs.mergeSort (dataLe false fun b => PyData.str (kf b))) → Q .none { s with heap := sortedHeap s.heap a vs out.toArray }) : wpAny (model prog w) A (call (.builtin "list.sort") [.ref a]) Q E s := by
  have er' : EachIs (TxP (sortingHeap s.heap a vs)) vs (bs.map kf) := er.mono fun v k ⟨b, t, x, e1, g⟩ => ⟨b, t, x, e1, sortingHeap_old (fun z => by
    subst z
    rw [ho] at g
    have := congrArg (fun o : Option Obj => o.map Obj.cls) g
    simp [seqObj] at this) g⟩
  have hl : vs.length = bs.length := e.length
  refine wpAny_call_entry slot_list_sort ⟨_, ho, rfl⟩ entry_list_sort (list_sort_vals (κ := txKind vs (bs.map kf)) ho (sortsAt_tx (s := { s with heap := sortingHeap s.heap a vs }) er' nd hu) (by rw [hl]; exact hL) ⟨.none, rfl, ?_⟩) (args_list_sort _)
  refine h _ (by rw [sortVals_length false rfl]; exact hl) (sortVals_each (κ := txKind vs (bs.map kf)) (fun b => keyToks (.str (kf b))) e ?_)
  refine EachIs.of_zip hl fun p hp => txKind_some er' ?_
  obtain ⟨i, hi⟩ := List.mem_iff_getElem?.mp hp
  rw [List.getElem?_zip_eq_some] at hi
  exact List.mem_iff_getElem?.mpr ⟨i, by rw [List.getElem?_zip_eq_some, List.getElem?_map, hi.2]; exact ⟨hi.1, rfl⟩⟩
end
/-- a key's text -/
def keyS : Key → Str
  | .inr x => x
  | .inl _ => ""
def leK {α : Type} (x y : Key × α) : Bool := leS (keyS x.1) (keyS y.1)
def sortK {α : Type} (l : List (Key × α)) : List (Key × α) := l.mergeSort leK
section
variable {X : Cx}
theorem pairs_laid2 {pins : List (Addr × Obj)} {σ : L2.St} {H : Hp} {s : Shared} {h' : Heap} {tk : Nat} {S : Addr} {ps : List (V × V)} {acc : Array Value} {c : Nat} {as ts : List Addr} (I : Inv X pins σ H s) (hz : ts.length ≤ sizeLine)
    (hSz : s.heap.objs.size ≤ S) (hk : ∀ b o, s.heap.get? b = some o → h'.get? b = some o) (hS : h'.get? S = some { cls := .type "list", dict := none, data := .seq acc c, slots := #[] }) (hl : as.length = ps.length) (new : ∀ a ∈ as, s.heap.objs.size ≤ a) (hSn : S ∉ as) (nd : as.Nodup)
    (hG : ∀ (j : Nat) (a : Addr), as[j]? = some a → ∃ p k x, ps[j]? = some p ∧ RelV p.1 k ∧ RelV p.2 x ∧ h'.get? a = some { cls := .type "tuple", data := .seq #[k, x] }) (hacc : acc.toList = ts.map Value.ref) :
    ∃ H' : Hp, (∀ b o, H b = some o → H' b = some o) ∧ H S = none ∧ (∀ t ∈ as, H t = none) ∧ S ∉ as ∧ H' S = some (.lst (ts.map V.ref)) ∧ Paired (fun (t : Addr) (q : V × V) => H' t = some (.tup [q.1, q.2])) as ps ∧ Inv X pins σ H' { s with heap := h', toks := tk } := by
  have new' : ∀ t ∈ as, H t = none := fun t ht => I.hok.fresh (new t ht)
  have newS : H S = none := I.hok.fresh hSz
  have atP := putP_at as ps (upd H S (.lst (ts.map V.ref))) hl nd
  have off : ∀ b, b ∉ as → b ≠ S → putP (upd H S (.lst (ts.map V.ref))) as ps b = H b := fun b h1 h2 => by rw [putP_off as ps _ h1, upd_ne h2]
  have low : ∀ b o, s.heap.get? b = some o → b ∉ as ∧ b ≠ S := fun b o e => ⟨fun z => absurd (Heap.lt_size e) (Nat.not_lt.mpr (new b z)), Nat.ne_of_lt (Nat.lt_of_lt_of_le (Heap.lt_size e) hSz)⟩
  have kp : ∀ b u, H b = some u → (putP (upd H S (.lst (ts.map V.ref))) as ps) b = some u := fun b u e => by
    rw [off b (fun z => by rw [new' b z] at e; cases e) (fun z => by rw [z, newS] at e; cases e)]
    exact e
  have eS : putP (upd H S (.lst (ts.map V.ref))) as ps S = some (.lst (ts.map V.ref)) := by rw [putP_off as ps _ hSn, upd_same]
  refine ⟨putP (upd H S (.lst (ts.map V.ref))) as ps, kp, newS, new', hSn, eS, atP, ?_⟩
  refine I.call' (ch := []) rfl ⟨fun b o q _ _ _ => hk b o q, fun b o q _ _ _ => ⟨o.slots, hk b o q⟩, fun b o q n _ => ?_, fun b o q _ => ⟨o, hk b o q⟩, fun b xs q => kp b _ q, fun b o u q => kp b _ q, fun b ps q => ⟨#[], by rw [kp b _ q]; simp⟩⟩ (fun b u q => ?_) I.bare fun b z => by simp at z
  · obtain ⟨z1, z2⟩ := low b o q
    rw [off b z1 z2]
    exact n
  · by_cases hb : b ∈ as
    · obtain ⟨j, pk, e1, e2, e3⟩ := LiI.paired_ix atP hb
      rw [e3] at q
      cases q
      obtain ⟨p, k, x, f1, g2, g3, f3⟩ := hG j b e1
      rw [e2] at f1
      cases f1
      exact ⟨by show 2 ≤ sizeLine; decide, [k, x], .cons g2 (.cons g3 .nil), ⟨_, f3, rfl, _, rfl⟩⟩
    · by_cases hb2 : b = S
      · rw [hb2] at q ⊢
        rw [eS] at q
        cases q
        refine ⟨by rw [List.length_map]; omega, acc.toList, c, by rw [hacc]; exact LiI.vals_refs ts, ?_⟩
        rw [Array.toArray_toList]
        exact hS
      · rw [off b hb hb2] at q
        exact (I.hok b u q).stay (fun d v _ y => hk d v y) (fun d y => kp d _ y) fun d xs y => kp d _ y
def tSortItems (te : TE) : TE := fun σ H Q => te σ H fun x H1 => ∃ (d : Addr) (kvs : List (Key × V)) (ks : List Str), x = .ref d ∧ Rd H1 d (.dK kvs) ∧ kvs.map (·.1) = ks.map Sum.inr ∧ ks.Nodup ∧ kvs.length ≤ 4000 ∧
  ∀ (H' : Hp) (p : Addr) (ts : List Addr), (∀ b o, H1 b = some o → H' b = some o) → H1 p = none → H' p = some (.lst (ts.map V.ref)) → Paired (fun (t : Addr) (q : Key × V) => H' t = some (.tup [kV q.1, q.2])) ts (sortK kvs) → Q (.ref p) H'
theorem paired_zip {α β : Type} {F : α → β → Prop} : ∀ {l : List α} {m : List β}, Paired F l m → ∀ z ∈ l.zip m, F z.1 z.2
  | _, _, .nil, z, hz => by cases hz
  | _, _, .cons h t, z, hz => by
    rw [List.zip_cons_cons] at hz
    rcases List.mem_cons.mp hz with rfl | hz
    · exact h
    · exact paired_zip t z hz
theorem paired_of {α β : Type} {F : α → β → Prop} : ∀ {l : List (α × β)}, (∀ z ∈ l, F z.1 z.2) → Paired F (l.map (·.1)) (l.map (·.2))
  | [], _ => .nil
  | z :: l, h => .cons (h z List.mem_cons_self) (paired_of fun y hy => h y (List.mem_cons_of_mem _ hy))
theorem pe_sortItems {e : Expr} {te : TE} {p apos cpos pos : Pos} (hc : X.calm = true) (hu : X.A.units + 64 < cLine) (he : PE X e te) (hg : Gl X "sorted") (hm : X.mg "sorted" = none) (hb : bootBuiltins "sorted" = some (.builtin "sorted")) (hbase : attributeBase e "items" X.env (eval e X.env) = eval e X.env := by rfl) (hline : (apos.endLine == cpos.line) = true := by rfl)
    (hs : starEach [.Call (.Attribute e "items" apos) [] [] cpos] X.env = (false, eval (.Call (.Attribute e "items" apos) [] [] cpos) X.env) :: starEach [] X.env := by rfl) :
    PE X (.Call (.Name "sorted" p) [.Call (.Attribute e "items" apos) [] [] cpos] [] pos) (tSortItems te) := by
  refine ⟨fun pins s σ H Q I hq => ?_⟩
  refine Call_ (ld_blt I hg hm hb ?_)
  refine PyProof.Rows.callWith_builtin1 (PyProof.Rows.args_cons ?_ hs) hs rfl
  refine wpAny_Call_method (T := "dict") (id := "dict.items") hbase rfl hline F.plainAttrs_dict F.slot_dict_items F.type_dict_items (thn (he.run pins s σ H _ I hq) fun u s1 ⟨x, H1, I1, rx, d, kvs, ks, ex, hd, hks, hnd, hlen, q⟩ => ?_)
  subst ex
  obtain rfl : u = Value.ref d := rx
  obtain ⟨hz, lo, vs, kv, dd⟩ := dk_rd I1.hok hd
  obtain ⟨ep, hat⟩ := dd.dictAt
  have lk : kvs.length = vs.length := Paired.length kv
  have I2 : Inv X pins σ H1 { s1 with heap := s1.heap.push { cls := .type "dict_items", data := .fields #[.ref d] } } := I1.kept (t' := s1.toks) fun b ob q => Heap.get?_push_of_some _ q
  refine ⟨dd.typeIs, dd.mapOf.noDict, ?_⟩
  show wpAny _ _ (callWith cpos (.builtin "dict.items") [.ref d] [] []) _ X.xe s1
  refine method_meetsIn F.slot_dict_items F.entry_dict_items rfl (PySem.evalArgs_none ⟨rfl, dd.typeIs, F.args_dict_items_1 _, _, meets_dict_items (mixKind X.prog X.w) d lo, ⟨vs, dd⟩, ?_⟩)
  refine PyProof.Rows.args_nil ?_
  refine Calls.call_function_entry PyProof.Rows.kind_sorted PyProof.Rows.plain_sorted PyProof.Rows.entry_sorted (PyProof.Rows.args_sorted1 _) ?_
  unfold Builtin.«sorted»
  refine wpAny_bind (m := checkCount "sorted" 1 1 _) (wpAny_pure ?_)
  refine wpAny_bind (PySem.W.kdx_collect (A := X.A.in1) (knd := mixKind X.prog X.w) (kvs := vs) (ep := ep) (I1.ok.hd hc) ⟨_, Heap.get?_push_size _ rfl, rfl, rfl⟩ (hat.push _) (by omega) fun h' tk as hk hl hG => ?_)
  have hal : as.length = kvs.length := by omega
  have hkeys : vs.map (·.1) = ks.map Sum.inr := kv.keys.symm.trans hks
  have hkl : kvs.length = ks.length := by
    have e := congrArg List.length hks
    rw [List.length_map, List.length_map] at e
    exact e
  have at_ : ∀ (j : Nat) (a : Addr), as[j]? = some a → ∃ (q : Key × V) (k : Str) (t : Tok) (x : Value), kvs[j]? = some q ∧ q.1 = .inr k ∧ ks[j]? = some k ∧ RelV (kV q.1) (.str k t) ∧ RelV q.2 x ∧ h'.get? a = some { cls := .type "tuple", data := .seq #[.str k t, x] } := fun j a hj => by
    obtain ⟨key, k, x, e1, e2, e3⟩ := hG.pairs j a hj
    have e4 : (vs.map (·.1))[j]? = some k := by rw [List.getElem?_map, e1]; all_goals rfl
    rw [hkeys, List.getElem?_map] at e4
    cases e5 : ks[j]? with
    | none => rw [e5] at e4; cases e4
    | some y =>
      rw [e5] at e4
      have e6 : Sum.inr y = k := Option.some.inj e4
      subst e6
      obtain ⟨t, ev⟩ := Value.isStrOf_shape (x := y) (v := key) e2
      subst ev
      have hj' : j < kvs.length := by
        have := (List.getElem?_eq_some_iff.mp hj).1
        omega
      have e7 : kvs[j]? = some kvs[j] := List.getElem?_eq_getElem hj'
      obtain ⟨qv, g1, g2, g3⟩ := LiI.paired_get kv e7
      rw [e1] at g1
      cases g1
      exact ⟨kvs[j], y, t, x, e7, g2, rfl, by rw [g2]; exact ⟨t, rfl⟩, g3, e3⟩
  have hz4 : (4000 : Nat) ≤ sizeLine := by rw [sizeLine_eq]; omega
  refine wpAny_bind (wpAny_newList ?_ (by rw [List.length_map, hal]; omega))
  have hoL : (h'.push (seqObj "list" (as.map Value.ref).toArray 0)).get? h'.objs.size = some (seqObj "list" (as.map Value.ref).toArray 0) := Heap.get?_push_size _ rfl
  show wpAny _ _ _ _ _ { s1 with heap := h'.push (seqObj "list" (as.map Value.ref).toArray 0), toks := tk }
  have zl : (as.zip kvs).length = kvs.length := by rw [List.length_zip, hal, Nat.min_self]
  have zk : (as.zip kvs).map (fun b => keyS b.2.1) = ks := by
    have h1 : (as.zip kvs).map (fun b => keyS b.2.1) = (((as.zip kvs).map (·.2)).map (·.1)).map keyS := by rw [List.map_map, List.map_map]; rfl
    rw [h1, List.map_snd_zip (by omega), hks, List.map_map]
    exact List.map_id _
  refine wpAny_bind (wpAny_holding (sort_tx (β := Addr × (Key × V)) (R := fun v b => v = Value.ref b.1) (kf := fun b => keyS b.2.1) (bs := as.zip kvs) (s := { s1 with heap := h'.push (seqObj "list" (as.map Value.ref).toArray 0), toks := tk }) hoL ?_ ?_ (by rw [zk]; exact hnd) (by rw [zl]; omega) (by show X.A.units + 1 + 1 < cLine; omega) fun out ho eo => ?_))
  · refine EachIs.of_zip (by rw [List.length_map, zl, hal]) fun p hp => ?_
    obtain ⟨j, hj⟩ := List.mem_iff_getElem?.mp hp
    rw [List.getElem?_zip_eq_some] at hj
    obtain ⟨j1, j2⟩ := hj
    rw [List.getElem?_zip_eq_some] at j2
    rw [List.getElem?_map, j2.1] at j1
    exact (Option.some.inj j1).symm
  · rw [zk]
    refine EachIs.of_zip (by rw [List.length_map, hal, hkl]) fun p hp => ?_
    obtain ⟨j, hj⟩ := List.mem_iff_getElem?.mp hp
    rw [List.getElem?_zip_eq_some] at hj
    obtain ⟨j1, j2⟩ := hj
    rw [List.getElem?_map] at j1
    obtain ⟨a, ha, e1⟩ := Option.map_eq_some_iff.mp j1
    obtain ⟨q', k, t, x, f1, f2, f3, f4, f5, f6⟩ := at_ j a ha
    rw [j2] at f3
    have f3 := Option.some.inj f3
    refine ⟨a, t, x, e1.symm, ?_⟩
    rw [f3]
    exact Heap.get?_push_of_some _ f6
  · have le_eq : dataLe false (fun b : Addr × (Key × V) => PyData.str (keyS b.2.1)) = fun x y => leK x.2 y.2 := by
      rw [PySem.W.dataLe_str fun b : Addr × (Key × V) => keyS b.2.1]; rfl
    rw [le_eq] at eo
    obtain ⟨bs, hbs⟩ : ∃ bs, bs = (as.zip kvs).mergeSort fun x y => leK x.2 y.2 := ⟨_, rfl⟩
    rw [← hbs] at eo
    have hout : out = (bs.map (·.1)).map Value.ref := by
      clear hbs ho
      induction eo with
      | nil => rfl
      | cons h _ ih => rw [List.map_cons, List.map_cons, ← ih, h]
    have hperm : bs.Perm (as.zip kvs) := by rw [hbs]; exact List.mergeSort_perm _ _
    have hsort : bs.map (·.2) = sortK kvs := by
      rw [hbs, List.map_mergeSort (s := leK) (fun x _ y _ => rfl), List.map_snd_zip (by omega)]; rfl
    have hbl : (bs.map (·.1)).length ≤ sizeLine := by rw [List.length_map, hperm.length_eq, zl]; omega
    obtain ⟨c, hcc⟩ := PyProof.Rows.sortedHeap_at (vs := as.map Value.ref) (out := out.toArray) hoL
    have old : ∀ b u, h'.get? b = some u → (PyProof.Rows.sortedHeap (h'.push (seqObj "list" (as.map Value.ref).toArray 0)) h'.objs.size (as.map Value.ref) out.toArray).get? b = some u := fun b u e => by
      have hlt := Heap.lt_size e
      rw [PyProof.Rows.sortedHeap_old (Nat.ne_of_lt hlt) (by rw [Heap.size_push]; exact Nat.lt_succ_of_lt hlt)]
      exact Heap.get?_push_of_some _ e
    have up1 : ∀ b u, s1.heap.get? b = some u → h'.get? b = some u := fun b u e => hk b u (Heap.get?_push_of_some _ e)
    have hsz1 : (s1.heap.push { cls := .type "dict_items", data := .fields #[.ref d] }).objs.size = s1.heap.objs.size + 1 := Heap.size_push ..
    obtain ⟨H', k1, k2, k3, k4, k5, k6, J⟩ := pairs_laid2 (tk := tk) (S := h'.objs.size) (acc := out.toArray) (c := c) (ts := bs.map (·.1)) (ps := kvs.map fun q => (kV q.1, q.2)) I1 hbl (Nat.le_of_lt (Heap.lt_size (hk s1.heap.objs.size _ (Heap.get?_push_size _ rfl)))) (fun b u e => old b u (up1 b u e)) hcc (by rw [List.length_map]; exact hal) (fun a ha => by
      have := hG.above a ha
      show s1.heap.objs.size ≤ a
      rw [hsz1] at this
      exact Nat.le_of_lt (Nat.lt_of_succ_lt this)) (fun z => Nat.lt_irrefl _ (hG.there z)) (List.Pairwise.imp (fun {a b} (h : a < b) => Nat.ne_of_lt h) hG.rise) (fun j a hj => by
      obtain ⟨q', k, t, x, f1, f2, f3, f4, f5, f6⟩ := at_ j a hj
      exact ⟨(kV q'.1, q'.2), _, _, by rw [List.getElem?_map, f1]; rfl, f4, f5, old _ _ f6⟩) (by rw [hout])
    have k7 : Paired (fun (t : Addr) (q : Key × V) => H' t = some (.tup [kV q.1, q.2])) (bs.map (·.1)) (bs.map (·.2)) := paired_of fun z hz => by
      have hz2 := hperm.mem_iff.mp hz
      refine paired_zip k6 (z.1, (kV z.2.1, z.2.2)) ?_
      rw [List.zip_map_right]
      exact List.mem_map.mpr ⟨z, hz2, rfl⟩
    rw [hsort] at k7
    exact wpAny_pure ⟨_, rfl, .ref _, H', J, rfl, q H' _ _ k1 k2 k5 k7⟩
end
/-! ### in the own reckoning -/
/-- a dict's entries, live or locked, texts and plain things -/
def entA (S : DH) : D → Option (List (Key × D))
  | .p (.dK l) => some (l.map fun q => (q.1, .p q.2))
  | .ref i => match S[i]? with
    | some (.kK l) => some l
    | some (.dK l) => some l
    | _ => none
  | _ => none
def keysS : List (Key × D) → Option (List Str)
  | [] => some []
  | (.inr x, _) :: r => (keysS r).map (x :: ·)
  | _ => none
theorem keysS_ok : ∀ {l : List (Key × D)} {ks : List Str}, keysS l = some ks → l.map (·.1) = ks.map Sum.inr
  | [], ks, e => by cases e; rfl
  | (.inr x, d) :: r, ks, e => by
    have e : (keysS r).map (x :: ·) = some ks := e
    cases q : keysS r with
    | none => rw [q] at e; cases e
    | some l =>
      rw [q] at e; cases e
      rw [List.map_cons, List.map_cons, keysS_ok q]
  | (.inl _, _) :: r, ks, e => by cases e
def gSortItems (d : D) (S : DH) : Option (D × DH) := match entA S d with
  | none => none
  | some l => match keysS l with
    | none => none
    | some ks => if ks.Nodup ∧ ks.length ≤ 4000 then (kpD (sortK l)).map fun ps => (.p (.lst ps), S) else none
def fSortItems (fe : FE) : FE := fun ds S => match fe ds S with
  | some (d, S1) => gSortItems d S1
  | none => none
theorem entA_ok {K : PySem.W.Frag} {W : Wd} {d : D} {v : V} {l : List (Key × D)} (s : RS K W) (r : RD K W d v) (e : entA W.S d = some l) : ∃ a kvs, v = .ref a ∧ Rd W.H a (.dK kvs) ∧ RDk K W l kvs := by
  cases d with
  | p x =>
    cases x with
    | dK l' =>
      cases e
      cases r with
      | dK h1 _ h2 =>
        obtain ⟨o, h1⟩ := h1
        exact ⟨_, _, rfl, .inr ⟨o, h1⟩, rpk_d h2⟩
    | _ => cases e
  | ref i =>
    obtain ⟨a, ea, rfl⟩ := r
    have e : (match W.S[i]? with | some (.kK l) => some l | some (.dK l) => some l | _ => none) = some l := e
    split at e
    · rename_i l' el
      cases e
      obtain ⟨o, kvs, h1, h2⟩ := s.obj i _ a el ea
      exact ⟨a, kvs, rfl, .inr ⟨o, h1⟩, h2⟩
    · rename_i l' el
      cases e
      obtain ⟨kvs, h1, h2⟩ := s.obj i _ a el ea
      exact ⟨a, kvs, rfl, .inl h1, h2⟩
    · cases e
theorem paired_sort {K : PySem.W.Frag} {W : Wd} {l : List (Key × D)} {kvs : List (Key × V)} (r : RDk K W l kvs) : RDk K W (sortK l) (sortK kvs) := by
  have hl : l.length = kvs.length := Paired.length r
  have hz : ∀ z ∈ l.zip kvs, z.1.1 = z.2.1 ∧ RD K W z.1.2 z.2.2 := paired_zip r
  have h1 : ((l.zip kvs).mergeSort fun x y => leK x.1 y.1).map (·.1) = sortK l := by
    rw [List.map_mergeSort (s := leK) (fun x _ y _ => rfl), List.map_fst_zip (by omega)]; rfl
  have h2 : ((l.zip kvs).mergeSort fun x y => leK x.1 y.1).map (·.2) = sortK kvs := by
    rw [List.map_mergeSort (s := leK) (fun x hx y hy => by unfold leK; rw [(hz x hx).1, (hz y hy).1]), List.map_snd_zip (by omega)]; rfl
  rw [← h1, ← h2]
  exact paired_of fun z hzm => hz z ((List.mergeSort_perm _ _).mem_iff.mp hzm)
theorem de_sortItems {X : Cx} {e : Expr} {fe : FE} {p apos cpos pos : Pos} (hc : X.calm = true) (hu : X.A.units + 64 < cLine) (he : DE X e fe) (hg : Gl X "sorted") (hm : X.mg "sorted" = none) (hb : bootBuiltins "sorted" = some (.builtin "sorted")) (hbase : attributeBase e "items" X.env (eval e X.env) = eval e X.env := by rfl) (hline : (apos.endLine == cpos.line) = true := by rfl)
    (hs : starEach [.Call (.Attribute e "items" apos) [] [] cpos] X.env = (false, eval (.Call (.Attribute e "items" apos) [] [] cpos) X.env) :: starEach [] X.env := by rfl) :
    DE X (.Call (.Name "sorted" p) [.Call (.Attribute e "items" apos) [] [] cpos] [] pos) (fSortItems fe) := PE.imp (pe_sortItems hc hu he hg hm hb hbase hline hs) fun σ H Q ⟨W, ds, d, S', eH, s, re, e, q⟩ => by
  unfold fSortItems at e
  split at e
  · rename_i d1 S1 e1
    unfold gSortItems at e
    split at e
    · cases e
    rename_i l el
    split at e
    · cases e
    rename_i ks ek
    split at e
    · rename_i hn
      cases hk : kpD (sortK l) with
      | none => rw [hk] at e; cases e
      | some ps =>
        rw [hk] at e; cases e
        refine ⟨W, ds, d1, S', eH, s, re, e1, fun W1 v t1 r1 => ?_⟩
        obtain ⟨a, kvs, rfl, h1, h2⟩ := entA_ok t1.s r1 (by rw [t1.e]; exact el)
        have hkk := keysS_ok ek
        have hlk : l.map (·.1) = kvs.map (·.1) := by
          clear hkk ek el hk e1 h1
          induction h2 with
          | nil => rfl
          | cons h _ ih => rw [List.map_cons, List.map_cons, ih, h.1]
        have hlen : kvs.length = ks.length := by
          have := congrArg List.length (hlk.symm.trans hkk)
          rw [List.length_map, List.length_map] at this
          exact this
        refine ⟨a, kvs, ks, rfl, h1, hlk.symm.trans hkk, hn.1, by omega, fun H' p ts k1 k2 k5 k6 => ?_⟩
        have t2 := up_ok t1.s k1
        refine q (W1.up H') (.ref p) ⟨t1.x.trans t2.x, t2.s, t1.e⟩ ?_
        exact RP.lst k5 (RP.fresh (u := .lst []) t1.s k2) (kpD_rel t2.x hk (paired_sort h2) k6)
    · cases e
  · cases e
@[simp ↓] theorem ok_sortItems {fe : FE} {ds : DS} {S : DH} {Q : D → DH → Prop} : Ok (fSortItems fe ds S) Q = Ok (fe ds S) fun x S1 => Ok (gSortItems x S1) Q := by
  unfold fSortItems
  cases fe ds S with
  | none => simp
  | some r => obtain ⟨x, S1⟩ := r; simp
end CK
/-! CkZq: a def called with nothing. -/
namespace CK
open PySem PySem.Spec PyProof.Rows L2

theorem de_call0 {X : Cx} {x : Str} {g : GN} {p pos : Pos} {k : Nat} (c : Callee X.prog X.w X.K X.mg X.base k x 0 g) (hr : Room k X.A) (hg : Gl X x) (hdb : (x == ("__debug__" : Str)) = false := by decide) : DE X (.Call (.Name x p) [] [] pos) (fCall g aNil) := by
  obtain ⟨f, fd, ps, h1, h2, h3, h4, h5⟩ := c.ex
  refine PE.imp (pe_call0 h5 hr hg h2 h3 h4 .nil pass0 hdb) fun σ H Q ⟨W, ds, d, S', eH, s, re, e, q⟩ => ?_
  have e : g [] W.S = some (d, S') := e
  show spD X.K g 0 ([] ++ []) H Q E0
  exact ⟨rfl, W, [], d, S', eH, s, .nil, e, q⟩
end CK
/-! CkZr: one statement at a time. -/
namespace CK
open PySem PySem.Spec PyProof.Rows L2

section
variable {f g : FS} {e : FE} {i : Nat} {ds ds' : DS} {S T : DH} {q : Fl → DH → Prop} {v : D}
/-- x = e, and on -/
theorem seq_asg (v : D) (T : DH) (he : Ok (e ds S) fun d S1 => d = v ∧ S1 = T) (hg : Ok (g (ds.set i (some v)) T) q) : Ok (sSeq (sAsg e (gN i)) g ds S) q := by
  rw [ok_seq, ok_asg]
  obtain ⟨d, S1, e1, rfl, rfl⟩ := ok_ex he
  rw [e1, ok_some]
  show Ok (some (ds.set i (some d), S1)) _
  rw [ok_some]
  exact hg
/-- .. whatever it comes to -/
theorem seq_asgQ (I : D → DH → Prop) (he : Ok (e ds S) fun d S1 => Hold (I d S1)) (hg : ∀ d S1, I d S1 → Ok (g (ds.set i (some d)) S1) q) : Ok (sSeq (sAsg e (gN i)) g ds S) q := by
  rw [ok_seq, ok_asg]
  obtain ⟨d, S1, e1, h⟩ := ok_ex he
  rw [e1, ok_some]
  show Ok (some (ds.set i (some d), S1)) _
  rw [ok_some]
  exact hg d S1 h
/-- a statement that ends the def, or leaves all but the heap -/
def tailK (I : DS → DH → Prop) (q : Fl → DH → Prop) : Fl → DH → Prop
  | .nx ds', S => Hold (I ds' S)
  | .rt d, S => q (.rt d) S
  | .bk _, _ => False
  | .ct _, _ => False
@[simp ↓] theorem tailK_nx {I : DS → DH → Prop} : tailK I q (.nx ds) S = Hold (I ds S) := rfl
@[simp ↓] theorem tailK_rt {I : DS → DH → Prop} {d : D} : tailK I q (.rt d) S = q (.rt d) S := rfl
theorem ok_tail (I : DS → DH → Prop) (hf : Ok (f ds S) (tailK I q)) (hg : ∀ ds' S', I ds' S' → Ok (g ds' S') q) : Ok (sSeq f g ds S) q := by
  rw [ok_seq]
  refine ok_imp hf fun r S' h => ?_
  cases r with
  | nx ds' => exact hg ds' S' h
  | rt d => exact h
  | bk _ => exact h.elim
  | ct _ => exact h.elim
/-- d.get with a default that is reckoned -/
theorem ok_get2 {fo fk fd : FE} {ds : DS} {S : DH} {QD : D → DH → Prop} : Ok (fGet2 fo fk fd ds S) QD = Ok (fo ds S) fun x S1 => (dictD S1 x).isSome = true ∧ Ok (fk ds S1) fun k S2 => Ok (fd ds S2) fun y S3 => Ok ((dget S3 x k).map fun o => (o.getD y, S3)) QD := by
  rw [fGet2_eq]
  cases fo ds S with
  | none => simp
  | some p =>
    obtain ⟨x, S1⟩ := p
    simp only [ok_some]
    cases dictD S1 x with
    | none => simp
    | some m =>
      simp only [Option.isSome_some, true_and]
      cases fk ds S1 with
      | none => simp
      | some p =>
        obtain ⟨k, S2⟩ := p
        simp only [ok_some]
        cases fd ds S2 with
        | none => simp
        | some p =>
          obtain ⟨y, S3⟩ := p
          simp only [ok_some]
          cases dget S3 x k <;> simp
end
end CK
/-! printed by gen.py from T.py of law_k76_makers_at_places -/
namespace CKP
open PySem PySem.Spec PyProof.Rows L2 CK
def topS (i : Nat) : Stmt := PySem.Challenge.pw_coilkind_k76_makers_at_places.main.body.getD i (.Pass ⟨0, 0, 0, 0⟩)
section
variable {Pg : Program} {w : World} {K : PySem.W.Frag} {mg : Str → Option Value} {base : Heap}
abbrev s__law_fill : Stmt := topS 4
theorem sc__law_fill : FnScope ["_law_cell", "_law_at", "_law_x"] ["_law_cell", "_law_at"] (defScope s__law_fill) := ⟨rfl, rfl, rfl, by decide +kernel, rfl, by decide +kernel, by decide +kernel⟩
noncomputable def b__law_fill : FS :=
  (sSeq (sIf (fTest (fBin gGe (fVar 0) (fBin gPow (fC (.int 10)) (fC (.int 18)))))
  (sRet (fVar 0))
  sNil)
  (sSeq (sAsg (fBin gMod (fBin gAdd (fBin gAdd (fBin gMul (fBin gMod (fVar 0) (fC (.int 2147483647))) (fC (.int 48271))) (fBin gMul (fVar 1) (fC (.int 69621)))) (fC (.int 11))) (fC (.int 2147483629))) (gN 2))
  (sSeq (sAsg (fBin gMod (fBin gAdd (fBin gAdd (fBin gMul (fVar 2) (fVar 2)) (fBin gMul (fC (.int 48271)) (fVar 2))) (fVar 1)) (fC (.int 2147483587))) (gN 2))
  (sRet (fBin gAdd (fBin gMul (fVar 2) (fC (.int 2147483579))) (fBin gMod (fBin gAdd (fBin gMul (fVar 2) (fVar 2)) (fBin gMul (fC (.int 69621)) (fVar 1))) (fC (.int 2147483579))))))))
noncomputable def g__law_fill : GN := gFn 3 false b__law_fill
theorem ok__law_fill {f : Addr} {fd : FuncData} (F : Fun K "_law_fill" "_law_fill" s__law_fill f fd) (hm : mg "_law_fill" = some (.ref f)) : Callee Pg w K mg base 1 "_law_fill" 2 g__law_fill :=
  callee_of F sc__law_fill rfl hm (F.binds fun _ _ _ _ _ _ us hl => match us, hl with | [_, _], _ => rfl) fun cdv A outer s H E hr =>
  dcs_cons (dc_if (dt_c c_ge (dv 0) (de_pow (de_int) (de_int)) rfl)
  (dcs_one (dc_ret (dv 0)))
  (dcs_nil))
  (dcs_cons (dc_set (i := 2) sc__law_fill.nd rfl (Or.inl rfl) (de_mod (de_add (de_add (de_mul (de_mod (dv 0) (de_int)) (de_int)) (de_mul (dv 1) (de_int))) (de_int)) (de_int)))
  (dcs_cons (dc_set (i := 2) sc__law_fill.nd rfl (Or.inl rfl) (de_mod (de_add (de_add (de_mul (dv 2) (dv 2)) (de_mul (de_int) (dv 2))) (dv 1)) (de_int)))
  (dcs_one (dc_ret (de_add (de_mul (dv 2) (de_int)) (de_mod (de_add (de_mul (dv 2) (dv 2)) (de_mul (de_int) (dv 1))) (de_int)))))))
abbrev s__law_next : Stmt := topS 5
theorem sc__law_next : FnScope ["_law_pen", "_law_many", "_law_found", "_law_at", "_law_cell"] ["_law_pen", "_law_many"] (defScope s__law_next) := ⟨rfl, rfl, rfl, by decide +kernel, rfl, by decide +kernel, by decide +kernel⟩
noncomputable def b__law_next : FS :=
  (sSeq (sIf (fTest (fBin gLt (fBin gIx (fVar 0) (fC (.int 2))) (fVar 1)))
  (sSeq (sAsg (fBin gIx (fVar 0) (fC (.int 1))) (gN 3))
  (sSeq (sAsg (fC (.int 0)) (gN 4))
  (sSeq (sIf (fTest (fBin gLt (fVar 3) (fCall gLen (aCons (fBin gIx (fVar 0) (fC (.int 0))) aNil))))
  (sAsg (fBin gIx (fBin gIx (fVar 0) (fC (.int 0))) (fVar 3)) (gN 4))
  (sIf (fTest (fBin gGt (fCall gLen (aCons (fBin gIx (fVar 0) (fC (.int 0))) aNil)) (fC (.int 0))))
  (sAsg (fBin gAdd (fBin gMod (fBin gIx (fBin gIx (fVar 0) (fC (.int 0))) (fBin gMod (fBin gMul (fVar 3) (fC (.int 7))) (fCall gLen (aCons (fBin gIx (fVar 0) (fC (.int 0))) aNil)))) (fC (.int 1000003))) (fBin gMul (fVar 3) (fC (.int 1000003)))) (gN 4))
  sNil))
  (sSeq (sAsg (fBin gAdd (fVar 3) (fC (.int 1))) (gSet (fVar 0) (fC (.int 1)) gSetA))
  (sAsg (fCall g__law_fill (aCons (fVar 4) (aCons (fVar 3) aNil))) (gSet (fVar 0) (fC (.int 2)) gSetA))))))
  sNil)
  (sSeq (sAsg (fBin gMod (fBin gIx (fVar 0) (fC (.int 2))) (fVar 1)) (gN 2))
  (sSeq (sAsg (fBin gDiv (fBin gIx (fVar 0) (fC (.int 2))) (fVar 1)) (gSet (fVar 0) (fC (.int 2)) gSetA))
  (sRet (fVar 2)))))
noncomputable def g__law_next : GN := gFn 5 false b__law_next
theorem ok__law_next {f : Addr} {fd : FuncData} (F : Fun K "_law_next" "_law_next" s__law_next f fd) (hm : mg "_law_next" = some (.ref f)) (C__law_fill : Callee Pg w K mg base 1 "_law_fill" 2 g__law_fill) (z_len : mg "len" = none) : Callee Pg w K mg base 2 "_law_next" 2 g__law_next :=
  callee_of F sc__law_next rfl hm (F.binds fun _ _ _ _ _ _ us hl => match us, hl with | [_, _], _ => rfl) fun cdv A outer s H E hr =>
  dcs_cons (dc_if (dt_c c_lt (de_item (u1 hr) (dv 0) (de_int) (fun _ _ => rfl)) (dv 1) rfl)
  (dcs_cons (dc_set (i := 3) sc__law_next.nd rfl (Or.inl rfl) (de_item (u1 hr) (dv 0) (de_int) (fun _ _ => rfl)))
  (dcs_cons (dc_set (i := 4) sc__law_next.nd rfl (Or.inl rfl) (de_int))
  (dcs_cons (dc_if (dt_c c_lt (dv 3) (de_b f_len rfl z_len (PySem.boot_len) (da_cons (de_item (u1 hr) (dv 0) (de_int) (fun _ _ => rfl)) (da_nil))) rfl)
  (dcs_one (dc_set (i := 4) sc__law_next.nd rfl (Or.inl rfl) (de_item (u1 hr) (de_item (u1 hr) (dv 0) (de_int) (fun _ _ => rfl)) (dv 3) (fun _ _ => rfl))))
  (dcs_one (dc_if (dt_c c_gt (de_b f_len rfl z_len (PySem.boot_len) (da_cons (de_item (u1 hr) (dv 0) (de_int) (fun _ _ => rfl)) (da_nil))) (de_int) rfl)
  (dcs_one (dc_set (i := 4) sc__law_next.nd rfl (Or.inl rfl) (de_add (de_mod (de_item (u1 hr) (de_item (u1 hr) (dv 0) (de_int) (fun _ _ => rfl)) (de_mod (de_mul (dv 3) (de_int)) (de_b f_len rfl z_len (PySem.boot_len) (da_cons (de_item (u1 hr) (dv 0) (de_int) (fun _ _ => rfl)) (da_nil)))) (fun _ _ => rfl)) (de_int)) (de_mul (dv 3) (de_int)))))
  (dcs_nil))))
  (dcs_cons (dc_asg (de_add (dv 3) (de_int)) (dg_item (u1 hr) (dv 0) (de_int)))
  (dcs_one (dc_asg (de_call (C__law_fill.mono (by decide)) (hr.mono (by decide : 1 ≤ 1)) rfl (da_cons (dv 4) (da_cons (dv 3) (da_nil))) (aCons_len (aCons_len (fun _ _ _ _ => aNil_len)))) (dg_item (u1 hr) (dv 0) (de_int))))))))
  (dcs_nil))
  (dcs_cons (dc_set (i := 2) sc__law_next.nd rfl (Or.inl rfl) (de_mod (de_item (u1 hr) (dv 0) (de_int) (fun _ _ => rfl)) (dv 1)))
  (dcs_cons (dc_asg (de_div (de_item (u1 hr) (dv 0) (de_int) (fun _ _ => rfl)) (dv 1)) (dg_item (u1 hr) (dv 0) (de_int)))
  (dcs_one (dc_ret (dv 2)))))
abbrev s__law_turned : Stmt := topS 6
theorem sc__law_turned : FnScope ["_law_pen", "_law_some", "_law_left", "_law_found"] ["_law_pen", "_law_some"] (defScope s__law_turned) := ⟨rfl, rfl, rfl, by decide +kernel, rfl, by decide +kernel, by decide +kernel⟩
noncomputable abbrev w__law_turned_1 : FT :=
  (fTest (fBin gNe (fVar 2) (fLst aNil)))
noncomputable abbrev l__law_turned_2 : FS :=
  (sExpr (fMeth "list" gAppend (fVar 3) (aCons (fMeth "list" gPopAt (fVar 2) (aCons (fCall g__law_next (aCons (fVar 0) (aCons (fCall gLen (aCons (fVar 2) aNil)) aNil))) aNil)) aNil)))
noncomputable def b__law_turned : FS :=
  (sSeq (sAsg (fCall gListH (aCons (fVar 1) aNil)) (gN 2))
  (sSeq (sAsg (fLstH aNil) (gN 3))
  (sSeq (sWhile w__law_turned_1
  l__law_turned_2)
  (sRet (fVar 3)))))
noncomputable def g__law_turned : GN := gFn 4 false b__law_turned
theorem ok__law_turned {f : Addr} {fd : FuncData} (F : Fun K "_law_turned" "_law_turned" s__law_turned f fd) (hm : mg "_law_turned" = some (.ref f)) (C__law_next : Callee Pg w K mg base 2 "_law_next" 2 g__law_next) (z_list : mg "list" = none) (z_len : mg "len" = none) : Callee Pg w K mg base 3 "_law_turned" 2 g__law_turned :=
  callee_of F sc__law_turned rfl hm (F.binds fun _ _ _ _ _ _ us hl => match us, hl with | [_, _], _ => rfl) fun cdv A outer s H E hr =>
  dcs_cons (dc_set (i := 2) sc__law_turned.nd rfl (Or.inl rfl) (de_t f_listH rfl z_list (by decide +kernel) (da_cons (dv 1) (da_nil))))
  (dcs_cons (dc_set (i := 3) sc__law_turned.nd rfl (Or.inl rfl) (de_lstH (da_nil)))
  (dcs_cons (dc_while PassesOwn.never (dt_c (c_ne (u64 hr)) (dv 2) (de_lst (da_nil)) rfl)
  (dcs_one (dc_expr (de_m PySem.F.plainAttrs_list PySem.F.slot_list_append PySem.F.type_list_append m_append (dv 3) (da_cons (de_m PySem.F.plainAttrs_list PySem.F.slot_list_pop PySem.F.type_list_pop m_popAt (dv 2) (da_cons (de_call (C__law_next.mono (by decide)) (hr.mono (by decide : 2 ≤ 2)) rfl (da_cons (dv 0) (da_cons (de_b f_len rfl z_len (PySem.boot_len) (da_cons (dv 2) (da_nil))) (da_nil))) (aCons_len (aCons_len (fun _ _ _ _ => aNil_len)))) (da_nil))) (da_nil))))))
  (dcs_one (dc_ret (dv 3)))))
abbrev s__law_words : Stmt := topS 7
theorem sc__law_words : FnScope ["_law_pen", "_law_word"] ["_law_pen"] (defScope s__law_words) := ⟨rfl, rfl, rfl, by decide +kernel, rfl, by decide +kernel, by decide +kernel⟩
noncomputable abbrev t__law_words_1 : FT :=
  (fTest (fBin gEq (fCall g__law_next (aCons (fVar 0) (aCons (fC (.int 2)) aNil))) (fC (.int 0))))
noncomputable def b__law_words : FS :=
  (sRet (fComp (fIt (fLst (aCons (fC (.str ("a" : Str))) (aCons (fC (.str ("ab" : Str))) (aCons (fC (.str ("b" : Str))) (aCons (fC (.str ("ba" : Str))) aNil)))))) (gN 1) t__law_words_1 (fVar 1) [1]))
noncomputable def g__law_words : GN := gFn 2 false b__law_words
theorem ok__law_words {f : Addr} {fd : FuncData} (F : Fun K "_law_words" "_law_words" s__law_words f fd) (hm : mg "_law_words" = some (.ref f)) (C__law_next : Callee Pg w K mg base 2 "_law_next" 2 g__law_next) : Callee Pg w K mg base 4 "_law_words" 1 g__law_words :=
  callee_of F sc__law_words rfl hm (F.binds fun _ _ _ _ _ _ us hl => match us, hl with | [_], _ => rfl) fun cdv A outer s H E hr =>
  dcs_one (dc_ret (de_comp (own := [("_law_word", 1)]) (compG_name (by decide)) rfl sc__law_words.nd (di_it (de_lst (da_cons (de_str) (da_cons (de_str) (da_cons (de_str) (da_cons (de_str) (da_nil))))))) (blkOk_by (own := [("_law_word", 1)]) (N := ["_law_pen", "_law_word"]) (sc := defScope s__law_words) (by decide +kernel)) (fun _ _ _ _ _ => pg_name (i := 1) sc__law_words.nd rfl (by first | exact Or.inl rfl | exact Or.inr rfl)) (fun _ _ _ _ _ => dts_one (dt_c (c_eq (u64 hr)) (de_call (C__law_next.mono (by decide)) (hr.mono (by decide : 3 ≤ 3)) rfl (da_cons (dv 0) (da_cons (de_int) (da_nil))) (aCons_len (aCons_len (fun _ _ _ _ => aNil_len)))) (de_int) rfl)) (fun _ _ _ _ _ => dv 1)))
abbrev s__law_head : Stmt := topS 8
theorem sc__law_head : FnScope ["_law_pen", "_law_names", "_law_ahead", "_law_way", "_law_one", "_law_word"] ["_law_pen", "_law_names", "_law_ahead"] (defScope s__law_head) := ⟨rfl, rfl, rfl, by decide +kernel, rfl, by decide +kernel, by decide +kernel⟩
noncomputable abbrev e__law_head_1 : FE :=
  (fTup (aCons (fVar 5) (aCons (fBin gIx (fVar 1) (fCall g__law_next (aCons (fVar 0) (aCons (fCall gLen (aCons (fVar 1) aNil)) aNil)))) aNil)))
noncomputable def b__law_head : FS :=
  (sSeq (sAsg (fCall g__law_next (aCons (fVar 0) (aCons (fC (.int 10)) aNil))) (gN 3))
  (sSeq (sIf (fTest (fBin gLt (fVar 3) (fC (.int 2))))
  (sRet (fBin gIx (fLst (aCons (fTup (aCons (fC (.str ("all" : Str))) aNil)) (aCons (fTup (aCons (fC (.str ("none" : Str))) aNil)) aNil))) (fVar 3)))
  sNil)
  (sSeq (sIf (fAnd (fTest (fBin gEq (fVar 3) (fC (.int 2)))) (fTest (fBin gGt (fVar 2) (fC (.int 0)))))
  (sRet (fTup (aCons (fC (.str ("as" : Str))) (aCons (fBin gIx (fVar 1) (fCall g__law_next (aCons (fVar 0) (aCons (fVar 2) aNil)))) aNil))))
  sNil)
  (sSeq (sIf (fTest (fBin gLt (fVar 3) (fC (.int 6))))
  (sSeq (sAsg (fBin gIx (fVar 1) (fCall g__law_next (aCons (fVar 0) (aCons (fCall gLen (aCons (fVar 1) aNil)) aNil)))) (gN 4))
  (sRet (fTup (aCons (fC (.str ("way" : Str))) (aCons (fVar 4) (aCons (fBin gIx (fVar 1) (fCall g__law_next (aCons (fVar 0) (aCons (fCall gLen (aCons (fVar 1) aNil)) aNil)))) aNil))))))
  sNil)
  (sRet (fTup (aCons (fBin gIx (fLst (aCons (fC (.str ("box" : Str))) (aCons (fC (.str ("pick" : Str))) aNil))) (fBin gMod (fVar 3) (fC (.int 2)))) (aCons (fCall gTuple (aCons (fComp (fIt (fCall g__law_words (aCons (fVar 0) aNil))) (gN 5) fYes e__law_head_1 [5]) aNil)) aNil))))))))
noncomputable def g__law_head : GN := gFn 6 false b__law_head
theorem ok__law_head {f : Addr} {fd : FuncData} (F : Fun K "_law_head" "_law_head" s__law_head f fd) (hm : mg "_law_head" = some (.ref f)) (C__law_next : Callee Pg w K mg base 2 "_law_next" 2 g__law_next) (C__law_words : Callee Pg w K mg base 4 "_law_words" 1 g__law_words) (z_len : mg "len" = none) (z_tuple : mg "tuple" = none) : Callee Pg w K mg base 5 "_law_head" 3 g__law_head :=
  callee_of F sc__law_head rfl hm (F.binds fun _ _ _ _ _ _ us hl => match us, hl with | [_, _, _], _ => rfl) fun cdv A outer s H E hr =>
  dcs_cons (dc_set (i := 3) sc__law_head.nd rfl (Or.inl rfl) (de_call (C__law_next.mono (by decide)) (hr.mono (by decide : 4 ≤ 4)) rfl (da_cons (dv 0) (da_cons (de_int) (da_nil))) (aCons_len (aCons_len (fun _ _ _ _ => aNil_len)))))
  (dcs_cons (dc_if (dt_c c_lt (dv 3) (de_int) rfl)
  (dcs_one (dc_ret (de_item (u1 hr) (de_lst (da_cons (de_tup (da_cons (de_str) (da_nil))) (da_cons (de_tup (da_cons (de_str) (da_nil))) (da_nil)))) (dv 3) (fun _ _ => rfl))))
  (dcs_nil))
  (dcs_cons (dc_if (dt_w (dw_and (dt_c (c_eq (u64 hr)) (dv 3) (de_int) rfl) (dw_and1 (dt_c c_gt (dv 2) (de_int) rfl))))
  (dcs_one (dc_ret (de_tup (da_cons (de_str) (da_cons (de_item (u1 hr) (dv 1) (de_call (C__law_next.mono (by decide)) (hr.mono (by decide : 4 ≤ 4)) rfl (da_cons (dv 0) (da_cons (dv 2) (da_nil))) (aCons_len (aCons_len (fun _ _ _ _ => aNil_len)))) (fun _ _ => rfl)) (da_nil))))))
  (dcs_nil))
  (dcs_cons (dc_if (dt_c c_lt (dv 3) (de_int) rfl)
  (dcs_cons (dc_set (i := 4) sc__law_head.nd rfl (Or.inl rfl) (de_item (u1 hr) (dv 1) (de_call (C__law_next.mono (by decide)) (hr.mono (by decide : 4 ≤ 4)) rfl (da_cons (dv 0) (da_cons (de_b f_len rfl z_len (PySem.boot_len) (da_cons (dv 1) (da_nil))) (da_nil))) (aCons_len (aCons_len (fun _ _ _ _ => aNil_len)))) (fun _ _ => rfl)))
  (dcs_one (dc_ret (de_tup (da_cons (de_str) (da_cons (dv 4) (da_cons (de_item (u1 hr) (dv 1) (de_call (C__law_next.mono (by decide)) (hr.mono (by decide : 4 ≤ 4)) rfl (da_cons (dv 0) (da_cons (de_b f_len rfl z_len (PySem.boot_len) (da_cons (dv 1) (da_nil))) (da_nil))) (aCons_len (aCons_len (fun _ _ _ _ => aNil_len)))) (fun _ _ => rfl)) (da_nil))))))))
  (dcs_nil))
  (dcs_one (dc_ret (de_tup (da_cons (de_item (u1 hr) (de_lst (da_cons (de_str) (da_cons (de_str) (da_nil)))) (de_mod (dv 3) (de_int)) (fun _ _ => rfl)) (da_cons (de_t f_tuple rfl z_tuple (by decide +kernel) (da_cons (de_comp (own := [("_law_word", 5)]) (compG_name (by decide)) rfl sc__law_head.nd (di_it (de_call (C__law_words.mono (by decide)) (hr.mono (by decide : 4 ≤ 4)) rfl (da_cons (dv 0) (da_nil)) (aCons_len (fun _ _ _ _ => aNil_len)))) (blkOk_by (own := [("_law_word", 5)]) (N := ["_law_pen", "_law_names", "_law_ahead", "_law_way", "_law_one", "_law_word"]) (sc := defScope s__law_head) (by decide +kernel)) (fun _ _ _ _ _ => pg_name (i := 5) sc__law_head.nd rfl (by first | exact Or.inl rfl | exact Or.inr rfl)) (fun _ _ _ _ _ => dts_nil) (fun _ _ _ _ _ => de_tup (da_cons (dv 5) (da_cons (de_item (u1 hr) (dv 1) (de_call (C__law_next.mono (by decide)) (hr.mono (by decide : 4 ≤ 4)) rfl (da_cons (dv 0) (da_cons (de_b f_len rfl z_len (PySem.boot_len) (da_cons (dv 1) (da_nil))) (da_nil))) (aCons_len (aCons_len (fun _ _ _ _ => aNil_len)))) (fun _ _ => rfl)) (da_nil))))) (da_nil))) (da_nil)))))))))
abbrev s__law_telling : Stmt := topS 9
theorem sc__law_telling : FnScope ["_law_pen", "_law_most", "_law_size", "_law_names", "_law_rows", "_law_k"] ["_law_pen", "_law_most"] (defScope s__law_telling) := ⟨rfl, rfl, rfl, by decide +kernel, rfl, by decide +kernel, by decide +kernel⟩
noncomputable abbrev l__law_telling_1 : FS :=
  (sExpr (fMeth "list" gAppend (fVar 4) (aCons (fTup (aCons (fBin gIx (fVar 3) (fVar 5)) (aCons (fCall g__law_head (aCons (fVar 0) (aCons (fVar 3) (aCons (fVar 5) aNil)))) aNil))) aNil)))
noncomputable def b__law_telling : FS :=
  (sSeq (sAsg (fBin gAdd (fC (.int 1)) (fCall g__law_next (aCons (fVar 0) (aCons (fVar 1) aNil)))) (gN 2))
  (sSeq (sAsg (fSl gSl (fCall g__law_turned (aCons (fVar 0) (aCons (fLst (aCons (fC (.str ("x" : Str))) (aCons (fC (.str ("xa" : Str))) (aCons (fC (.str ("xb" : Str))) (aCons (fC (.str ("y" : Str))) (aCons (fC (.str ("ya" : Str))) (aCons (fC (.str ("z" : Str))) (aCons (fC (.str ("ka" : Str))) (aCons (fC (.str ("kb" : Str))) aNil))))))))) aNil))) oNone (oSome (fVar 2))) (gN 3))
  (sSeq (sAsg (fLstH aNil) (gN 4))
  (sSeq (sFor (fRange (aCons (fVar 2) aNil)) (gN 5)
  l__law_telling_1)
  (sRet (fCall gTuple (aCons (fCall g__law_turned (aCons (fVar 0) (aCons (fVar 4) aNil))) aNil)))))))
noncomputable def g__law_telling : GN := gFn 6 false b__law_telling
theorem ok__law_telling {f : Addr} {fd : FuncData} (F : Fun K "_law_telling" "_law_telling" s__law_telling f fd) (hm : mg "_law_telling" = some (.ref f)) (C__law_next : Callee Pg w K mg base 2 "_law_next" 2 g__law_next) (C__law_turned : Callee Pg w K mg base 3 "_law_turned" 2 g__law_turned) (C__law_head : Callee Pg w K mg base 5 "_law_head" 3 g__law_head) (z_range : mg "range" = none) (z_tuple : mg "tuple" = none) : Callee Pg w K mg base 6 "_law_telling" 2 g__law_telling :=
  callee_of F sc__law_telling rfl hm (F.binds fun _ _ _ _ _ _ us hl => match us, hl with | [_, _], _ => rfl) fun cdv A outer s H E hr =>
  dcs_cons (dc_set (i := 2) sc__law_telling.nd rfl (Or.inl rfl) (de_add (de_int) (de_call (C__law_next.mono (by decide)) (hr.mono (by decide : 5 ≤ 5)) rfl (da_cons (dv 0) (da_cons (dv 1) (da_nil))) (aCons_len (aCons_len (fun _ _ _ _ => aNil_len))))))
  (dcs_cons (dc_set (i := 3) sc__law_telling.nd rfl (Or.inl rfl) (de_sl (de_call (C__law_turned.mono (by decide)) (hr.mono (by decide : 5 ≤ 5)) rfl (da_cons (dv 0) (da_cons (de_lst (da_cons (de_str) (da_cons (de_str) (da_cons (de_str) (da_cons (de_str) (da_cons (de_str) (da_cons (de_str) (da_cons (de_str) (da_cons (de_str) (da_nil)))))))))) (da_nil))) (aCons_len (aCons_len (fun _ _ _ _ => aNil_len)))) (do_none) (do_some (dv 2))))
  (dcs_cons (dc_set (i := 4) sc__law_telling.nd rfl (Or.inl rfl) (de_lstH (da_nil)))
  (dcs_cons (dc_for PassesOwn.never rfl (di_range1 rfl z_range (da_cons (dv 2) (da_nil)) (aCons_len (fun _ _ _ _ => aNil_len))) (dg_name (i := 5) sc__law_telling.nd rfl (Or.inl rfl))
  (dcs_one (dc_expr (de_m PySem.F.plainAttrs_list PySem.F.slot_list_append PySem.F.type_list_append m_append (dv 4) (da_cons (de_tup (da_cons (de_item (u1 hr) (dv 3) (dv 5) (fun _ _ => rfl)) (da_cons (de_call (C__law_head.mono (by decide)) (hr.mono (by decide : 5 ≤ 5)) rfl (da_cons (dv 0) (da_cons (dv 3) (da_cons (dv 5) (da_nil)))) (aCons_len (aCons_len (aCons_len (fun _ _ _ _ => aNil_len))))) (da_nil)))) (da_nil))))))
  (dcs_one (dc_ret (de_t f_tuple rfl z_tuple (by decide +kernel) (da_cons (de_call (C__law_turned.mono (by decide)) (hr.mono (by decide : 5 ≤ 5)) rfl (da_cons (dv 0) (da_cons (dv 4) (da_nil))) (aCons_len (aCons_len (fun _ _ _ _ => aNil_len)))) (da_nil))))))))
abbrev s__law_maker_telling : Stmt := topS 14
theorem sc__law_maker_telling : FnScope ["_law_pen", "_law_most"] ["_law_pen", "_law_most"] (defScope s__law_maker_telling) := ⟨rfl, rfl, rfl, by decide +kernel, rfl, by decide +kernel, by decide +kernel⟩
noncomputable def b__law_maker_telling : FS :=
  (sRet (fBin gAddF (fCall g__law_telling (aCons (fVar 0) (aCons (fVar 1) aNil))) (fTupF (aCons (fTup (aCons (fC (.str ("nn" : Str))) (aCons (fTup (aCons (fC (.str ("none" : Str))) aNil)) aNil))) (aCons (fTup (aCons (fC (.str ("dn" : Str))) (aCons (fTup (aCons (fC (.str ("way" : Str))) (aCons (fC (.str ("dn" : Str))) (aCons (fC (.str ("nn" : Str))) aNil)))) aNil))) aNil)))))
noncomputable def g__law_maker_telling : GN := gFn 2 false b__law_maker_telling
theorem ok__law_maker_telling {f : Addr} {fd : FuncData} (F : Fun K "_law_maker_telling" "_law_maker_telling" s__law_maker_telling f fd) (hm : mg "_law_maker_telling" = some (.ref f)) (C__law_telling : Callee Pg w K mg base 6 "_law_telling" 2 g__law_telling) : Callee Pg w K mg base 7 "_law_maker_telling" 2 g__law_maker_telling :=
  callee_of F sc__law_maker_telling rfl hm (F.binds fun _ _ _ _ _ _ us hl => match us, hl with | [_, _], _ => rfl) fun cdv A outer s H E hr =>
  dcs_one (dc_ret (de_addF (de_call (C__law_telling.mono (by decide)) (hr.mono (by decide : 6 ≤ 6)) rfl (da_cons (dv 0) (da_cons (dv 1) (da_nil))) (aCons_len (aCons_len (fun _ _ _ _ => aNil_len)))) (de_tupF (da_cons (de_tup (da_cons (de_str) (da_cons (de_tup (da_cons (de_str) (da_nil))) (da_nil)))) (da_cons (de_tup (da_cons (de_str) (da_cons (de_tup (da_cons (de_str) (da_cons (de_str) (da_cons (de_str) (da_nil))))) (da_nil)))) (da_nil))))))
abbrev s__law_endless : Stmt := topS 15
theorem sc__law_endless : FnScope ["_law_self"] [] (defScope s__law_endless) := ⟨rfl, rfl, rfl, by decide +kernel, rfl, by decide +kernel, by decide +kernel⟩
noncomputable def b__law_endless : FS :=
  (sSeq (sAsg (fTup (aCons (fC (.str ("fn" : Str))) (aCons (fC (.str ("v" : Str))) (aCons (fC (.str ("dn" : Str))) (aCons (fTup (aCons (fC (.str ("call" : Str))) (aCons (fTup (aCons (fC (.str ("get" : Str))) (aCons (fC (.str ("v" : Str))) aNil))) (aCons (fTup (aCons (fC (.str ("get" : Str))) (aCons (fC (.str ("v" : Str))) aNil))) aNil)))) aNil))))) (gN 0))
  (sRet (fTup (aCons (fC (.str ("call" : Str))) (aCons (fVar 0) (aCons (fVar 0) aNil))))))
noncomputable def g__law_endless : GN := gFn 1 false b__law_endless
theorem ok__law_endless {f : Addr} {fd : FuncData} (F : Fun K "_law_endless" "_law_endless" s__law_endless f fd) (hm : mg "_law_endless" = some (.ref f)) : Callee Pg w K mg base 8 "_law_endless" 0 g__law_endless :=
  callee_of F sc__law_endless rfl hm (F.binds fun _ _ _ _ _ _ us hl => match us, hl with | [], _ => rfl) fun cdv A outer s H E hr =>
  dcs_cons (dc_set (i := 0) sc__law_endless.nd rfl (Or.inl rfl) (de_tup (da_cons (de_str) (da_cons (de_str) (da_cons (de_str) (da_cons (de_tup (da_cons (de_str) (da_cons (de_tup (da_cons (de_str) (da_cons (de_str) (da_nil)))) (da_cons (de_tup (da_cons (de_str) (da_cons (de_str) (da_nil)))) (da_nil))))) (da_nil)))))))
  (dcs_one (dc_ret (de_tup (da_cons (de_str) (da_cons (dv 0) (da_cons (dv 0) (da_nil)))))))
abbrev s__law_any : Stmt := topS 10
theorem sc__law_any : FnScope ["_law_pen", "_law_told"] ["_law_pen", "_law_told"] (defScope s__law_any) := ⟨rfl, rfl, rfl, by decide +kernel, rfl, by decide +kernel, by decide +kernel⟩
noncomputable def b__law_any : FS :=
  (sRet (fBin gIx (fBin gIx (fVar 1) (fCall g__law_next (aCons (fVar 0) (aCons (fCall gLen (aCons (fVar 1) aNil)) aNil)))) (fC (.int 0))))
noncomputable def g__law_any : GN := gFn 2 false b__law_any
theorem ok__law_any {f : Addr} {fd : FuncData} (F : Fun K "_law_any" "_law_any" s__law_any f fd) (hm : mg "_law_any" = some (.ref f)) (C__law_next : Callee Pg w K mg base 2 "_law_next" 2 g__law_next) (z_len : mg "len" = none) : Callee Pg w K mg base 9 "_law_any" 2 g__law_any :=
  callee_of F sc__law_any rfl hm (F.binds fun _ _ _ _ _ _ us hl => match us, hl with | [_, _], _ => rfl) fun cdv A outer s H E hr =>
  dcs_one (dc_ret (de_item (u1 hr) (de_item (u1 hr) (dv 1) (de_call (C__law_next.mono (by decide)) (hr.mono (by decide : 8 ≤ 8)) rfl (da_cons (dv 0) (da_cons (de_b f_len rfl z_len (PySem.boot_len) (da_cons (dv 1) (da_nil))) (da_nil))) (aCons_len (aCons_len (fun _ _ _ _ => aNil_len)))) (fun _ _ => rfl)) (de_int) (fun _ _ => rfl)))
abbrev s__law_name_bound : Stmt := topS 16
theorem sc__law_name_bound : FnScope ["_law_pen"] ["_law_pen"] (defScope s__law_name_bound) := ⟨rfl, rfl, rfl, by decide +kernel, rfl, by decide +kernel, by decide +kernel⟩
noncomputable def b__law_name_bound : FS :=
  (sRet (fBin gIx (fLst (aCons (fC (.str ("v" : Str))) (aCons (fC (.str ("va" : Str))) (aCons (fC (.str ("u" : Str))) (aCons (fC (.str ("x" : Str))) aNil))))) (fCall g__law_next (aCons (fVar 0) (aCons (fC (.int 4)) aNil)))))
noncomputable def g__law_name_bound : GN := gFn 1 false b__law_name_bound
theorem ok__law_name_bound {f : Addr} {fd : FuncData} (F : Fun K "_law_name_bound" "_law_name_bound" s__law_name_bound f fd) (hm : mg "_law_name_bound" = some (.ref f)) (C__law_next : Callee Pg w K mg base 2 "_law_next" 2 g__law_next) : Callee Pg w K mg base 10 "_law_name_bound" 1 g__law_name_bound :=
  callee_of F sc__law_name_bound rfl hm (F.binds fun _ _ _ _ _ _ us hl => match us, hl with | [_], _ => rfl) fun cdv A outer s H E hr =>
  dcs_one (dc_ret (de_item (u1 hr) (de_lst (da_cons (de_str) (da_cons (de_str) (da_cons (de_str) (da_cons (de_str) (da_nil)))))) (de_call (C__law_next.mono (by decide)) (hr.mono (by decide : 9 ≤ 9)) rfl (da_cons (dv 0) (da_cons (de_int) (da_nil))) (aCons_len (aCons_len (fun _ _ _ _ => aNil_len)))) (fun _ _ => rfl)))
abbrev s__law_row_here : Stmt := topS 11
theorem sc__law_row_here : FnScope ["_law_told", "_law_name", "_law_rows"] ["_law_told", "_law_name"] (defScope s__law_row_here) := ⟨rfl, rfl, rfl, by decide +kernel, rfl, by decide +kernel, by decide +kernel⟩
noncomputable abbrev w__law_row_here_1 : FT :=
  (fTest (fBin gEq (fBin gIx (fBin gIx (fVar 2) (fVar 1)) (fC (.int 0))) (fC (.str ("as" : Str)))))
noncomputable abbrev l__law_row_here_2 : FS :=
  (sAsg (fBin gIx (fBin gIx (fVar 2) (fVar 1)) (fC (.int 1))) (gN 1))
noncomputable def b__law_row_here : FS :=
  (sSeq (sAsg (fCall gDict (aCons (fVar 0) aNil)) (gN 2))
  (sSeq (sWhile w__law_row_here_1
  l__law_row_here_2)
  (sRet (fVar 1))))
noncomputable def g__law_row_here : GN := gFn 3 false b__law_row_here
theorem ok__law_row_here {f : Addr} {fd : FuncData} (F : Fun K "_law_row_here" "_law_row_here" s__law_row_here f fd) (hm : mg "_law_row_here" = some (.ref f)) (z_dict : mg "dict" = none) : Callee Pg w K mg base 11 "_law_row_here" 2 g__law_row_here :=
  callee_of F sc__law_row_here rfl hm (F.binds fun _ _ _ _ _ _ us hl => match us, hl with | [_, _], _ => rfl) fun cdv A outer s H E hr =>
  dcs_cons (dc_set (i := 2) sc__law_row_here.nd rfl (Or.inl rfl) (de_t (f_dict rfl) rfl z_dict (by decide +kernel) (da_cons (dv 0) (da_nil))))
  (dcs_cons (dc_while PassesOwn.never (dt_c (c_eq (u64 hr)) (de_item (u1 hr) (de_item (u1 hr) (dv 2) (dv 1) (fun _ _ => rfl)) (de_int) (fun _ _ => rfl)) (de_str) rfl)
  (dcs_one (dc_set (i := 1) sc__law_row_here.nd rfl (Or.inl rfl) (de_item (u1 hr) (de_item (u1 hr) (dv 2) (dv 1) (fun _ _ => rfl)) (de_int) (fun _ _ => rfl)))))
  (dcs_one (dc_ret (dv 1))))
abbrev s__law_head_here : Stmt := topS 12
theorem sc__law_head_here : FnScope ["_law_told", "_law_name"] ["_law_told", "_law_name"] (defScope s__law_head_here) := ⟨rfl, rfl, rfl, by decide +kernel, rfl, by decide +kernel, by decide +kernel⟩
noncomputable def b__law_head_here : FS :=
  (sRet (fBin gIx (fCall gDict (aCons (fVar 0) aNil)) (fCall g__law_row_here (aCons (fVar 0) (aCons (fVar 1) aNil)))))
noncomputable def g__law_head_here : GN := gFn 2 false b__law_head_here
theorem ok__law_head_here {f : Addr} {fd : FuncData} (F : Fun K "_law_head_here" "_law_head_here" s__law_head_here f fd) (hm : mg "_law_head_here" = some (.ref f)) (C__law_row_here : Callee Pg w K mg base 11 "_law_row_here" 2 g__law_row_here) (z_dict : mg "dict" = none) : Callee Pg w K mg base 12 "_law_head_here" 2 g__law_head_here :=
  callee_of F sc__law_head_here rfl hm (F.binds fun _ _ _ _ _ _ us hl => match us, hl with | [_, _], _ => rfl) fun cdv A outer s H E hr =>
  dcs_one (dc_ret (de_item (u1 hr) (de_t (f_dict rfl) rfl z_dict (by decide +kernel) (da_cons (dv 0) (da_nil))) (de_call (C__law_row_here.mono (by decide)) (hr.mono (by decide : 11 ≤ 11)) rfl (da_cons (dv 0) (da_cons (dv 1) (da_nil))) (aCons_len (aCons_len (fun _ _ _ _ => aNil_len)))) (fun _ _ => rfl)))
abbrev s__law_split_over : Stmt := topS 19
theorem sc__law_split_over : FnScope ["_law_pen", "_law_told", "_law_name", "_law_known", "_law_deep", "_law_rows", "_law_row", "_law_held", "_law_cases", "_law_word", "_law_other", "_law_bound", "_law_inner", "_law_made", "_law_here"] ["_law_pen", "_law_told", "_law_name", "_law_known", "_law_deep"] (defScope s__law_split_over) := ⟨rfl, rfl, rfl, by decide +kernel, rfl, by decide +kernel, by decide +kernel⟩
noncomputable abbrev t__law_split_over_1 (G__law_split_over : GN) (G__law_for : GN) (G__law_wrapped : GN) : FT :=
  (fAnd (fTest (fBin gEq (fBin gIx (fVar 14) (fC (.int 0))) (fC (.str ("pick" : Str))))) (fTest (fBin gNe (fBin gIx (fVar 14) (fC (.int 1))) (fTupF aNil))))
noncomputable abbrev l__law_split_over_2 (G__law_split_over : GN) (G__law_for : GN) (G__law_wrapped : GN) : FS :=
  (sSeq (sAsg (fCall g__law_name_bound (aCons (fVar 0) aNil)) (gN 11))
  (sSeq (sAsg (fCall gDictH (aCons (fVar 3) aNil)) (gN 12))
  (sSeq (sAsg (fCall g__law_row_here (aCons (fVar 1) (aCons (fVar 10) aNil))) (gSet (fVar 12) (fVar 11) gSetA))
  (sSeq (sAsg (fCall G__law_for (aCons (fVar 0) (aCons (fVar 1) (aCons (fVar 2) (aCons (fVar 12) (aCons (fBin gSub (fVar 4) (fC (.int 1))) aNil)))))) (gN 13))
  (sExpr (fMeth "list" gAppend (fVar 8) (aCons (fTup (aCons (fVar 9) (aCons (fVar 11) (aCons (fVar 13) aNil)))) aNil)))))))
noncomputable def b__law_split_over (G__law_split_over : GN) (G__law_for : GN) (G__law_wrapped : GN) : FS :=
  (sSeq (sAsg (fComp (fIt (fVar 1)) (gTupN [6, 14]) (t__law_split_over_1 G__law_split_over G__law_for G__law_wrapped) (fVar 6) [6, 14]) (gN 5))
  (sSeq (sIf (fTest (fBin gEq (fVar 5) (fLst aNil)))
  (sRet (fCall G__law_for (aCons (fVar 0) (aCons (fVar 1) (aCons (fVar 2) (aCons (fVar 3) (aCons (fVar 4) aNil)))))))
  sNil)
  (sSeq (sAsg (fBin gIx (fVar 5) (fCall g__law_next (aCons (fVar 0) (aCons (fCall gLen (aCons (fVar 5) aNil)) aNil)))) (gN 6))
  (sSeq (sAsg (fTup (aCons (fC (.str ("hold" : Str))) (aCons (fCall G__law_for (aCons (fVar 0) (aCons (fVar 1) (aCons (fVar 6) (aCons (fVar 3) (aCons (fBin gSub (fVar 4) (fC (.int 1))) aNil)))))) (aCons (fVar 6) aNil)))) (gN 7))
  (sSeq (sAsg (fLstH aNil) (gN 8))
  (sSeq (sFor (fIt (fBin gIx (fBin gIx (fCall gDict (aCons (fVar 1) aNil)) (fVar 6)) (fC (.int 1)))) (gTupN [9, 10])
  (l__law_split_over_2 G__law_split_over G__law_for G__law_wrapped))
  (sSeq (sIf (fTest (fBin gEq (fCall g__law_next (aCons (fVar 0) (aCons (fC (.int 3)) aNil))) (fC (.int 0))))
  (sExpr (fMeth "list" gAppend (fVar 8) (aCons (fTup (aCons (fC (.str ("zz" : Str))) (aCons (fC (.str ("v" : Str))) (aCons (fTup (aCons (fC (.str ("part" : Str))) (aCons (fTup (aCons (fC (.str ("box" : Str))) (aCons (fTupF aNil) aNil))) (aCons (fC (.str ("zz" : Str))) aNil)))) aNil)))) aNil)))
  sNil)
  (sRet (fTup (aCons (fC (.str ("split" : Str))) (aCons (fVar 7) (aCons (fCall gTuple (aCons (fVar 8) aNil)) aNil))))))))))))
theorem body__law_split_over {G__law_split_over G__law_for G__law_wrapped : GN} {f : Addr} {cdv : Value} {A : Around} {outer : List Env} {s : Shared} {H : Hp} {E : XK} {m : Nat} (C__law_next : Callee Pg w K mg base 2 "_law_next" 2 g__law_next) (C__law_name_bound : Callee Pg w K mg base 10 "_law_name_bound" 1 g__law_name_bound) (C__law_row_here : Callee Pg w K mg base 11 "_law_row_here" 2 g__law_row_here) (z_len : mg "len" = none) (z_dict : mg "dict" = none) (z_tuple : mg "tuple" = none) (C__law_split_over : Callee Pg w K mg base (13 + m) "_law_split_over" 5 G__law_split_over) (C__law_for : Callee Pg w K mg base (13 + m) "_law_for" 5 G__law_for) (C__law_wrapped : Callee Pg w K mg base (13 + m) "_law_wrapped" 5 G__law_wrapped) (hr : Room (13 + m) (A.deeper (envOfC "_law_split_over" (defScope s__law_split_over) s.heap.objs.size f cdv))) : DCs (cxOf CX0 Pg w K mg base ["_law_pen", "_law_told", "_law_name", "_law_known", "_law_deep", "_law_rows", "_law_row", "_law_held", "_law_cases", "_law_word", "_law_other", "_law_bound", "_law_inner", "_law_made", "_law_here"] "_law_split_over" (defScope s__law_split_over) f cdv A outer s H E).nox (defBody s__law_split_over) (b__law_split_over G__law_split_over G__law_for G__law_wrapped) :=
  dcs_cons (dc_setComp (i := 5) (own := [("_law_row", 6), ("_law_here", 14)]) (compG_tup (is := [6, 14]) (n := 2) (.cons (i := 6) (.cons (i := 14) (.nil))) (by decide) rfl) rfl sc__law_split_over.nd rfl rfl (sw_true rfl rfl rfl (by decide +kernel)) (di_it (dv 1)) (blkOk_by (own := [("_law_row", 6), ("_law_here", 14)]) (N := ["_law_pen", "_law_told", "_law_name", "_law_known", "_law_deep", "_law_rows", "_law_row", "_law_held", "_law_cases", "_law_word", "_law_other", "_law_bound", "_law_inner", "_law_made", "_law_here"]) (sc := defScope s__law_split_over) (by decide +kernel)) (fun _ _ _ _ _ => pg_tup rfl (pgs_cons (pg_name (i := 6) sc__law_split_over.nd rfl (by first | exact Or.inl rfl | exact Or.inr rfl)) (pgs_cons (pg_name (i := 14) sc__law_split_over.nd rfl (by first | exact Or.inl rfl | exact Or.inr rfl)) (pgs_nil)))) (fun _ _ _ _ _ => dts_one (dt_w (dw_and (dt_c (c_eq (u64 hr)) (de_item (u1 hr) (dv 14) (de_int) (fun _ _ => rfl)) (de_str) rfl) (dw_and1 (dt_c (c_ne (u64 hr)) (de_item (u1 hr) (dv 14) (de_int) (fun _ _ => rfl)) (de_tupF (da_nil)) rfl))))) (fun _ _ _ _ _ => dv 6))
  (dcs_cons (dc_if (dt_c (c_eq (u64 hr)) (dv 5) (de_lst (da_nil)) rfl)
  (dcs_one (dc_ret (de_call C__law_for hr rfl (da_cons (dv 0) (da_cons (dv 1) (da_cons (dv 2) (da_cons (dv 3) (da_cons (dv 4) (da_nil)))))) (aCons_len (aCons_len (aCons_len (aCons_len (aCons_len (fun _ _ _ _ => aNil_len)))))))))
  (dcs_nil))
  (dcs_cons (dc_set (i := 6) sc__law_split_over.nd rfl (Or.inl rfl) (de_item (u1 hr) (dv 5) (de_call C__law_next (hr.mono (by omega)) rfl (da_cons (dv 0) (da_cons (de_b f_len rfl z_len (PySem.boot_len) (da_cons (dv 5) (da_nil))) (da_nil))) (aCons_len (aCons_len (fun _ _ _ _ => aNil_len)))) (fun _ _ => rfl)))
  (dcs_cons (dc_set (i := 7) sc__law_split_over.nd rfl (Or.inl rfl) (de_tup (da_cons (de_str) (da_cons (de_call C__law_for hr rfl (da_cons (dv 0) (da_cons (dv 1) (da_cons (dv 6) (da_cons (dv 3) (da_cons (de_sub (dv 4) (de_int)) (da_nil)))))) (aCons_len (aCons_len (aCons_len (aCons_len (aCons_len (fun _ _ _ _ => aNil_len))))))) (da_cons (dv 6) (da_nil))))))
  (dcs_cons (dc_set (i := 8) sc__law_split_over.nd rfl (Or.inl rfl) (de_lstH (da_nil)))
  (dcs_cons (dc_for PassesOwn.never rfl (di_it (de_item (u1 hr) (de_item (u1 hr) (de_t (f_dict rfl) rfl z_dict (by decide +kernel) (da_cons (dv 1) (da_nil))) (dv 6) (fun _ _ => rfl)) (de_int) (fun _ _ => rfl))) (dg_tup (is := [9, 10]) rfl sc__law_split_over.nd (.cons rfl (Or.inl rfl) (.inl rfl) (.cons rfl (Or.inl rfl) (.inl rfl) (.nil) rfl) rfl))
  (dcs_cons (dc_set (i := 11) sc__law_split_over.nd rfl (Or.inl rfl) (de_call C__law_name_bound (hr.mono (by omega)) rfl (da_cons (dv 0) (da_nil)) (aCons_len (fun _ _ _ _ => aNil_len))))
  (dcs_cons (dc_set (i := 12) sc__law_split_over.nd rfl (Or.inl rfl) (de_t (f_dictH rfl) rfl z_dict (by decide +kernel) (da_cons (dv 3) (da_nil))))
  (dcs_cons (dc_asg (de_call C__law_row_here (hr.mono (by omega)) rfl (da_cons (dv 1) (da_cons (dv 10) (da_nil))) (aCons_len (aCons_len (fun _ _ _ _ => aNil_len)))) (dg_item (u1 hr) (dv 12) (dv 11)))
  (dcs_cons (dc_set (i := 13) sc__law_split_over.nd rfl (Or.inl rfl) (de_call C__law_for hr rfl (da_cons (dv 0) (da_cons (dv 1) (da_cons (dv 2) (da_cons (dv 12) (da_cons (de_sub (dv 4) (de_int)) (da_nil)))))) (aCons_len (aCons_len (aCons_len (aCons_len (aCons_len (fun _ _ _ _ => aNil_len))))))))
  (dcs_one (dc_expr (de_m PySem.F.plainAttrs_list PySem.F.slot_list_append PySem.F.type_list_append m_append (dv 8) (da_cons (de_tup (da_cons (dv 9) (da_cons (dv 11) (da_cons (dv 13) (da_nil))))) (da_nil))))))))))
  (dcs_cons (dc_if (dt_c (c_eq (u64 hr)) (de_call C__law_next (hr.mono (by omega)) rfl (da_cons (dv 0) (da_cons (de_int) (da_nil))) (aCons_len (aCons_len (fun _ _ _ _ => aNil_len)))) (de_int) rfl)
  (dcs_one (dc_expr (de_m PySem.F.plainAttrs_list PySem.F.slot_list_append PySem.F.type_list_append m_append (dv 8) (da_cons (de_tup (da_cons (de_str) (da_cons (de_str) (da_cons (de_tup (da_cons (de_str) (da_cons (de_tup (da_cons (de_str) (da_cons (de_tupF (da_nil)) (da_nil)))) (da_cons (de_str) (da_nil))))) (da_nil))))) (da_nil)))))
  (dcs_nil))
  (dcs_one (dc_ret (de_tup (da_cons (de_str) (da_cons (dv 7) (da_cons (de_t f_tuple rfl z_tuple (by decide +kernel) (da_cons (dv 8) (da_nil))) (da_nil)))))))))))))
abbrev s__law_for : Stmt := topS 17
theorem sc__law_for : FnScope ["_law_pen", "_law_told", "_law_name", "_law_known", "_law_deep", "_law_here", "_law_row", "_law_some", "_law_parts_here", "_law_inner", "_law_bound", "_law_made", "_law_word", "_law_other"] ["_law_pen", "_law_told", "_law_name", "_law_known", "_law_deep"] (defScope s__law_for) := ⟨rfl, rfl, rfl, by decide +kernel, rfl, by decide +kernel, by decide +kernel⟩
noncomputable abbrev t__law_for_1 (G__law_split_over : GN) (G__law_for : GN) (G__law_wrapped : GN) : FT :=
  (fTest (fBin gEq (fBin gIx (fVar 3) (fVar 10)) (fVar 6)))
noncomputable abbrev e__law_for_2 (G__law_split_over : GN) (G__law_for : GN) (G__law_wrapped : GN) : FE :=
  (fTup (aCons (fVar 12) (aCons (fCall G__law_wrapped (aCons (fVar 0) (aCons (fVar 1) (aCons (fVar 13) (aCons (fVar 3) (aCons (fBin gSub (fVar 4) (fC (.int 1))) aNil)))))) aNil)))
noncomputable def b__law_for (G__law_split_over : GN) (G__law_for : GN) (G__law_wrapped : GN) : FS :=
  (sSeq (sAsg (fCall g__law_head_here (aCons (fVar 1) (aCons (fVar 2) aNil))) (gN 5))
  (sSeq (sAsg (fCall g__law_row_here (aCons (fVar 1) (aCons (fVar 2) aNil))) (gN 6))
  (sSeq (sAsg (fComp (fIt (fCall gSortDk (aCons (fVar 3) aNil))) (gN 10) (t__law_for_1 G__law_split_over G__law_for G__law_wrapped) (fVar 10) [10]) (gN 7))
  (sSeq (sIf (fAnd (fTest (fBin gNe (fVar 7) (fLst aNil))) (fTest (fBin gGt (fCall g__law_next (aCons (fVar 0) (aCons (fC (.int 3)) aNil))) (fC (.int 0)))))
  (sRet (fTup (aCons (fC (.str ("get" : Str))) (aCons (fBin gIx (fVar 7) (fCall g__law_next (aCons (fVar 0) (aCons (fCall gLen (aCons (fVar 7) aNil)) aNil)))) aNil))))
  sNil)
  (sSeq (sIf (fOr (fTest (fBin gEq (fVar 4) (fC (.int 0)))) (fOr (fTest (fBin gEq (fBin gIx (fVar 5) (fC (.int 0))) (fC (.str ("none" : Str))))) (fTest (fBin gEq (fVar 5) (fTup (aCons (fC (.str ("pick" : Str))) (aCons (fTupF aNil) aNil)))))))
  (sRet (fCall g__law_endless aNil))
  sNil)
  (sSeq (sIf (fTest (fBin gEq (fBin gIx (fVar 5) (fC (.int 0))) (fC (.str ("all" : Str)))))
  (sRet (fCall G__law_for (aCons (fVar 0) (aCons (fVar 1) (aCons (fCall g__law_any (aCons (fVar 0) (aCons (fVar 1) aNil))) (aCons (fVar 3) (aCons (fBin gSub (fVar 4) (fC (.int 1))) aNil)))))))
  sNil)
  (sSeq (sIf (fTest (fBin gEq (fBin gIx (fVar 5) (fC (.int 0))) (fC (.str ("way" : Str)))))
  (sSeq (sAsg (fCall gDictH (aCons (fVar 3) aNil)) (gN 9))
  (sSeq (sAsg (fCall g__law_name_bound (aCons (fVar 0) aNil)) (gN 10))
  (sSeq (sAsg (fCall g__law_row_here (aCons (fVar 1) (aCons (fBin gIx (fVar 5) (fC (.int 1))) aNil))) (gSet (fVar 9) (fVar 10) gSetA))
  (sSeq (sAsg (fCall G__law_wrapped (aCons (fVar 0) (aCons (fVar 1) (aCons (fBin gIx (fVar 5) (fC (.int 2))) (aCons (fVar 9) (aCons (fBin gSub (fVar 4) (fC (.int 1))) aNil)))))) (gN 11))
  (sRet (fTup (aCons (fC (.str ("fn" : Str))) (aCons (fVar 10) (aCons (fBin gIx (fVar 5) (fC (.int 1))) (aCons (fVar 11) aNil))))))))))
  sNil)
  (sSeq (sIf (fTest (fBin gEq (fBin gIx (fVar 5) (fC (.int 0))) (fC (.str ("pick" : Str)))))
  (sSeq (sAsg (fBin gIx (fBin gIx (fVar 5) (fC (.int 1))) (fCall g__law_next (aCons (fVar 0) (aCons (fCall gLen (aCons (fBin gIx (fVar 5) (fC (.int 1))) aNil)) aNil)))) (gTupN [12, 13]))
  (sRet (fTup (aCons (fC (.str ("pick" : Str))) (aCons (fVar 12) (aCons (fCall G__law_wrapped (aCons (fVar 0) (aCons (fVar 1) (aCons (fVar 13) (aCons (fVar 3) (aCons (fBin gSub (fVar 4) (fC (.int 1))) aNil)))))) aNil))))))
  sNil)
  (sSeq (sAsg (fCompH (fIt (fBin gIx (fVar 5) (fC (.int 1)))) (gTupN [12, 13]) fYes (e__law_for_2 G__law_split_over G__law_for G__law_wrapped) [12, 13]) (gN 8))
  (sSeq (sIf (fTest (fBin gEq (fCall g__law_next (aCons (fVar 0) (aCons (fC (.int 3)) aNil))) (fC (.int 0))))
  (sExpr (fMeth "list" gAppend (fVar 8) (aCons (fTup (aCons (fC (.str ("z" : Str))) (aCons (fTup (aCons (fC (.str ("box" : Str))) (aCons (fTupF aNil) aNil))) aNil))) aNil)))
  sNil)
  (sRet (fTup (aCons (fC (.str ("box" : Str))) (aCons (fCall gTuple (aCons (fVar 8) aNil)) aNil))))))))))))))
theorem body__law_for {G__law_split_over G__law_for G__law_wrapped : GN} {f : Addr} {cdv : Value} {A : Around} {outer : List Env} {s : Shared} {H : Hp} {E : XK} {m : Nat} (C__law_head_here : Callee Pg w K mg base 12 "_law_head_here" 2 g__law_head_here) (C__law_row_here : Callee Pg w K mg base 11 "_law_row_here" 2 g__law_row_here) (C__law_next : Callee Pg w K mg base 2 "_law_next" 2 g__law_next) (C__law_endless : Callee Pg w K mg base 8 "_law_endless" 0 g__law_endless) (C__law_any : Callee Pg w K mg base 9 "_law_any" 2 g__law_any) (C__law_name_bound : Callee Pg w K mg base 10 "_law_name_bound" 1 g__law_name_bound) (z_sorted : mg "sorted" = none) (z_len : mg "len" = none) (z_dict : mg "dict" = none) (z_tuple : mg "tuple" = none) (C__law_split_over : Callee Pg w K mg base (13 + m) "_law_split_over" 5 G__law_split_over) (C__law_for : Callee Pg w K mg base (13 + m) "_law_for" 5 G__law_for) (C__law_wrapped : Callee Pg w K mg base (13 + m) "_law_wrapped" 5 G__law_wrapped) (hr : Room (13 + m) (A.deeper (envOfC "_law_for" (defScope s__law_for) s.heap.objs.size f cdv))) : DCs (cxOf CX0 Pg w K mg base ["_law_pen", "_law_told", "_law_name", "_law_known", "_law_deep", "_law_here", "_law_row", "_law_some", "_law_parts_here", "_law_inner", "_law_bound", "_law_made", "_law_word", "_law_other"] "_law_for" (defScope s__law_for) f cdv A outer s H E).nox (defBody s__law_for) (b__law_for G__law_split_over G__law_for G__law_wrapped) :=
  dcs_cons (dc_set (i := 5) sc__law_for.nd rfl (Or.inl rfl) (de_call C__law_head_here (hr.mono (by omega)) rfl (da_cons (dv 1) (da_cons (dv 2) (da_nil))) (aCons_len (aCons_len (fun _ _ _ _ => aNil_len)))))
  (dcs_cons (dc_set (i := 6) sc__law_for.nd rfl (Or.inr rfl) (de_call C__law_row_here (hr.mono (by omega)) rfl (da_cons (dv 1) (da_cons (dv 2) (da_nil))) (aCons_len (aCons_len (fun _ _ _ _ => aNil_len)))))
  (dcs_cons (dc_setComp (i := 7) (own := [("_law_bound", 10)]) (compG_name (by decide)) rfl sc__law_for.nd rfl rfl (sw_true rfl rfl rfl (by decide +kernel)) (di_it (de_b (f_sortDk rfl (u64 hr)) rfl z_sorted (by decide +kernel) (da_cons (dv 3) (da_nil)))) (blkOk_by (own := [("_law_bound", 10)]) (N := ["_law_pen", "_law_told", "_law_name", "_law_known", "_law_deep", "_law_here", "_law_row", "_law_some", "_law_parts_here", "_law_inner", "_law_bound", "_law_made", "_law_word", "_law_other"]) (sc := defScope s__law_for) (by decide +kernel)) (fun _ _ _ _ _ => pg_name (i := 10) sc__law_for.nd rfl (by first | exact Or.inl rfl | exact Or.inr rfl)) (fun _ _ _ _ _ => dts_one (dt_c (c_eq (u64 hr)) (de_item (u1 hr) (dv 3) (dv 10) (fun _ _ => rfl)) (dv 6) rfl)) (fun _ _ _ _ _ => dv 10))
  (dcs_cons (dc_if (dt_w (dw_and (dt_c (c_ne (u64 hr)) (dv 7) (de_lst (da_nil)) rfl) (dw_and1 (dt_c c_gt (de_call C__law_next (hr.mono (by omega)) rfl (da_cons (dv 0) (da_cons (de_int) (da_nil))) (aCons_len (aCons_len (fun _ _ _ _ => aNil_len)))) (de_int) rfl))))
  (dcs_one (dc_ret (de_tup (da_cons (de_str) (da_cons (de_item (u1 hr) (dv 7) (de_call C__law_next (hr.mono (by omega)) rfl (da_cons (dv 0) (da_cons (de_b f_len rfl z_len (PySem.boot_len) (da_cons (dv 7) (da_nil))) (da_nil))) (aCons_len (aCons_len (fun _ _ _ _ => aNil_len)))) (fun _ _ => rfl)) (da_nil))))))
  (dcs_nil))
  (dcs_cons (dc_if (dt_w (dw_or (dt_c (c_eq (u64 hr)) (dv 4) (de_int) rfl) (dw_or (dt_c (c_eq (u64 hr)) (de_item (u1 hr) (dv 5) (de_int) (fun _ _ => rfl)) (de_str) rfl) (dw_or1 (dt_c (c_eq (u64 hr)) (dv 5) (de_tup (da_cons (de_str) (da_cons (de_tupF (da_nil)) (da_nil)))) rfl)))))
  (dcs_one (dc_ret (de_call0 C__law_endless (hr.mono (by omega)) rfl)))
  (dcs_nil))
  (dcs_cons (dc_if (dt_c (c_eq (u64 hr)) (de_item (u1 hr) (dv 5) (de_int) (fun _ _ => rfl)) (de_str) rfl)
  (dcs_one (dc_ret (de_call C__law_for hr rfl (da_cons (dv 0) (da_cons (dv 1) (da_cons (de_call C__law_any (hr.mono (by omega)) rfl (da_cons (dv 0) (da_cons (dv 1) (da_nil))) (aCons_len (aCons_len (fun _ _ _ _ => aNil_len)))) (da_cons (dv 3) (da_cons (de_sub (dv 4) (de_int)) (da_nil)))))) (aCons_len (aCons_len (aCons_len (aCons_len (aCons_len (fun _ _ _ _ => aNil_len)))))))))
  (dcs_nil))
  (dcs_cons (dc_if (dt_c (c_eq (u64 hr)) (de_item (u1 hr) (dv 5) (de_int) (fun _ _ => rfl)) (de_str) rfl)
  (dcs_cons (dc_set (i := 9) sc__law_for.nd rfl (Or.inl rfl) (de_t (f_dictH rfl) rfl z_dict (by decide +kernel) (da_cons (dv 3) (da_nil))))
  (dcs_cons (dc_set (i := 10) sc__law_for.nd rfl (Or.inl rfl) (de_call C__law_name_bound (hr.mono (by omega)) rfl (da_cons (dv 0) (da_nil)) (aCons_len (fun _ _ _ _ => aNil_len))))
  (dcs_cons (dc_asg (de_call C__law_row_here (hr.mono (by omega)) rfl (da_cons (dv 1) (da_cons (de_item (u1 hr) (dv 5) (de_int) (fun _ _ => rfl)) (da_nil))) (aCons_len (aCons_len (fun _ _ _ _ => aNil_len)))) (dg_item (u1 hr) (dv 9) (dv 10)))
  (dcs_cons (dc_set (i := 11) sc__law_for.nd rfl (Or.inl rfl) (de_call C__law_wrapped hr rfl (da_cons (dv 0) (da_cons (dv 1) (da_cons (de_item (u1 hr) (dv 5) (de_int) (fun _ _ => rfl)) (da_cons (dv 9) (da_cons (de_sub (dv 4) (de_int)) (da_nil)))))) (aCons_len (aCons_len (aCons_len (aCons_len (aCons_len (fun _ _ _ _ => aNil_len))))))))
  (dcs_one (dc_ret (de_tup (da_cons (de_str) (da_cons (dv 10) (da_cons (de_item (u1 hr) (dv 5) (de_int) (fun _ _ => rfl)) (da_cons (dv 11) (da_nil))))))))))))
  (dcs_nil))
  (dcs_cons (dc_if (dt_c (c_eq (u64 hr)) (de_item (u1 hr) (dv 5) (de_int) (fun _ _ => rfl)) (de_str) rfl)
  (dcs_cons (dc_asg (de_item (u1 hr) (de_item (u1 hr) (dv 5) (de_int) (fun _ _ => rfl)) (de_call C__law_next (hr.mono (by omega)) rfl (da_cons (dv 0) (da_cons (de_b f_len rfl z_len (PySem.boot_len) (da_cons (de_item (u1 hr) (dv 5) (de_int) (fun _ _ => rfl)) (da_nil))) (da_nil))) (aCons_len (aCons_len (fun _ _ _ _ => aNil_len)))) (fun _ _ => rfl)) (dg_tup (is := [12, 13]) rfl sc__law_for.nd (.cons rfl (Or.inl rfl) (.inl rfl) (.cons rfl (Or.inl rfl) (.inl rfl) (.nil) rfl) rfl)))
  (dcs_one (dc_ret (de_tup (da_cons (de_str) (da_cons (dv 12) (da_cons (de_call C__law_wrapped hr rfl (da_cons (dv 0) (da_cons (dv 1) (da_cons (dv 13) (da_cons (dv 3) (da_cons (de_sub (dv 4) (de_int)) (da_nil)))))) (aCons_len (aCons_len (aCons_len (aCons_len (aCons_len (fun _ _ _ _ => aNil_len))))))) (da_nil))))))))
  (dcs_nil))
  (dcs_cons (dc_setCompH (i := 8) (own := [("_law_word", 12), ("_law_other", 13)]) (compG_tup (is := [12, 13]) (n := 2) (.cons (i := 12) (.cons (i := 13) (.nil))) (by decide) rfl) rfl sc__law_for.nd rfl rfl (sw_true rfl rfl rfl (by decide +kernel)) (di_it (de_item (u1 hr) (dv 5) (de_int) (fun _ _ => rfl))) (blkOk_by (own := [("_law_word", 12), ("_law_other", 13)]) (N := ["_law_pen", "_law_told", "_law_name", "_law_known", "_law_deep", "_law_here", "_law_row", "_law_some", "_law_parts_here", "_law_inner", "_law_bound", "_law_made", "_law_word", "_law_other"]) (sc := defScope s__law_for) (by decide +kernel)) (fun _ _ _ _ _ => pg_tup rfl (pgs_cons (pg_name (i := 12) sc__law_for.nd rfl (by first | exact Or.inl rfl | exact Or.inr rfl)) (pgs_cons (pg_name (i := 13) sc__law_for.nd rfl (by first | exact Or.inl rfl | exact Or.inr rfl)) (pgs_nil)))) (fun _ _ _ _ _ => dts_nil) (fun _ _ _ _ _ => de_tup (da_cons (dv 12) (da_cons (de_call C__law_wrapped hr rfl (da_cons (dv 0) (da_cons (dv 1) (da_cons (dv 13) (da_cons (dv 3) (da_cons (de_sub (dv 4) (de_int)) (da_nil)))))) (aCons_len (aCons_len (aCons_len (aCons_len (aCons_len (fun _ _ _ _ => aNil_len))))))) (da_nil)))))
  (dcs_cons (dc_if (dt_c (c_eq (u64 hr)) (de_call C__law_next (hr.mono (by omega)) rfl (da_cons (dv 0) (da_cons (de_int) (da_nil))) (aCons_len (aCons_len (fun _ _ _ _ => aNil_len)))) (de_int) rfl)
  (dcs_one (dc_expr (de_m PySem.F.plainAttrs_list PySem.F.slot_list_append PySem.F.type_list_append m_append (dv 8) (da_cons (de_tup (da_cons (de_str) (da_cons (de_tup (da_cons (de_str) (da_cons (de_tupF (da_nil)) (da_nil)))) (da_nil)))) (da_nil)))))
  (dcs_nil))
  (dcs_one (dc_ret (de_tup (da_cons (de_str) (da_cons (de_t f_tuple rfl z_tuple (by decide +kernel) (da_cons (dv 8) (da_nil))) (da_nil)))))))))))))))
abbrev s__law_wrapped : Stmt := topS 18
theorem sc__law_wrapped : FnScope ["_law_pen", "_law_told", "_law_name", "_law_known", "_law_deep", "_law_way", "_law_other", "_law_inner", "_law_bound", "_law_first", "_law_made", "_law_at", "_law_cases", "_law_word"] ["_law_pen", "_law_told", "_law_name", "_law_known", "_law_deep"] (defScope s__law_wrapped) := ⟨rfl, rfl, rfl, by decide +kernel, rfl, by decide +kernel, by decide +kernel⟩
noncomputable abbrev e__law_wrapped_1 (G__law_split_over : GN) (G__law_for : GN) (G__law_wrapped : GN) : FE :=
  (fTup (aCons (fVar 13) (aCons (fVar 8) (aCons (fTup (aCons (fC (.str ("part" : Str))) (aCons (fTup (aCons (fC (.str ("box" : Str))) (aCons (fTupF aNil) aNil))) (aCons (fC (.str ("zz" : Str))) aNil)))) aNil))))
noncomputable def b__law_wrapped (G__law_split_over : GN) (G__law_for : GN) (G__law_wrapped : GN) : FS :=
  (sSeq (sAsg (fCall g__law_next (aCons (fVar 0) (aCons (fC (.int 9)) aNil))) (gN 5))
  (sSeq (sIf (fOr (fTest (fBin gEq (fVar 4) (fC (.int 0)))) (fTest (fBin gGt (fVar 5) (fC (.int 4)))))
  (sRet (fCall G__law_for (aCons (fVar 0) (aCons (fVar 1) (aCons (fVar 2) (aCons (fVar 3) (aCons (fVar 4) aNil)))))))
  sNil)
  (sSeq (sIf (fTest (fBin gEq (fVar 5) (fC (.int 0))))
  (sRet (fTup (aCons (fC (.str ("hold" : Str))) (aCons (fCall G__law_for (aCons (fVar 0) (aCons (fVar 1) (aCons (fVar 2) (aCons (fVar 3) (aCons (fVar 4) aNil)))))) (aCons (fVar 2) aNil)))))
  sNil)
  (sSeq (sIf (fTest (fBin gEq (fVar 5) (fC (.int 1))))
  (sSeq (sAsg (fCall G__law_for (aCons (fVar 0) (aCons (fVar 1) (aCons (fVar 2) (aCons (fVar 3) (aCons (fVar 4) aNil)))))) (gN 10))
  (sRet (fTup (aCons (fC (.str ("part" : Str))) (aCons (fTup (aCons (fC (.str ("box" : Str))) (aCons (fTupF (aCons (fTup (aCons (fC (.str ("a" : Str))) (aCons (fVar 10) aNil))) (aCons (fTup (aCons (fC (.str ("b" : Str))) (aCons (fTup (aCons (fC (.str ("box" : Str))) (aCons (fTupF aNil) aNil))) aNil))) aNil))) aNil))) (aCons (fC (.str ("a" : Str))) aNil))))))
  sNil)
  (sSeq (sIf (fTest (fBin gEq (fVar 5) (fC (.int 4))))
  (sRet (fCall G__law_split_over (aCons (fVar 0) (aCons (fVar 1) (aCons (fVar 2) (aCons (fVar 3) (aCons (fVar 4) aNil)))))))
  sNil)
  (sSeq (sAsg (fCall g__law_any (aCons (fVar 0) (aCons (fVar 1) aNil))) (gN 6))
  (sSeq (sAsg (fCall gDictH (aCons (fVar 3) aNil)) (gN 7))
  (sSeq (sAsg (fCall g__law_name_bound (aCons (fVar 0) aNil)) (gN 8))
  (sSeq (sAsg (fCall g__law_row_here (aCons (fVar 1) (aCons (fVar 6) aNil))) (gSet (fVar 7) (fVar 8) gSetA))
  (sSeq (sAsg (fCall G__law_for (aCons (fVar 0) (aCons (fVar 1) (aCons (fVar 6) (aCons (fVar 3) (aCons (fBin gSub (fVar 4) (fC (.int 1))) aNil)))))) (gN 9))
  (sSeq (sAsg (fCall G__law_for (aCons (fVar 0) (aCons (fVar 1) (aCons (fVar 2) (aCons (fVar 7) (aCons (fBin gSub (fVar 4) (fC (.int 1))) aNil)))))) (gN 10))
  (sSeq (sIf (fTest (fBin gEq (fVar 5) (fC (.int 2))))
  (sRet (fTup (aCons (fC (.str ("call" : Str))) (aCons (fTup (aCons (fC (.str ("fn" : Str))) (aCons (fVar 8) (aCons (fVar 6) (aCons (fVar 10) aNil))))) (aCons (fVar 9) aNil)))))
  sNil)
  (sSeq (sAsg (fCall g__law_next (aCons (fVar 0) (aCons (fC (.int 3)) aNil))) (gN 11))
  (sSeq (sAsg (fCompH (fIt (fLst (aCons (fC (.str ("a" : Str))) (aCons (fC (.str ("b" : Str))) (aCons (fC (.str ("ba" : Str))) aNil))))) (gN 13) fYes (e__law_wrapped_1 G__law_split_over G__law_for G__law_wrapped) [13]) (gN 12))
  (sSeq (sAsg (fTup (aCons (fBin gIx (fBin gIx (fVar 12) (fVar 11)) (fC (.int 0))) (aCons (fVar 8) (aCons (fVar 10) aNil)))) (gSet (fVar 12) (fVar 11) gSetA))
  (sRet (fTup (aCons (fC (.str ("split" : Str))) (aCons (fTup (aCons (fC (.str ("pick" : Str))) (aCons (fBin gIx (fBin gIx (fVar 12) (fVar 11)) (fC (.int 0))) (aCons (fVar 9) aNil)))) (aCons (fCall gTuple (aCons (fVar 12) aNil)) aNil))))))))))))))))))))
theorem body__law_wrapped {G__law_split_over G__law_for G__law_wrapped : GN} {f : Addr} {cdv : Value} {A : Around} {outer : List Env} {s : Shared} {H : Hp} {E : XK} {m : Nat} (C__law_next : Callee Pg w K mg base 2 "_law_next" 2 g__law_next) (C__law_any : Callee Pg w K mg base 9 "_law_any" 2 g__law_any) (C__law_name_bound : Callee Pg w K mg base 10 "_law_name_bound" 1 g__law_name_bound) (C__law_row_here : Callee Pg w K mg base 11 "_law_row_here" 2 g__law_row_here) (z_dict : mg "dict" = none) (z_tuple : mg "tuple" = none) (C__law_split_over : Callee Pg w K mg base (13 + m) "_law_split_over" 5 G__law_split_over) (C__law_for : Callee Pg w K mg base (13 + m) "_law_for" 5 G__law_for) (C__law_wrapped : Callee Pg w K mg base (13 + m) "_law_wrapped" 5 G__law_wrapped) (hr : Room (13 + m) (A.deeper (envOfC "_law_wrapped" (defScope s__law_wrapped) s.heap.objs.size f cdv))) : DCs (cxOf CX0 Pg w K mg base ["_law_pen", "_law_told", "_law_name", "_law_known", "_law_deep", "_law_way", "_law_other", "_law_inner", "_law_bound", "_law_first", "_law_made", "_law_at", "_law_cases", "_law_word"] "_law_wrapped" (defScope s__law_wrapped) f cdv A outer s H E).nox (defBody s__law_wrapped) (b__law_wrapped G__law_split_over G__law_for G__law_wrapped) :=
  dcs_cons (dc_set (i := 5) sc__law_wrapped.nd rfl (Or.inl rfl) (de_call C__law_next (hr.mono (by omega)) rfl (da_cons (dv 0) (da_cons (de_int) (da_nil))) (aCons_len (aCons_len (fun _ _ _ _ => aNil_len)))))
  (dcs_cons (dc_if (dt_w (dw_or (dt_c (c_eq (u64 hr)) (dv 4) (de_int) rfl) (dw_or1 (dt_c c_gt (dv 5) (de_int) rfl))))
  (dcs_one (dc_ret (de_call C__law_for hr rfl (da_cons (dv 0) (da_cons (dv 1) (da_cons (dv 2) (da_cons (dv 3) (da_cons (dv 4) (da_nil)))))) (aCons_len (aCons_len (aCons_len (aCons_len (aCons_len (fun _ _ _ _ => aNil_len)))))))))
  (dcs_nil))
  (dcs_cons (dc_if (dt_c (c_eq (u64 hr)) (dv 5) (de_int) rfl)
  (dcs_one (dc_ret (de_tup (da_cons (de_str) (da_cons (de_call C__law_for hr rfl (da_cons (dv 0) (da_cons (dv 1) (da_cons (dv 2) (da_cons (dv 3) (da_cons (dv 4) (da_nil)))))) (aCons_len (aCons_len (aCons_len (aCons_len (aCons_len (fun _ _ _ _ => aNil_len))))))) (da_cons (dv 2) (da_nil)))))))
  (dcs_nil))
  (dcs_cons (dc_if (dt_c (c_eq (u64 hr)) (dv 5) (de_int) rfl)
  (dcs_cons (dc_set (i := 10) sc__law_wrapped.nd rfl (Or.inl rfl) (de_call C__law_for hr rfl (da_cons (dv 0) (da_cons (dv 1) (da_cons (dv 2) (da_cons (dv 3) (da_cons (dv 4) (da_nil)))))) (aCons_len (aCons_len (aCons_len (aCons_len (aCons_len (fun _ _ _ _ => aNil_len))))))))
  (dcs_one (dc_ret (de_tup (da_cons (de_str) (da_cons (de_tup (da_cons (de_str) (da_cons (de_tupF (da_cons (de_tup (da_cons (de_str) (da_cons (dv 10) (da_nil)))) (da_cons (de_tup (da_cons (de_str) (da_cons (de_tup (da_cons (de_str) (da_cons (de_tupF (da_nil)) (da_nil)))) (da_nil)))) (da_nil)))) (da_nil)))) (da_cons (de_str) (da_nil))))))))
  (dcs_nil))
  (dcs_cons (dc_if (dt_c (c_eq (u64 hr)) (dv 5) (de_int) rfl)
  (dcs_one (dc_ret (de_call C__law_split_over hr rfl (da_cons (dv 0) (da_cons (dv 1) (da_cons (dv 2) (da_cons (dv 3) (da_cons (dv 4) (da_nil)))))) (aCons_len (aCons_len (aCons_len (aCons_len (aCons_len (fun _ _ _ _ => aNil_len)))))))))
  (dcs_nil))
  (dcs_cons (dc_set (i := 6) sc__law_wrapped.nd rfl (Or.inl rfl) (de_call C__law_any (hr.mono (by omega)) rfl (da_cons (dv 0) (da_cons (dv 1) (da_nil))) (aCons_len (aCons_len (fun _ _ _ _ => aNil_len)))))
  (dcs_cons (dc_set (i := 7) sc__law_wrapped.nd rfl (Or.inl rfl) (de_t (f_dictH rfl) rfl z_dict (by decide +kernel) (da_cons (dv 3) (da_nil))))
  (dcs_cons (dc_set (i := 8) sc__law_wrapped.nd rfl (Or.inr rfl) (de_call C__law_name_bound (hr.mono (by omega)) rfl (da_cons (dv 0) (da_nil)) (aCons_len (fun _ _ _ _ => aNil_len))))
  (dcs_cons (dc_asg (de_call C__law_row_here (hr.mono (by omega)) rfl (da_cons (dv 1) (da_cons (dv 6) (da_nil))) (aCons_len (aCons_len (fun _ _ _ _ => aNil_len)))) (dg_item (u1 hr) (dv 7) (dv 8)))
  (dcs_cons (dc_set (i := 9) sc__law_wrapped.nd rfl (Or.inl rfl) (de_call C__law_for hr rfl (da_cons (dv 0) (da_cons (dv 1) (da_cons (dv 6) (da_cons (dv 3) (da_cons (de_sub (dv 4) (de_int)) (da_nil)))))) (aCons_len (aCons_len (aCons_len (aCons_len (aCons_len (fun _ _ _ _ => aNil_len))))))))
  (dcs_cons (dc_set (i := 10) sc__law_wrapped.nd rfl (Or.inl rfl) (de_call C__law_for hr rfl (da_cons (dv 0) (da_cons (dv 1) (da_cons (dv 2) (da_cons (dv 7) (da_cons (de_sub (dv 4) (de_int)) (da_nil)))))) (aCons_len (aCons_len (aCons_len (aCons_len (aCons_len (fun _ _ _ _ => aNil_len))))))))
  (dcs_cons (dc_if (dt_c (c_eq (u64 hr)) (dv 5) (de_int) rfl)
  (dcs_one (dc_ret (de_tup (da_cons (de_str) (da_cons (de_tup (da_cons (de_str) (da_cons (dv 8) (da_cons (dv 6) (da_cons (dv 10) (da_nil)))))) (da_cons (dv 9) (da_nil)))))))
  (dcs_nil))
  (dcs_cons (dc_set (i := 11) sc__law_wrapped.nd rfl (Or.inl rfl) (de_call C__law_next (hr.mono (by omega)) rfl (da_cons (dv 0) (da_cons (de_int) (da_nil))) (aCons_len (aCons_len (fun _ _ _ _ => aNil_len)))))
  (dcs_cons (dc_setCompH (i := 12) (own := [("_law_word", 13)]) (compG_name (by decide)) rfl sc__law_wrapped.nd rfl rfl (sw_true rfl rfl rfl (by decide +kernel)) (di_it (de_lst (da_cons (de_str) (da_cons (de_str) (da_cons (de_str) (da_nil)))))) (blkOk_by (own := [("_law_word", 13)]) (N := ["_law_pen", "_law_told", "_law_name", "_law_known", "_law_deep", "_law_way", "_law_other", "_law_inner", "_law_bound", "_law_first", "_law_made", "_law_at", "_law_cases", "_law_word"]) (sc := defScope s__law_wrapped) (by decide +kernel)) (fun _ _ _ _ _ => pg_name (i := 13) sc__law_wrapped.nd rfl (by first | exact Or.inl rfl | exact Or.inr rfl)) (fun _ _ _ _ _ => dts_nil) (fun _ _ _ _ _ => de_tup (da_cons (dv 13) (da_cons (dv 8) (da_cons (de_tup (da_cons (de_str) (da_cons (de_tup (da_cons (de_str) (da_cons (de_tupF (da_nil)) (da_nil)))) (da_cons (de_str) (da_nil))))) (da_nil))))))
  (dcs_cons (dc_asg (de_tup (da_cons (de_item (u1 hr) (de_item (u1 hr) (dv 12) (dv 11) (fun _ _ => rfl)) (de_int) (fun _ _ => rfl)) (da_cons (dv 8) (da_cons (dv 10) (da_nil))))) (dg_item (u1 hr) (dv 12) (dv 11)))
  (dcs_one (dc_ret (de_tup (da_cons (de_str) (da_cons (de_tup (da_cons (de_str) (da_cons (de_item (u1 hr) (de_item (u1 hr) (dv 12) (dv 11) (fun _ _ => rfl)) (de_int) (fun _ _ => rfl)) (da_cons (dv 9) (da_nil))))) (da_cons (de_t f_tuple rfl z_tuple (by decide +kernel) (da_cons (dv 12) (da_nil))) (da_nil)))))))))))))))))))))
noncomputable def rr__law_split_over : Nat → Nat → GN
  | 0, _ => gNone
  | m + 1, 0 => gFn 15 false (b__law_split_over (rr__law_split_over m 0) (rr__law_split_over m 1) (rr__law_split_over m 2))
  | m + 1, 1 => gFn 14 false (b__law_for (rr__law_split_over m 0) (rr__law_split_over m 1) (rr__law_split_over m 2))
  | m + 1, 2 => gFn 14 false (b__law_wrapped (rr__law_split_over m 0) (rr__law_split_over m 1) (rr__law_split_over m 2))
  | m + 1, _ => gNone
noncomputable abbrev r__law_split_over (m : Nat) : GN := rr__law_split_over m 0
noncomputable abbrev g__law_split_over : GN := r__law_split_over 20
noncomputable abbrev r__law_for (m : Nat) : GN := rr__law_split_over m 1
noncomputable abbrev g__law_for : GN := r__law_for 20
noncomputable abbrev r__law_wrapped (m : Nat) : GN := rr__law_split_over m 2
noncomputable abbrev g__law_wrapped : GN := r__law_wrapped 20
theorem rec__law_split_over {f0 : Addr} {fd0 : FuncData} (F0 : Fun K "_law_split_over" "_law_split_over" s__law_split_over f0 fd0) (hm0 : mg "_law_split_over" = some (.ref f0)) {f1 : Addr} {fd1 : FuncData} (F1 : Fun K "_law_for" "_law_for" s__law_for f1 fd1) (hm1 : mg "_law_for" = some (.ref f1)) {f2 : Addr} {fd2 : FuncData} (F2 : Fun K "_law_wrapped" "_law_wrapped" s__law_wrapped f2 fd2) (hm2 : mg "_law_wrapped" = some (.ref f2)) (C__law_next : Callee Pg w K mg base 2 "_law_next" 2 g__law_next) (C__law_name_bound : Callee Pg w K mg base 10 "_law_name_bound" 1 g__law_name_bound) (C__law_row_here : Callee Pg w K mg base 11 "_law_row_here" 2 g__law_row_here) (C__law_head_here : Callee Pg w K mg base 12 "_law_head_here" 2 g__law_head_here) (C__law_endless : Callee Pg w K mg base 8 "_law_endless" 0 g__law_endless) (C__law_any : Callee Pg w K mg base 9 "_law_any" 2 g__law_any) (z_len : mg "len" = none) (z_dict : mg "dict" = none) (z_tuple : mg "tuple" = none) (z_sorted : mg "sorted" = none) : ∀ m : Nat, Callee Pg w K mg base (13 + m) "_law_split_over" 5 (r__law_split_over m) ∧ Callee Pg w K mg base (13 + m) "_law_for" 5 (r__law_for m) ∧ Callee Pg w K mg base (13 + m) "_law_wrapped" 5 (r__law_wrapped m)
  | 0 => ⟨callee_none (k := 12) F0 sc__law_split_over rfl hm0 (F0.binds fun _ _ _ _ _ _ us hl => match us, hl with | [_, _, _, _, _], _ => rfl), callee_none (k := 12) F1 sc__law_for rfl hm1 (F1.binds fun _ _ _ _ _ _ us hl => match us, hl with | [_, _, _, _, _], _ => rfl), callee_none (k := 12) F2 sc__law_wrapped rfl hm2 (F2.binds fun _ _ _ _ _ _ us hl => match us, hl with | [_, _, _, _, _], _ => rfl)⟩
  | m + 1 => have ih := rec__law_split_over F0 hm0 F1 hm1 F2 hm2 C__law_next C__law_name_bound C__law_row_here C__law_head_here C__law_endless C__law_any z_len z_dict z_tuple z_sorted m; ⟨callee_of (k := 13 + m) F0 sc__law_split_over rfl hm0 (F0.binds fun _ _ _ _ _ _ us hl => match us, hl with | [_, _, _, _, _], _ => rfl) fun cdv A outer s H E hr => body__law_split_over C__law_next C__law_name_bound C__law_row_here z_len z_dict z_tuple ih.1 ih.2.1 ih.2.2 hr, callee_of (k := 13 + m) F1 sc__law_for rfl hm1 (F1.binds fun _ _ _ _ _ _ us hl => match us, hl with | [_, _, _, _, _], _ => rfl) fun cdv A outer s H E hr => body__law_for C__law_head_here C__law_row_here C__law_next C__law_endless C__law_any C__law_name_bound z_sorted z_len z_dict z_tuple ih.1 ih.2.1 ih.2.2 hr, callee_of (k := 13 + m) F2 sc__law_wrapped rfl hm2 (F2.binds fun _ _ _ _ _ _ us hl => match us, hl with | [_, _, _, _, _], _ => rfl) fun cdv A outer s H E hr => body__law_wrapped C__law_next C__law_any C__law_name_bound C__law_row_here z_dict z_tuple ih.1 ih.2.1 ih.2.2 hr⟩
theorem ok__law_split_over {f0 : Addr} {fd0 : FuncData} (F0 : Fun K "_law_split_over" "_law_split_over" s__law_split_over f0 fd0) (hm0 : mg "_law_split_over" = some (.ref f0)) {f1 : Addr} {fd1 : FuncData} (F1 : Fun K "_law_for" "_law_for" s__law_for f1 fd1) (hm1 : mg "_law_for" = some (.ref f1)) {f2 : Addr} {fd2 : FuncData} (F2 : Fun K "_law_wrapped" "_law_wrapped" s__law_wrapped f2 fd2) (hm2 : mg "_law_wrapped" = some (.ref f2)) (C__law_next : Callee Pg w K mg base 2 "_law_next" 2 g__law_next) (C__law_name_bound : Callee Pg w K mg base 10 "_law_name_bound" 1 g__law_name_bound) (C__law_row_here : Callee Pg w K mg base 11 "_law_row_here" 2 g__law_row_here) (C__law_head_here : Callee Pg w K mg base 12 "_law_head_here" 2 g__law_head_here) (C__law_endless : Callee Pg w K mg base 8 "_law_endless" 0 g__law_endless) (C__law_any : Callee Pg w K mg base 9 "_law_any" 2 g__law_any) (z_len : mg "len" = none) (z_dict : mg "dict" = none) (z_tuple : mg "tuple" = none) (z_sorted : mg "sorted" = none) : Callee Pg w K mg base 33 "_law_split_over" 5 g__law_split_over := (rec__law_split_over F0 hm0 F1 hm1 F2 hm2 C__law_next C__law_name_bound C__law_row_here C__law_head_here C__law_endless C__law_any z_len z_dict z_tuple z_sorted 20).1
theorem ok__law_for {f0 : Addr} {fd0 : FuncData} (F0 : Fun K "_law_split_over" "_law_split_over" s__law_split_over f0 fd0) (hm0 : mg "_law_split_over" = some (.ref f0)) {f1 : Addr} {fd1 : FuncData} (F1 : Fun K "_law_for" "_law_for" s__law_for f1 fd1) (hm1 : mg "_law_for" = some (.ref f1)) {f2 : Addr} {fd2 : FuncData} (F2 : Fun K "_law_wrapped" "_law_wrapped" s__law_wrapped f2 fd2) (hm2 : mg "_law_wrapped" = some (.ref f2)) (C__law_next : Callee Pg w K mg base 2 "_law_next" 2 g__law_next) (C__law_name_bound : Callee Pg w K mg base 10 "_law_name_bound" 1 g__law_name_bound) (C__law_row_here : Callee Pg w K mg base 11 "_law_row_here" 2 g__law_row_here) (C__law_head_here : Callee Pg w K mg base 12 "_law_head_here" 2 g__law_head_here) (C__law_endless : Callee Pg w K mg base 8 "_law_endless" 0 g__law_endless) (C__law_any : Callee Pg w K mg base 9 "_law_any" 2 g__law_any) (z_len : mg "len" = none) (z_dict : mg "dict" = none) (z_tuple : mg "tuple" = none) (z_sorted : mg "sorted" = none) : Callee Pg w K mg base 33 "_law_for" 5 g__law_for := (rec__law_split_over F0 hm0 F1 hm1 F2 hm2 C__law_next C__law_name_bound C__law_row_here C__law_head_here C__law_endless C__law_any z_len z_dict z_tuple z_sorted 20).2.1
theorem ok__law_wrapped {f0 : Addr} {fd0 : FuncData} (F0 : Fun K "_law_split_over" "_law_split_over" s__law_split_over f0 fd0) (hm0 : mg "_law_split_over" = some (.ref f0)) {f1 : Addr} {fd1 : FuncData} (F1 : Fun K "_law_for" "_law_for" s__law_for f1 fd1) (hm1 : mg "_law_for" = some (.ref f1)) {f2 : Addr} {fd2 : FuncData} (F2 : Fun K "_law_wrapped" "_law_wrapped" s__law_wrapped f2 fd2) (hm2 : mg "_law_wrapped" = some (.ref f2)) (C__law_next : Callee Pg w K mg base 2 "_law_next" 2 g__law_next) (C__law_name_bound : Callee Pg w K mg base 10 "_law_name_bound" 1 g__law_name_bound) (C__law_row_here : Callee Pg w K mg base 11 "_law_row_here" 2 g__law_row_here) (C__law_head_here : Callee Pg w K mg base 12 "_law_head_here" 2 g__law_head_here) (C__law_endless : Callee Pg w K mg base 8 "_law_endless" 0 g__law_endless) (C__law_any : Callee Pg w K mg base 9 "_law_any" 2 g__law_any) (z_len : mg "len" = none) (z_dict : mg "dict" = none) (z_tuple : mg "tuple" = none) (z_sorted : mg "sorted" = none) : Callee Pg w K mg base 33 "_law_wrapped" 5 g__law_wrapped := (rec__law_split_over F0 hm0 F1 hm1 F2 hm2 C__law_next C__law_name_bound C__law_row_here C__law_head_here C__law_endless C__law_any z_len z_dict z_tuple z_sorted 20).2.2
abbrev s__law_parts : Stmt := topS 21
theorem sc__law_parts : FnScope ["_law_maker", "_law_word", "_law_one"] ["_law_maker"] (defScope s__law_parts) := ⟨rfl, rfl, rfl, by decide +kernel, rfl, by decide +kernel, by decide +kernel⟩
noncomputable abbrev e__law_parts_1 : FE :=
  (fBin gIx (fVar 2) (fC (.int 1)))
noncomputable abbrev e__law_parts_2 : FE :=
  (fBin gIx (fVar 2) (fC (.int 2)))
noncomputable def b__law_parts : FS :=
  (sSeq (sAsg (fBin gIx (fVar 0) (fC (.int 0))) (gN 1))
  (sSeq (sIf (fTest (fBin gIn (fVar 1) (fTup (aCons (fC (.str ("fn" : Str))) (aCons (fC (.str ("pick" : Str))) aNil)))))
  (sRet (fLst (aCons (fBin gIx (fVar 0) (fNeg (fC (.int 1)))) aNil)))
  sNil)
  (sSeq (sIf (fTest (fBin gEq (fVar 1) (fC (.str ("call" : Str)))))
  (sRet (fLst (aCons (fBin gIx (fVar 0) (fC (.int 1))) (aCons (fBin gIx (fVar 0) (fC (.int 2))) aNil))))
  sNil)
  (sSeq (sIf (fTest (fBin gIn (fVar 1) (fTup (aCons (fC (.str ("part" : Str))) (aCons (fC (.str ("hold" : Str))) aNil)))))
  (sRet (fLst (aCons (fBin gIx (fVar 0) (fC (.int 1))) aNil)))
  sNil)
  (sSeq (sIf (fTest (fBin gEq (fVar 1) (fC (.str ("box" : Str)))))
  (sRet (fComp (fIt (fBin gIx (fVar 0) (fC (.int 1)))) (gN 2) fYes e__law_parts_1 [2]))
  sNil)
  (sSeq (sIf (fTest (fBin gEq (fVar 1) (fC (.str ("split" : Str)))))
  (sRet (fBin gAdd (fLst (aCons (fBin gIx (fVar 0) (fC (.int 1))) aNil)) (fComp (fIt (fBin gIx (fVar 0) (fC (.int 2)))) (gN 2) fYes e__law_parts_2 [2])))
  sNil)
  (sRet (fLst aNil))))))))
noncomputable def g__law_parts : GN := gFn 3 false b__law_parts
theorem ok__law_parts {f : Addr} {fd : FuncData} (F : Fun K "_law_parts" "_law_parts" s__law_parts f fd) (hm : mg "_law_parts" = some (.ref f)) : Callee Pg w K mg base 34 "_law_parts" 1 g__law_parts :=
  callee_of F sc__law_parts rfl hm (F.binds fun _ _ _ _ _ _ us hl => match us, hl with | [_], _ => rfl) fun cdv A outer s H E hr =>
  dcs_cons (dc_set (i := 1) sc__law_parts.nd rfl (Or.inl rfl) (de_item (u1 hr) (dv 0) (de_int) (fun _ _ => rfl)))
  (dcs_cons (dc_if (dt_c (c_in (u65 hr)) (dv 1) (de_tup (da_cons (de_str) (da_cons (de_str) (da_nil)))) rfl)
  (dcs_one (dc_ret (de_lst (da_cons (de_item (u1 hr) (dv 0) (de_neg (de_int)) (fun _ _ => rfl)) (da_nil)))))
  (dcs_nil))
  (dcs_cons (dc_if (dt_c (c_eq (u64 hr)) (dv 1) (de_str) rfl)
  (dcs_one (dc_ret (de_lst (da_cons (de_item (u1 hr) (dv 0) (de_int) (fun _ _ => rfl)) (da_cons (de_item (u1 hr) (dv 0) (de_int) (fun _ _ => rfl)) (da_nil))))))
  (dcs_nil))
  (dcs_cons (dc_if (dt_c (c_in (u65 hr)) (dv 1) (de_tup (da_cons (de_str) (da_cons (de_str) (da_nil)))) rfl)
  (dcs_one (dc_ret (de_lst (da_cons (de_item (u1 hr) (dv 0) (de_int) (fun _ _ => rfl)) (da_nil)))))
  (dcs_nil))
  (dcs_cons (dc_if (dt_c (c_eq (u64 hr)) (dv 1) (de_str) rfl)
  (dcs_one (dc_ret (de_comp (own := [("_law_one", 2)]) (compG_name (by decide)) rfl sc__law_parts.nd (di_it (de_item (u1 hr) (dv 0) (de_int) (fun _ _ => rfl))) (blkOk_by (own := [("_law_one", 2)]) (N := ["_law_maker", "_law_word", "_law_one"]) (sc := defScope s__law_parts) (by decide +kernel)) (fun _ _ _ _ _ => pg_name (i := 2) sc__law_parts.nd rfl (by first | exact Or.inl rfl | exact Or.inr rfl)) (fun _ _ _ _ _ => dts_nil) (fun _ _ _ _ _ => de_item (u1 hr) (dv 2) (de_int) (fun _ _ => rfl)))))
  (dcs_nil))
  (dcs_cons (dc_if (dt_c (c_eq (u64 hr)) (dv 1) (de_str) rfl)
  (dcs_one (dc_ret (de_add (de_lst (da_cons (de_item (u1 hr) (dv 0) (de_int) (fun _ _ => rfl)) (da_nil))) (de_comp (own := [("_law_one", 2)]) (compG_name (by decide)) rfl sc__law_parts.nd (di_it (de_item (u1 hr) (dv 0) (de_int) (fun _ _ => rfl))) (blkOk_by (own := [("_law_one", 2)]) (N := ["_law_maker", "_law_word", "_law_one"]) (sc := defScope s__law_parts) (by decide +kernel)) (fun _ _ _ _ _ => pg_name (i := 2) sc__law_parts.nd rfl (by first | exact Or.inl rfl | exact Or.inr rfl)) (fun _ _ _ _ _ => dts_nil) (fun _ _ _ _ _ => de_item (u1 hr) (dv 2) (de_int) (fun _ _ => rfl))))))
  (dcs_nil))
  (dcs_one (dc_ret (de_lst (da_nil)))))))))
abbrev s__law_many : Stmt := topS 20
theorem sc__law_many : FnScope ["_law_maker", "_law_one"] ["_law_maker"] (defScope s__law_many) := ⟨rfl, rfl, rfl, by decide +kernel, rfl, by decide +kernel, by decide +kernel⟩
noncomputable abbrev e__law_many_1 (G : GN) : FE :=
  (fCall G (aCons (fVar 1) aNil))
noncomputable def b__law_many (G : GN) : FS :=
  (sRet (fBin gAdd (fC (.int 1)) (fCall gSum (aCons (fComp (fIt (fCall g__law_parts (aCons (fVar 0) aNil))) (gN 1) fYes (e__law_many_1 G) [1]) aNil))))
noncomputable def r__law_many : Nat → GN
  | 0 => gNone
  | m + 1 => gFn 2 false (b__law_many (r__law_many m))
noncomputable abbrev g__law_many : GN := r__law_many 20
theorem body__law_many {G : GN} {f : Addr} {cdv : Value} {A : Around} {outer : List Env} {s : Shared} {H : Hp} {E : XK} {m : Nat} (C__law_parts : Callee Pg w K mg base 34 "_law_parts" 1 g__law_parts) (z_sum : mg "sum" = none) (C__law_many : Callee Pg w K mg base (35 + m) "_law_many" 1 G) (hr : Room (35 + m) (A.deeper (envOfC "_law_many" (defScope s__law_many) s.heap.objs.size f cdv))) : DCs (cxOf CX0 Pg w K mg base ["_law_maker", "_law_one"] "_law_many" (defScope s__law_many) f cdv A outer s H E).nox (defBody s__law_many) (b__law_many G) :=
  dcs_one (dc_ret (de_add (de_int) (de_b (f_sum rfl) rfl z_sum (by decide +kernel) (da_cons (de_comp (own := [("_law_one", 1)]) (compG_name (by decide)) rfl sc__law_many.nd (di_it (de_call C__law_parts (hr.mono (by omega)) rfl (da_cons (dv 0) (da_nil)) (aCons_len (fun _ _ _ _ => aNil_len)))) (blkOk_by (own := [("_law_one", 1)]) (N := ["_law_maker", "_law_one"]) (sc := defScope s__law_many) (by decide +kernel)) (fun _ _ _ _ _ => pg_name (i := 1) sc__law_many.nd rfl (by first | exact Or.inl rfl | exact Or.inr rfl)) (fun _ _ _ _ _ => dts_nil) (fun _ _ _ _ _ => de_call C__law_many hr rfl (da_cons (dv 1) (da_nil)) (aCons_len (fun _ _ _ _ => aNil_len)))) (da_nil)))))
theorem rec__law_many {f : Addr} {fd : FuncData} (F : Fun K "_law_many" "_law_many" s__law_many f fd) (hm : mg "_law_many" = some (.ref f)) (C__law_parts : Callee Pg w K mg base 34 "_law_parts" 1 g__law_parts) (z_sum : mg "sum" = none) : ∀ m : Nat, Callee Pg w K mg base (35 + m) "_law_many" 1 (r__law_many m)
  | 0 => callee_none (k := 34) F sc__law_many rfl hm (F.binds fun _ _ _ _ _ _ us hl => match us, hl with | [_], _ => rfl)
  | m + 1 => callee_of (k := 35 + m) F sc__law_many rfl hm (F.binds fun _ _ _ _ _ _ us hl => match us, hl with | [_], _ => rfl) fun cdv A outer s H E hr => body__law_many C__law_parts z_sum (rec__law_many F hm C__law_parts z_sum m) hr
theorem ok__law_many {f : Addr} {fd : FuncData} (F : Fun K "_law_many" "_law_many" s__law_many f fd) (hm : mg "_law_many" = some (.ref f)) (C__law_parts : Callee Pg w K mg base 34 "_law_parts" 1 g__law_parts) (z_sum : mg "sum" = none) : Callee Pg w K mg base 55 "_law_many" 1 g__law_many := rec__law_many F hm C__law_parts z_sum 20
abbrev s__law_small_maker : Stmt := topS 22
theorem sc__law_small_maker : FnScope ["_law_pen", "_law_told", "_law_name", "_law_deep", "_law_found"] ["_law_pen", "_law_told", "_law_name"] (defScope s__law_small_maker) := ⟨rfl, rfl, rfl, by decide +kernel, rfl, by decide +kernel, by decide +kernel⟩
noncomputable abbrev l__law_small_maker_1 : FS :=
  (sSeq (sAsg (fCall g__law_wrapped (aCons (fVar 0) (aCons (fVar 1) (aCons (fVar 2) (aCons (fC (.dK [])) (aCons (fVar 3) aNil)))))) (gN 4))
  (sIf (fTest (fBin gLe (fCall g__law_many (aCons (fVar 4) aNil)) (fC (.int 30))))
  (sRet (fVar 4))
  sNil))
noncomputable def b__law_small_maker : FS :=
  (sSeq (sFor (fIt (fLst (aCons (fC (.int 3)) (aCons (fC (.int 2)) (aCons (fC (.int 1)) aNil))))) (gN 3)
  l__law_small_maker_1)
  (sRet (fCall g__law_endless aNil)))
noncomputable def g__law_small_maker : GN := gFn 5 false b__law_small_maker
theorem ok__law_small_maker {f : Addr} {fd : FuncData} (F : Fun K "_law_small_maker" "_law_small_maker" s__law_small_maker f fd) (hm : mg "_law_small_maker" = some (.ref f)) (C__law_wrapped : Callee Pg w K mg base 33 "_law_wrapped" 5 g__law_wrapped) (C__law_many : Callee Pg w K mg base 55 "_law_many" 1 g__law_many) (C__law_endless : Callee Pg w K mg base 8 "_law_endless" 0 g__law_endless) : Callee Pg w K mg base 56 "_law_small_maker" 3 g__law_small_maker :=
  callee_of F sc__law_small_maker rfl hm (F.binds fun _ _ _ _ _ _ us hl => match us, hl with | [_, _, _], _ => rfl) fun cdv A outer s H E hr =>
  dcs_cons (dc_for PassesOwn.never rfl (di_it (de_lst (da_cons (de_int) (da_cons (de_int) (da_cons (de_int) (da_nil)))))) (dg_name (i := 3) sc__law_small_maker.nd rfl (Or.inl rfl))
  (dcs_cons (dc_set (i := 4) sc__law_small_maker.nd rfl (Or.inl rfl) (de_call (C__law_wrapped.mono (by decide)) (hr.mono (by decide : 55 ≤ 55)) rfl (da_cons (dv 0) (da_cons (dv 1) (da_cons (dv 2) (da_cons (de_empty) (da_cons (dv 3) (da_nil)))))) (aCons_len (aCons_len (aCons_len (aCons_len (aCons_len (fun _ _ _ _ => aNil_len))))))))
  (dcs_one (dc_if (dt_c c_le (de_call (C__law_many.mono (by decide)) (hr.mono (by decide : 55 ≤ 55)) rfl (da_cons (dv 4) (da_nil)) (aCons_len (fun _ _ _ _ => aNil_len))) (de_int) rfl)
  (dcs_one (dc_ret (dv 4)))
  (dcs_nil)))))
  (dcs_one (dc_ret (de_call0 (C__law_endless.mono (by decide)) (hr.mono (by decide : 55 ≤ 55)) rfl)))
abbrev s__law_places : Stmt := topS 23
theorem sc__law_places : FnScope ["_law_maker", "_law_place", "_law_found", "_law_at", "_law_one"] ["_law_maker", "_law_place"] (defScope s__law_places) := ⟨rfl, rfl, rfl, by decide +kernel, rfl, by decide +kernel, by decide +kernel⟩
noncomputable abbrev l__law_places_1 (G : GN) : FS :=
  (sSeq (sExpr (fMeth "list" gExtend (fVar 2) (aCons (fCall G (aCons (fVar 4) (aCons (fBin gAdd (fVar 1) (fTup (aCons (fVar 3) aNil))) aNil))) aNil)))
  (sAsg (fBin gAdd (fVar 3) (fC (.int 1))) (gN 3)))
noncomputable def b__law_places (G : GN) : FS :=
  (sSeq (sAsg (fLstH (aCons (fTup (aCons (fVar 1) (aCons (fVar 0) aNil))) aNil)) (gN 2))
  (sSeq (sAsg (fC (.int 0)) (gN 3))
  (sSeq (sFor (fIt (fCall g__law_parts (aCons (fVar 0) aNil))) (gN 4)
  (l__law_places_1 G))
  (sRet (fVar 2)))))
noncomputable def r__law_places : Nat → GN
  | 0 => gNone
  | m + 1 => gFn 5 false (b__law_places (r__law_places m))
noncomputable abbrev g__law_places : GN := r__law_places 20
theorem body__law_places {G : GN} {f : Addr} {cdv : Value} {A : Around} {outer : List Env} {s : Shared} {H : Hp} {E : XK} {m : Nat} (C__law_parts : Callee Pg w K mg base 34 "_law_parts" 1 g__law_parts) (C__law_places : Callee Pg w K mg base (57 + m) "_law_places" 2 G) (hr : Room (57 + m) (A.deeper (envOfC "_law_places" (defScope s__law_places) s.heap.objs.size f cdv))) : DCs (cxOf CX0 Pg w K mg base ["_law_maker", "_law_place", "_law_found", "_law_at", "_law_one"] "_law_places" (defScope s__law_places) f cdv A outer s H E).nox (defBody s__law_places) (b__law_places G) :=
  dcs_cons (dc_set (i := 2) sc__law_places.nd rfl (Or.inl rfl) (de_lstH (da_cons (de_tup (da_cons (dv 1) (da_cons (dv 0) (da_nil)))) (da_nil))))
  (dcs_cons (dc_set (i := 3) sc__law_places.nd rfl (Or.inl rfl) (de_int))
  (dcs_cons (dc_for PassesOwn.never rfl (di_it (de_call C__law_parts (hr.mono (by omega)) rfl (da_cons (dv 0) (da_nil)) (aCons_len (fun _ _ _ _ => aNil_len)))) (dg_name (i := 4) sc__law_places.nd rfl (Or.inl rfl))
  (dcs_cons (dc_expr (de_m PySem.F.plainAttrs_list PySem.F.slot_list_extend PySem.F.type_list_extend m_extend (dv 2) (da_cons (de_call C__law_places hr rfl (da_cons (dv 4) (da_cons (de_add (dv 1) (de_tup (da_cons (dv 3) (da_nil)))) (da_nil))) (aCons_len (aCons_len (fun _ _ _ _ => aNil_len)))) (da_nil))))
  (dcs_one (dc_set (i := 3) sc__law_places.nd rfl (Or.inl rfl) (de_add (dv 3) (de_int))))))
  (dcs_one (dc_ret (dv 2)))))
theorem rec__law_places {f : Addr} {fd : FuncData} (F : Fun K "_law_places" "_law_places" s__law_places f fd) (hm : mg "_law_places" = some (.ref f)) (C__law_parts : Callee Pg w K mg base 34 "_law_parts" 1 g__law_parts) : ∀ m : Nat, Callee Pg w K mg base (57 + m) "_law_places" 2 (r__law_places m)
  | 0 => callee_none (k := 56) F sc__law_places rfl hm (F.binds fun _ _ _ _ _ _ us hl => match us, hl with | [_, _], _ => rfl)
  | m + 1 => callee_of (k := 57 + m) F sc__law_places rfl hm (F.binds fun _ _ _ _ _ _ us hl => match us, hl with | [_, _], _ => rfl) fun cdv A outer s H E hr => body__law_places C__law_parts  (rec__law_places F hm C__law_parts  m) hr
theorem ok__law_places {f : Addr} {fd : FuncData} (F : Fun K "_law_places" "_law_places" s__law_places f fd) (hm : mg "_law_places" = some (.ref f)) (C__law_parts : Callee Pg w K mg base 34 "_law_parts" 1 g__law_parts) : Callee Pg w K mg base 77 "_law_places" 2 g__law_places := rec__law_places F hm C__law_parts  20
abbrev s_within_of : Stmt := topS 1
theorem sc_within_of : FnScope ["maker", "word", "w", "m", "v"] ["maker"] (defScope s_within_of) := ⟨rfl, rfl, rfl, by decide +kernel, rfl, by decide +kernel, by decide +kernel⟩
noncomputable def b_within_of : FS :=
  (sSeq (sAsg (fBin gIx (fVar 0) (fC (.int 0))) (gN 1))
  (sSeq (sIf (fTest (fBin gEq (fVar 1) (fC (.str ("get" : Str)))))
  (sRet (fLst aNil))
  sNil)
  (sSeq (sIf (fTest (fBin gEq (fVar 1) (fC (.str ("fn" : Str)))))
  (sRet (fLst (aCons (fBin gIx (fVar 0) (fC (.int 3))) aNil)))
  sNil)
  (sSeq (sIf (fTest (fBin gEq (fVar 1) (fC (.str ("call" : Str)))))
  (sRet (fLst (aCons (fBin gIx (fVar 0) (fC (.int 1))) (aCons (fBin gIx (fVar 0) (fC (.int 2))) aNil))))
  sNil)
  (sSeq (sIf (fTest (fBin gEq (fVar 1) (fC (.str ("box" : Str)))))
  (sRet (fComp (fIt (fBin gIx (fVar 0) (fC (.int 1)))) (gTupN [2, 3]) fYes (fVar 3) [2, 3]))
  sNil)
  (sSeq (sIf (fTest (fBin gEq (fVar 1) (fC (.str ("pick" : Str)))))
  (sRet (fLst (aCons (fBin gIx (fVar 0) (fC (.int 2))) aNil)))
  sNil)
  (sSeq (sIf (fTest (fBin gEq (fVar 1) (fC (.str ("split" : Str)))))
  (sRet (fBin gAdd (fLst (aCons (fBin gIx (fVar 0) (fC (.int 1))) aNil)) (fComp (fIt (fBin gIx (fVar 0) (fC (.int 2)))) (gTupN [2, 4, 3]) fYes (fVar 3) [2, 4, 3])))
  sNil)
  (sRet (fLst (aCons (fBin gIx (fVar 0) (fC (.int 1))) aNil))))))))))
noncomputable def g_within_of : GN := gFn 5 false b_within_of
theorem ok_within_of {f : Addr} {fd : FuncData} (F : Fun K "within_of" "within_of" s_within_of f fd) (hm : mg "within_of" = some (.ref f)) : Callee Pg w K mg base 78 "within_of" 1 g_within_of :=
  callee_of F sc_within_of rfl hm (F.binds fun _ _ _ _ _ _ us hl => match us, hl with | [_], _ => rfl) fun cdv A outer s H E hr =>
  dcs_cons (dc_set (i := 1) sc_within_of.nd rfl (Or.inl rfl) (de_item (u1 hr) (dv 0) (de_int) (fun _ _ => rfl)))
  (dcs_cons (dc_if (dt_c (c_eq (u64 hr)) (dv 1) (de_str) rfl)
  (dcs_one (dc_ret (de_lst (da_nil))))
  (dcs_nil))
  (dcs_cons (dc_if (dt_c (c_eq (u64 hr)) (dv 1) (de_str) rfl)
  (dcs_one (dc_ret (de_lst (da_cons (de_item (u1 hr) (dv 0) (de_int) (fun _ _ => rfl)) (da_nil)))))
  (dcs_nil))
  (dcs_cons (dc_if (dt_c (c_eq (u64 hr)) (dv 1) (de_str) rfl)
  (dcs_one (dc_ret (de_lst (da_cons (de_item (u1 hr) (dv 0) (de_int) (fun _ _ => rfl)) (da_cons (de_item (u1 hr) (dv 0) (de_int) (fun _ _ => rfl)) (da_nil))))))
  (dcs_nil))
  (dcs_cons (dc_if (dt_c (c_eq (u64 hr)) (dv 1) (de_str) rfl)
  (dcs_one (dc_ret (de_comp (own := [("w", 2), ("m", 3)]) (compG_tup (is := [2, 3]) (n := 2) (.cons (i := 2) (.cons (i := 3) (.nil))) (by decide) rfl) rfl sc_within_of.nd (di_it (de_item (u1 hr) (dv 0) (de_int) (fun _ _ => rfl))) (blkOk_by (own := [("w", 2), ("m", 3)]) (N := ["maker", "word", "w", "m", "v"]) (sc := defScope s_within_of) (by decide +kernel)) (fun _ _ _ _ _ => pg_tup rfl (pgs_cons (pg_name (i := 2) sc_within_of.nd rfl (by first | exact Or.inl rfl | exact Or.inr rfl)) (pgs_cons (pg_name (i := 3) sc_within_of.nd rfl (by first | exact Or.inl rfl | exact Or.inr rfl)) (pgs_nil)))) (fun _ _ _ _ _ => dts_nil) (fun _ _ _ _ _ => dv 3))))
  (dcs_nil))
  (dcs_cons (dc_if (dt_c (c_eq (u64 hr)) (dv 1) (de_str) rfl)
  (dcs_one (dc_ret (de_lst (da_cons (de_item (u1 hr) (dv 0) (de_int) (fun _ _ => rfl)) (da_nil)))))
  (dcs_nil))
  (dcs_cons (dc_if (dt_c (c_eq (u64 hr)) (dv 1) (de_str) rfl)
  (dcs_one (dc_ret (de_add (de_lst (da_cons (de_item (u1 hr) (dv 0) (de_int) (fun _ _ => rfl)) (da_nil))) (de_comp (own := [("w", 2), ("v", 4), ("m", 3)]) (compG_tup (is := [2, 4, 3]) (n := 3) (.cons (i := 2) (.cons (i := 4) (.cons (i := 3) (.nil)))) (by decide) rfl) rfl sc_within_of.nd (di_it (de_item (u1 hr) (dv 0) (de_int) (fun _ _ => rfl))) (blkOk_by (own := [("w", 2), ("v", 4), ("m", 3)]) (N := ["maker", "word", "w", "m", "v"]) (sc := defScope s_within_of) (by decide +kernel)) (fun _ _ _ _ _ => pg_tup rfl (pgs_cons (pg_name (i := 2) sc_within_of.nd rfl (by first | exact Or.inl rfl | exact Or.inr rfl)) (pgs_cons (pg_name (i := 4) sc_within_of.nd rfl (by first | exact Or.inl rfl | exact Or.inr rfl)) (pgs_cons (pg_name (i := 3) sc_within_of.nd rfl (by first | exact Or.inl rfl | exact Or.inr rfl)) (pgs_nil))))) (fun _ _ _ _ _ => dts_nil) (fun _ _ _ _ _ => dv 3)))))
  (dcs_nil))
  (dcs_one (dc_ret (de_lst (da_cons (de_item (u1 hr) (dv 0) (de_int) (fun _ _ => rfl)) (da_nil)))))))))))
abbrev s_maker_at : Stmt := topS 2
theorem sc_maker_at : FnScope ["maker", "place", "number"] ["maker", "place"] (defScope s_maker_at) := ⟨rfl, rfl, rfl, by decide +kernel, rfl, by decide +kernel, by decide +kernel⟩
noncomputable abbrev l_maker_at_1 : FS :=
  (sAsg (fBin gIx (fCall g_within_of (aCons (fVar 0) aNil)) (fVar 2)) (gN 0))
noncomputable def b_maker_at : FS :=
  (sSeq (sFor (fIt (fVar 1)) (gN 2)
  l_maker_at_1)
  (sRet (fVar 0)))
noncomputable def g_maker_at : GN := gFn 3 false b_maker_at
theorem ok_maker_at {f : Addr} {fd : FuncData} (F : Fun K "maker_at" "maker_at" s_maker_at f fd) (hm : mg "maker_at" = some (.ref f)) (C_within_of : Callee Pg w K mg base 78 "within_of" 1 g_within_of) : Callee Pg w K mg base 79 "maker_at" 2 g_maker_at :=
  callee_of F sc_maker_at rfl hm (F.binds fun _ _ _ _ _ _ us hl => match us, hl with | [_, _], _ => rfl) fun cdv A outer s H E hr =>
  dcs_cons (dc_for PassesOwn.never rfl (di_it (dv 1)) (dg_name (i := 2) sc_maker_at.nd rfl (Or.inl rfl))
  (dcs_one (dc_set (i := 0) sc_maker_at.nd rfl (Or.inl rfl) (de_item (u1 hr) (de_call (C_within_of.mono (by decide)) (hr.mono (by decide : 78 ≤ 78)) rfl (da_cons (dv 0) (da_nil)) (aCons_len (fun _ _ _ _ => aNil_len))) (dv 2) (fun _ _ => rfl)))))
  (dcs_one (dc_ret (dv 0)))
abbrev s_law : Stmt := topS 24
theorem sc_law : FnScope ["script", "_law_pen", "_law_k", "_law_told", "_law_maker", "_law_place", "_law_due"] ["script"] (defScope s_law) := ⟨rfl, rfl, rfl, by decide +kernel, rfl, by decide +kernel, by decide +kernel⟩
noncomputable abbrev l_law_1 : FS :=
  (sIf (fTest (fBin gNe (fCall g_maker_at (aCons (fVar 4) (aCons (fVar 5) aNil))) (fVar 6)))
  (sRet (fC (.bl false)))
  sNil)
noncomputable abbrev l_law_2 : FS :=
  (sSeq (sAsg (fCall g__law_maker_telling (aCons (fVar 1) (aCons (fC (.int 5)) aNil))) (gN 3))
  (sSeq (sAsg (fCall g__law_small_maker (aCons (fVar 1) (aCons (fVar 3) (aCons (fCall g__law_any (aCons (fVar 1) (aCons (fVar 3) aNil))) aNil)))) (gN 4))
  (sFor (fIt (fCall g__law_places (aCons (fVar 4) (aCons (fTup aNil) aNil)))) (gTupN [5, 6])
  l_law_1)))
noncomputable def b_law : FS :=
  (sSeq (sAsg (fLstH (aCons (fVar 0) (aCons (fC (.int 0)) (aCons (fC (.int 0)) aNil)))) (gN 1))
  (sSeq (sFor (fRange (aCons (fC (.int 3)) aNil)) (gN 2)
  l_law_2)
  (sRet (fC (.bl true)))))
noncomputable def g_law : GN := gFn 7 false b_law
theorem ok_law {f : Addr} {fd : FuncData} (F : Fun K "law" "law" s_law f fd) (C__law_maker_telling : Callee Pg w K mg base 7 "_law_maker_telling" 2 g__law_maker_telling) (C__law_any : Callee Pg w K mg base 9 "_law_any" 2 g__law_any) (C__law_small_maker : Callee Pg w K mg base 56 "_law_small_maker" 3 g__law_small_maker) (C__law_places : Callee Pg w K mg base 77 "_law_places" 2 g__law_places) (C_maker_at : Callee Pg w K mg base 79 "maker_at" 2 g_maker_at) (z_range : mg "range" = none) : FnOk Pg w K mg base CX0 80 f fd ["script"] (spD K g_law 1) :=
  fnok_of F sc_law rfl fun cdv A outer s H E hr =>
  dcs_cons (dc_set (i := 1) sc_law.nd rfl (Or.inl rfl) (de_lstH (da_cons (dv 0) (da_cons (de_int) (da_cons (de_int) (da_nil))))))
  (dcs_cons (dc_for PassesOwn.never rfl (di_range1 rfl z_range (da_cons (de_int) (da_nil)) (aCons_len (fun _ _ _ _ => aNil_len))) (dg_name (i := 2) sc_law.nd rfl (Or.inl rfl))
  (dcs_cons (dc_set (i := 3) sc_law.nd rfl (Or.inl rfl) (de_call (C__law_maker_telling.mono (by decide)) (hr.mono (by decide : 79 ≤ 79)) rfl (da_cons (dv 1) (da_cons (de_int) (da_nil))) (aCons_len (aCons_len (fun _ _ _ _ => aNil_len)))))
  (dcs_cons (dc_set (i := 4) sc_law.nd rfl (Or.inl rfl) (de_call (C__law_small_maker.mono (by decide)) (hr.mono (by decide : 79 ≤ 79)) rfl (da_cons (dv 1) (da_cons (dv 3) (da_cons (de_call (C__law_any.mono (by decide)) (hr.mono (by decide : 79 ≤ 79)) rfl (da_cons (dv 1) (da_cons (dv 3) (da_nil))) (aCons_len (aCons_len (fun _ _ _ _ => aNil_len)))) (da_nil)))) (aCons_len (aCons_len (aCons_len (fun _ _ _ _ => aNil_len))))))
  (dcs_one (dc_for PassesOwn.never rfl (di_it (de_call (C__law_places.mono (by decide)) (hr.mono (by decide : 79 ≤ 79)) rfl (da_cons (dv 4) (da_cons (de_tup (da_nil)) (da_nil))) (aCons_len (aCons_len (fun _ _ _ _ => aNil_len))))) (dg_tup (is := [5, 6]) rfl sc_law.nd (.cons rfl (Or.inl rfl) (.inl rfl) (.cons rfl (Or.inl rfl) (.inl rfl) (.nil) rfl) rfl))
  (dcs_one (dc_if (dt_c (c_ne (u64 hr)) (de_call (C_maker_at.mono (by decide)) (hr.mono (by decide : 79 ≤ 79)) rfl (da_cons (dv 4) (da_cons (dv 5) (da_nil))) (aCons_len (aCons_len (fun _ _ _ _ => aNil_len)))) (dv 6) rfl)
  (dcs_one (dc_ret (de_bl)))
  (dcs_nil))))))))
  (dcs_one (dc_ret (de_bl))))
end
end CKP
/-! TL: plain facts of tellings. -/
namespace CKP
open PySem PySem.Spec PyProof.Rows L2 CK

/-- the head of the row for which a name stands -/
def hdA (T : Tel) (c : Str) : Hd := (hdOf T (rowOf T c)).getD .none
def sFrom : List Str := ["from"]
/-- roads of n steps from r: those of side 1 (true), those of side -1 (false) -/
def cs (T : Tel) : Nat → Str → Bool → Int
  | 0, _, s => if s then 1 else 0
  | n + 1, r, s => ((ways T r).map fun w => cs T n w.2 (if w.1 = sFrom then !s else s)).sum
theorem step_from {s : List Str} {S : DH} (h : ∀ x ∈ s, PyData.strOk x = true) : gEq (.p (stepP s)) (.p (.tup [.str "from"])) S = some (.p (.bl (decide (s = sFrom))), S) := by
  obtain ⟨c1, c2⟩ := cleans_map_str h
  refine gEq_cl (b := decide (s = sFrom)) c1 (by decide +kernel) (by show pdeps (s.map .str) + 1 ≤ 64; omega) (by decide) ?_
  rw [decide_eq_true_eq]
  show s = sFrom ↔ P.tup (s.map .str) = P.tup (sFrom.map .str)
  constructor
  · intro e; rw [e]
  · intro e
    rw [P.tup.injEq] at e
    exact (List.map_inj_right fun a b h => P.str.inj h).mp e
/-- the rows that are no as rows -/
def plainRows (T : Tel) : List Str := (T.filter fun r => !isAs r.2).map (·.1)
theorem plainRows_mem {T : Tel} {n : Str} {h : Hd} (e : hdOf T n = some h) (ha : isAs h = false) : n ∈ plainRows T := by
  have hm := hdOf_mem e
  exact List.mem_map.mpr ⟨(n, h), List.mem_filter.mpr ⟨hm, by simp [ha]⟩, rfl⟩
theorem plainRows_sub {T : Tel} {n : Str} (h : n ∈ plainRows T) : n ∈ names T := by
  obtain ⟨r, hr, rfl⟩ := List.mem_map.mp h
  exact List.mem_map.mpr ⟨r, (List.mem_filter.mp hr).1, rfl⟩
theorem plainRows_nd {T : Tel} (wf : WF T) : (plainRows T).Nodup := wf.nd.sublist (List.filter_sublist.map _)
theorem plainRows_len {T : Tel} (wf : WF T) : (plainRows T).length ≤ 2000 := by
  have h1 : (plainRows T).length ≤ T.length := by unfold plainRows; rw [List.length_map]; exact List.length_filter_le _ _
  have := wf.len
  omega
def two (a b : Int) : P := .tup [.int a, .int b]
end CKP
/-! RP: steps as keys, roads. -/
namespace CKP
open PySem PySem.Spec PyProof.Rows L2 CK

abbrev Step := List Str
abbrev Road := List Step
def okS (s : Step) : Prop := (∀ x ∈ s, PyData.strOk x = true) ∧ s.length ≤ 2
theorem mergeG_enc {κ κ' α β : Type} [DecidableEq κ] [DecidableEq κ'] {f : κ → κ'} {g : α → β} (hf : ∀ a b, f a = f b → a = b) : ∀ (more acc : List (κ × α)), mergeG (acc.map fun e => (f e.1, g e.2)) (more.map fun e => (f e.1, g e.2)) = (mergeG acc more).map fun e => (f e.1, g e.2)
  | [], acc => rfl
  | q :: r, acc => by
    show mergeG (dput (acc.map fun e => (f e.1, g e.2)) (f q.1) (g q.2)) (r.map fun e => (f e.1, g e.2)) = (mergeG (dput acc q.1 q.2) r).map fun e => (f e.1, g e.2)
    rw [dput_enc hf, mergeG_enc hf r]
theorem dput_mem {κ α : Type} [DecidableEq κ] {k : κ} {v : α} : ∀ {l : List (κ × α)}, ∀ e ∈ dput l k v, e ∈ l ∨ e = (k, v) := by
  intro l e he
  unfold dput at he
  split at he
  · obtain ⟨q, hq, rfl⟩ := List.mem_map.mp he
    by_cases h : q.1 = k
    · right; simp [h]
    · left; simpa [h] using hq
  · rcases List.mem_append.mp he with h | h
    · exact .inl h
    · exact .inr (List.mem_singleton.mp h)
theorem mergeG_mem {κ α : Type} [DecidableEq κ] : ∀ {more acc : List (κ × α)}, ∀ e ∈ mergeG acc more, e ∈ acc ∨ e ∈ more
  | [], acc, e, h => .inl h
  | q :: r, acc, e, h => by
    have h : e ∈ mergeG (dput acc q.1 q.2) r := h
    rcases mergeG_mem e h with h | h
    · rcases dput_mem e h with h | h
      · exact .inl h
      · exact .inr (by rw [h]; exact List.mem_cons_self)
    · exact .inr (List.mem_cons_of_mem _ h)
theorem dval_mem {κ α : Type} [DecidableEq κ] {l : List (κ × α)} {k : κ} {v : α} (h : dval l k = some v) : (k, v) ∈ l := by
  unfold dval at h
  cases q : l.find? fun kv => decide (kv.1 = k) with
  | none => rw [q] at h; cases h
  | some r =>
    rw [q] at h; cases h
    have h1 := List.mem_of_find?_eq_some q
    have h2 : r.1 = k := by have := List.find?_some q; exact of_decide_eq_true this
    rw [← h2]; exact h1
/-- the end of one step -/
def stp (T : Tel) (n : Str) (s : Step) : Option Str := dval (mergeG [] (ways T n)) s
theorem stp_mem {T : Tel} {n : Str} {s : Step} {m : Str} (h : stp T n s = some m) : (s, m) ∈ ways T n := by
  rcases mergeG_mem _ (dval_mem h) with h | h
  · cases h
  · exact h
def encW (l : List (Step × Str)) : List (List Key × P) := l.map fun w => (w.1.map Sum.inr, .str w.2)
theorem inr_inj : ∀ a b : Step, a.map (Sum.inr : Str → Key) = b.map Sum.inr → a = b := fun a b h => (List.map_inj_right fun _ _ h => Sum.inr.inj h).mp h
theorem keysP_str : ∀ s : Step, keysP (s.map .str) = some (s.map Sum.inr)
  | [] => rfl
  | x :: r => by
    show (keysP (r.map .str)).map (Sum.inr x :: ·) = _
    rw [keysP_str r]; rfl
theorem keyT_str (s : Step) : keyT (stepP s) = some (s.map Sum.inr) := by
  show keysP (s.map .str) = _
  exact keysP_str s
theorem prsT_ways : ∀ l : List (Step × Str), prsT (l.map wayP) = some (encW l)
  | [] => rfl
  | w :: r => by
    have h : prsT ((w :: r).map wayP) = match keyT (stepP w.1) with | none => none | some k => (prsT (r.map wayP)).map ((k, P.str w.2) :: ·) := by
      rw [List.map_cons, prsT]; rfl
    rw [h, keyT_str, prsT_ways r]; rfl
section
variable {T : Tel} {S : DH} {n x : Str} {s : Step} {rd : Road} {r : P}
theorem dictT_ways : gDictT [.p (.lst ((ways T n).map wayP))] S = some (.p (.dT (encW (mergeG [] (ways T n)))), S) := by
  have h : gDictT [.p (.lst ((ways T n).map wayP))] S = (prsT ((ways T n).map wayP)).map fun kl => (.p (.dT (mergeG [] kl)), S) := by
    simp [gDictT, srcP]
  have e : mergeG [] (encW (ways T n)) = encW (mergeG [] (ways T n)) := mergeG_enc (f := fun s : Step => s.map (Sum.inr : Str → Key)) (g := P.str) inr_inj (ways T n) []
  rw [h, prsT_ways, ← e]; rfl
theorem dget_ways (L : List (Step × Str)) (s : Step) : dget S (.p (.dT (encW L))) (.p (stepP s)) = some ((dval L s).map fun v => .p (.str v)) := by
  have h1 : keyD (.p (stepP s)) = some (.inr (s.map Sum.inr)) := by
    show (keysP (s.map .str)).map Sum.inr = _
    rw [keysP_str]; rfl
  unfold dget
  rw [h1]
  show some (dval ((encW L).map fun q => (q.1, D.p q.2)) (s.map Sum.inr)) = _
  have h2 : (encW L).map (fun q => (q.1, D.p q.2)) = L.map fun e => ((fun s : Step => s.map (Sum.inr : Str → Key)) e.1, (fun v => D.p (.str v)) e.2) := by unfold encW; rw [List.map_map]; rfl
  rw [h2, dval_enc (f := fun s : Step => s.map (Sum.inr : Str → Key)) (g := fun v => D.p (.str v)) inr_inj]
def optP : Option Str → P
  | none => .non
  | some m => .str m
def endR (T : Tel) : Str → Road → Option Str
  | n, [] => some n
  | n, s :: r => match stp T n s with
    | none => none
    | some m => endR T m r
theorem endR_mem (wf : WF T) : ∀ {rd : Road} {n m : Str}, n ∈ names T → endR T n rd = some m → m ∈ names T
  | [], n, m, h, e => by cases e; exact h
  | s :: r, n, m, h, e => by
    unfold endR at e
    cases q : stp T n s with
    | none => rw [q] at e; cases e
    | some k => rw [q] at e; exact endR_mem wf (ways_row wf h _ (stp_mem q)).1 e
theorem stp_row (wf : WF T) {m : Str} (hn : n ∈ names T) (h : stp T n s = some m) : m ∈ names T := (ways_row wf hn _ (stp_mem h)).1

def sideR (rd : Road) : Int := rd.foldl (fun a s => if s = sFrom then 0 - a else a) 1
theorem endR_cons {y : Str} {s : Step} {r : Road} : endR T y (s :: r) = match stp T y s with | none => none | some m => endR T m r := rfl
end
end CKP
/-! PL: plain data; equality with a list of the own heap. -/
namespace CKP
open PySem PySem.Spec PyProof.Rows L2 CK

section
variable {S : DH} {x y : P} {i : Nat} {l : List P}
theorem gNe_refr (h : S[i]? = some (.lst (l.map .p))) : gNe (.p y) (.ref i) S = gNe (.p y) (.p (.lst l)) S := by
  have h1 := gEq_fold (neg := true) (a := .p y) (b := .ref i) (S := S)
  have h2 := gEq_fold (neg := true) (a := .p y) (b := .p (.lst l)) (S := S)
  simp only [if_true] at h1 h2
  rw [h1, h2]
  have e : scalEq y (.lst l) = none := by cases y <;> rfl
  rw [pure2_eq, e]
  show gEqD true (.p y) (.ref i) S = gEqD true (.p y) (.p (.lst l)) S
  unfold gEqD
  rw [toPyD_ref h]
theorem ne_self (hp : ∀ x ∈ l, plainP x) : gNe (.p (.lst l)) (.p (.lst l)) S = some (.p (.bl false), S) := by
  obtain ⟨h1, h2⟩ := plain_lst hp
  exact gNe_cu h1 h1 (by omega) (by omega) (b := true) (by simp)
theorem ne_self_r (h : S[i]? = some (.lst (l.map .p))) (hp : ∀ x ∈ l, plainP x) : gNe (.p (.lst l)) (.ref i) S = some (.p (.bl false), S) := by rw [gNe_refr h]; exact ne_self hp
theorem ne_self_l (h : S[i]? = some (.lst (l.map .p))) (hp : ∀ x ∈ l, plainP x) : gNe (.ref i) (.p (.lst l)) S = some (.p (.bl false), S) := by rw [gNe_refl h]; exact ne_self hp
end
theorem pl_str {x : Str} (h : PyData.strOk x = true) : plainP (.str x) := ⟨h, Nat.zero_le _⟩
theorem pl_int (i : Int) : plainP (.int i) := ⟨rfl, by show 0 ≤ 32; decide⟩
theorem uns_eq (l : List P) : uns l = l.map un := by have := uns_map (f := fun x => x) (l := l); simpa using this
/-- a tuple of plain things of small depth -/
theorem pl_tup {l : List P} {n : Nat} (h : ∀ x ∈ l, clean (un x) = true ∧ pdep (un x) ≤ n) : clean (un (.tup l)) = true ∧ pdep (un (.tup l)) ≤ n + 1 := by
  refine ⟨?_, ?_⟩
  · show cleans (uns l) = true
    rw [uns_eq]
    refine cleans_all fun x hx => ?_
    obtain ⟨y, hy, rfl⟩ := List.mem_map.mp hx
    exact (h y hy).1
  · show pdeps (uns l) + 1 ≤ n + 1
    rw [uns_eq]
    have : pdeps (l.map un) ≤ n := pdeps_le fun x hx => by
      obtain ⟨y, hy, rfl⟩ := List.mem_map.mp hx
      exact (h y hy).2
    omega
theorem cl_step {s : Step} (h : ∀ x ∈ s, PyData.strOk x = true) : clean (un (stepP s)) = true ∧ pdep (un (stepP s)) ≤ 1 := pl_tup (n := 0) fun x hx => by
  obtain ⟨y, hy, rfl⟩ := List.mem_map.mp hx
  exact ⟨h y hy, Nat.le_refl _⟩
theorem cl_road {rd : Road} (h : ∀ s ∈ rd, okS s) : clean (un (.tup (rd.map stepP))) = true ∧ pdep (un (.tup (rd.map stepP))) ≤ 2 := pl_tup (n := 1) fun x hx => by
  obtain ⟨y, hy, rfl⟩ := List.mem_map.mp hx
  exact cl_step (h y hy).1
theorem pl_road {rd : Road} (h : ∀ s ∈ rd, okS s) : plainP (.tup (rd.map stepP)) := ⟨(cl_road h).1, by have := (cl_road h).2; omega⟩
theorem pl_step {s : Step} (h : okS s) : plainP (stepP s) := ⟨(cl_step h.1).1, by have := (cl_step h.1).2; omega⟩
theorem isi_int_bool' {z : Int} {S : DH} : gIsi [.p (.int z), .p (.ty "bool")] S = some (.p (.bl false), S) := gIsi_eq (show isiOk "int" "bool" = true by decide) (show isi "int" "bool" = false by decide)
theorem isi_lst_list {l : List P} {S : DH} : gIsi [.p (.lst l), .p (.ty "list")] S = some (.p (.bl true), S) := gIsi_eq (show isiOk "list" "list" = true by decide) (show isi "list" "list" = true by decide)
theorem isi_tup_tuple {l : List P} {S : DH} : gIsi [.p (.tup l), .p (.ty "tuple")] S = some (.p (.bl true), S) := gIsi_eq (show isiOk "tuple" "tuple" = true by decide) (show isi "tuple" "tuple" = true by decide)
theorem isi_bl_bool {b : Bool} {S : DH} : gIsi [.p (.bl b), .p (.ty "bool")] S = some (.p (.bl true), S) := gIsi_eq (show isiOk "bool" "bool" = true by decide) (show isi "bool" "bool" = true by decide)
theorem isi_rlst {l : List D} {S : DH} {i : Nat} (h : S[i]? = some (.lst l)) : gIsi [.ref i, .p (.ty "list")] S = some (.p (.bl true), S) := by
  have : tyD S (.ref i) = "list" := by show (match S[i]? with | some o => tyDo o | none => "?") = _; rw [h]; rfl
  exact gIsi_eq (by rw [this]; decide) (by rw [this]; decide)
end CKP
/-! TE: tellings compared as data. -/
namespace CKP
open PySem PySem.Spec PyProof.Rows L2 CK

theorem uns_inj {α : Type} {f : α → P} (h : ∀ a b, un (f a) = un (f b) → a = b) : ∀ l k : List α, uns (l.map f) = uns (k.map f) → l = k
  | [], [], _ => rfl
  | [], b :: k, e => by cases e
  | a :: l, [], e => by cases e
  | a :: l, b :: k, e => by
    have e : un (f a) :: uns (l.map f) = un (f b) :: uns (k.map f) := e
    injection e with e1 e2
    rw [h a b e1, uns_inj h l k e2]
theorem un_prP {q r : Str × Str} (e : un (prP q) = un (prP r)) : q = r := by
  have e : P.tup [.str q.1, .str q.2] = P.tup [.str r.1, .str r.2] := e
  injection e with e
  injection e with e1 e2
  injection e1 with e1
  injection e2 with e2 e3
  injection e2 with e2
  exact Prod.ext e1 e2
def hdTl : Hd → List P
  | .way a b => [.str a, .str b]
  | .box ps => [.tup (uns (ps.map prP))]
  | .pick ps => [.tup (uns (ps.map prP))]
  | .as_ a => [.str a]
  | _ => []
def hdNo : Hd → Str
  | .all => "all"
  | .none => "none"
  | .way _ _ => "way"
  | .box _ => "box"
  | .pick _ => "pick"
  | .as_ _ => "as"
theorem un_hd (h : Hd) : un (hdP h) = .tup (.str (hdNo h) :: hdTl h) := by cases h <;> rfl
theorem six_nd : (["all", "none", "way", "box", "pick", "as"] : List Str).Nodup := by decide +kernel
theorem un_hdP {h k : Hd} (e : un (hdP h) = un (hdP k)) : h = k := by
  rw [un_hd, un_hd] at e
  injection e with e
  injection e with e1 e2
  injection e1 with e1
  have hd := six_nd
  simp only [List.nodup_cons, List.mem_cons, not_or, List.not_mem_nil] at hd
  obtain ⟨⟨a1, a2, a3, a4, a5, _⟩, ⟨b1, b2, b3, b4, _⟩, ⟨c1, c2, c3, _⟩, ⟨d1, d2, _⟩, ⟨f1, _⟩, _⟩ := hd
  cases h <;> cases k <;> first
    | rfl
    | (exfalso; dsimp only [hdNo] at e1; first | exact a1 e1 | exact a2 e1 | exact a3 e1 | exact a4 e1 | exact a5 e1 | exact b1 e1 | exact b2 e1 | exact b3 e1 | exact b4 e1 | exact c1 e1 | exact c2 e1 | exact c3 e1 | exact d1 e1 | exact d2 e1 | exact f1 e1 | exact a1 e1.symm | exact a2 e1.symm | exact a3 e1.symm | exact a4 e1.symm | exact a5 e1.symm | exact b1 e1.symm | exact b2 e1.symm | exact b3 e1.symm | exact b4 e1.symm | exact c1 e1.symm | exact c2 e1.symm | exact c3 e1.symm | exact d1 e1.symm | exact d2 e1.symm | exact f1 e1.symm)
    | (dsimp only [hdTl] at e2; simp only [List.cons.injEq, P.str.injEq, P.tup.injEq, and_true] at e2
       first | (rw [e2]; done) | (rw [e2.1, e2.2]; done) | (rw [uns_inj (fun _ _ => un_prP) _ _ e2]; done))
theorem un_rowP {r s : Str × Hd} (e : un (rowP r) = un (rowP s)) : r = s := by
  have e : P.tup [.str r.1, un (hdP r.2)] = P.tup [.str s.1, un (hdP s.2)] := e
  injection e with e
  injection e with e1 e2
  injection e1 with e1
  injection e2 with e2 e3
  exact Prod.ext e1 (un_hdP e2)
theorem un_telP {T U : Tel} : un (telP T) = un (telP U) ↔ T = U := by
  refine ⟨fun e => ?_, fun e => by rw [e]⟩
  have e : P.tup (uns (T.map rowP)) = P.tup (uns (U.map rowP)) := e
  injection e with e
  exact uns_inj (fun _ _ => un_rowP) _ _ e
theorem pl_ftup {l : List P} {n : Nat} (h : ∀ x ∈ l, clean (un x) = true ∧ pdep (un x) ≤ n) : clean (un (.ftup l)) = true ∧ pdep (un (.ftup l)) ≤ n + 1 := pl_tup h
theorem mono_cl {x : P} {n m : Nat} (hm : n ≤ m) (h : clean (un x) = true ∧ pdep (un x) ≤ n) : clean (un x) = true ∧ pdep (un x) ≤ m := ⟨h.1, Nat.le_trans h.2 hm⟩
theorem cl_str {x : Str} (h : PyData.strOk x = true) (n : Nat) : clean (un (.str x)) = true ∧ pdep (un (.str x)) ≤ n := ⟨h, Nat.zero_le _⟩
theorem sorts_ok : ∀ s ∈ (["all", "none", "way", "box", "pick", "as"] : List Str), PyData.strOk s = true := by decide +kernel
theorem cl_prs {ps : List (Str × Str)} (h : ∀ q ∈ ps, PyData.strOk q.1 = true ∧ PyData.strOk q.2 = true) : clean (un (.ftup (ps.map prP))) = true ∧ pdep (un (.ftup (ps.map prP))) ≤ 2 :=
  pl_ftup (n := 1) fun x hx => by
    obtain ⟨q, hq, rfl⟩ := List.mem_map.mp hx
    exact pl_tup (n := 0) fun y hy => by
      rcases List.mem_cons.mp hy with rfl | hy
      · exact cl_str (h q hq).1 0
      · rw [List.mem_singleton.mp hy]; exact cl_str (h q hq).2 0
theorem cl_hd {h : Hd} (hw : ∀ w ∈ CK.wordsOf h, PyData.strOk w = true) (hr : ∀ w ∈ refs h, PyData.strOk w = true) : clean (un (hdP h)) = true ∧ pdep (un (hdP h)) ≤ 3 := by
  have hp : ∀ ps : List (Str × Str), (∀ w ∈ ps.map (·.1), PyData.strOk w = true) → (∀ w ∈ ps.map (·.2), PyData.strOk w = true) → ∀ q ∈ ps, PyData.strOk q.1 = true ∧ PyData.strOk q.2 = true := fun ps h1 h2 q hq =>
    ⟨h1 _ (List.mem_map.mpr ⟨q, hq, rfl⟩), h2 _ (List.mem_map.mpr ⟨q, hq, rfl⟩)⟩
  cases h with
  | all => exact pl_tup (n := 2) fun x hx => by rw [List.mem_singleton.mp hx]; exact cl_str (sorts_ok _ (by simp)) _
  | none => exact pl_tup (n := 2) fun x hx => by rw [List.mem_singleton.mp hx]; exact cl_str (sorts_ok _ (by simp)) _
  | way a b =>
    refine pl_tup (n := 2) fun x hx => ?_
    rcases List.mem_cons.mp hx with rfl | hx
    · exact cl_str (sorts_ok _ (by simp)) _
    · rcases List.mem_cons.mp hx with rfl | hx
      · exact cl_str (hr a (by simp [refs])) _
      · rw [List.mem_singleton.mp hx]; exact cl_str (hr b (by simp [refs])) _
  | box ps =>
    refine pl_tup (n := 2) fun x hx => ?_
    rcases List.mem_cons.mp hx with rfl | hx
    · exact cl_str (sorts_ok _ (by simp)) _
    · rw [List.mem_singleton.mp hx]; exact cl_prs (hp ps hw hr)
  | pick ps =>
    refine pl_tup (n := 2) fun x hx => ?_
    rcases List.mem_cons.mp hx with rfl | hx
    · exact cl_str (sorts_ok _ (by simp)) _
    · rw [List.mem_singleton.mp hx]; exact cl_prs (hp ps hw hr)
  | as_ a =>
    refine pl_tup (n := 2) fun x hx => ?_
    rcases List.mem_cons.mp hx with rfl | hx
    · exact cl_str (sorts_ok _ (by simp)) _
    · rw [List.mem_singleton.mp hx]; exact cl_str (hr a (by simp [refs])) _
section
variable {T U : Tel} {S : DH}
theorem name_strOk (wf : WF T) {n : Str} (h : n ∈ names T) : PyData.strOk n = true := by
  obtain ⟨r, hr, rfl⟩ := List.mem_map.mp h
  exact (wf.ok r hr).1
theorem cl_row (wf : WF T) {r : Str × Hd} (hr : r ∈ T) : clean (un (rowP r)) = true ∧ pdep (un (rowP r)) ≤ 4 := pl_tup (n := 3) fun x hx => by
  rcases List.mem_cons.mp hx with rfl | hx
  · exact cl_str (wf.ok r hr).1 _
  · rw [List.mem_singleton.mp hx]
    exact cl_hd (wf.ok r hr).2 fun w hw => name_strOk wf (wf.cl r hr w hw)
theorem cl_tel (wf : WF T) : clean (un (telP T)) = true ∧ pdep (un (telP T)) ≤ 5 := pl_ftup (n := 4) fun x hx => by
  obtain ⟨r, hr, rfl⟩ := List.mem_map.mp hx
  exact cl_row wf hr
theorem eq_tel (wf : WF T) (wu : WF U) {b : Bool} (h : b = true ↔ T = U) : gEq (.p (telP T)) (.p (telP U)) S = some (.p (.bl b), S) := by
  obtain ⟨h1, h2⟩ := cl_tel wf
  obtain ⟨h3, h4⟩ := cl_tel wu
  exact gEq_cu h1 h3 (by omega) (by omega) (h.trans un_telP.symm)
theorem ne_tel (wf : WF T) (wu : WF U) {b : Bool} (h : b = true ↔ T = U) : gNe (.p (telP T)) (.p (telP U)) S = some (.p (.bl (!b)), S) := by
  obtain ⟨h1, h2⟩ := cl_tel wf
  obtain ⟨h3, h4⟩ := cl_tel wu
  exact gNe_cu h1 h3 (by omega) (by omega) (h.trans un_telP.symm)
theorem ne_tel_self (wf : WF T) : gNe (.p (telP T)) (.p (telP T)) S = some (.p (.bl false), S) := ne_tel wf wf (b := true) ⟨fun _ => rfl, fun _ => rfl⟩
/-- names compared -/
theorem un_strs {l k : List Str} : un (.lst (l.map .str)) = un (.lst (k.map .str)) ↔ l = k := by
  refine ⟨fun e => ?_, fun e => by rw [e]⟩
  have e : P.lst (uns (l.map .str)) = P.lst (uns (k.map .str)) := e
  injection e with e
  exact uns_inj (fun a b e => by have e : P.str a = P.str b := e; injection e) _ _ e
theorem ne_strs {l : List Str} (h : ∀ n ∈ l, PyData.strOk n = true) : gNe (.p (.lst (l.map .str))) (.p (.lst (l.map .str))) S = some (.p (.bl false), S) := by
  have hp : ∀ x ∈ l.map P.str, plainP x := fun x hx => by
    obtain ⟨n, hn, rfl⟩ := List.mem_map.mp hx
    exact pl_str (h n hn)
  exact ne_self hp
theorem allB {α : Type} {f : α → Bool} {L : List α} : gAll [.p (.lst (L.map fun q => P.bl (f q)))] S = some (.p (.bl (L.all f)), S) := by
  have := gAll_bl (l := L.map f) (S := S)
  rw [List.map_map, List.all_map] at this
  exact this
theorem anyB {α : Type} {f : α → Bool} {L : List α} : gAny [.p (.lst (L.map fun q => P.bl (f q)))] S = some (.p (.bl (L.any f)), S) := by
  have := gAny_bl (l := L.map f) (S := S)
  rw [List.map_map, List.any_map] at this
  exact this
/-- a list of plain things, told or held -/
def KL (S : DH) (kd : D) (l : List P) : Prop := kd = .p (.lst l) ∨ ∃ i, kd = .ref i ∧ S[i]? = some (.lst (l.map .p))
theorem KL.lst {kd : D} {l : List P} {Z : DH} (h : KL S kd l) : lstD (S ++ Z) kd = some (l.map .p) := by
  rcases h with rfl | ⟨i, rfl, h⟩
  · rfl
  · have : (S ++ Z)[i]? = some (.lst (l.map .p)) := by rw [List.getElem?_append_left (get_lt h)]; exact h
    show (match (S ++ Z)[i]? with | some (.lst l) => some l | _ => none) = _
    rw [this]
theorem KL.chk {kd : D} {l : List P} {Z Z' : DH} (h : KL S kd l) : chkD (S ++ Z) kd (S ++ Z') := by
  rcases h with rfl | ⟨i, rfl, h⟩
  · exact trivial
  · show (S ++ Z')[i]? = (S ++ Z)[i]?
    rw [List.getElem?_append_left (get_lt h), List.getElem?_append_left (get_lt h)]
end
end CKP
/-! MK: makers. -/
namespace CKP
open PySem PySem.Spec PyProof.Rows L2 CK

mutual
inductive Mk where
  | get (w : Str)
  | fn (w x : Str) (m : Mk)
  | call (a b : Mk)
  | box (ps : Mks)
  | part (m : Mk) (w : Str)
  | pick (w : Str) (m : Mk)
  | split (m : Mk) (cs : Mks)
  | hold (m : Mk) (x : Str)
/-- parts of a box (the second word is nothing) and cases of a split -/
inductive Mks where
  | nil
  | cons (w v : Str) (m : Mk) (r : Mks)
end
abbrev Me := Str × Str × Mk
def Mks.l : Mks → List Me
  | .nil => []
  | .cons w v m r => (w, v, m) :: r.l
def Mks.of : List Me → Mks
  | [] => .nil
  | (w, v, m) :: l => .cons w v m (.of l)
@[simp] theorem Mks.l_of : ∀ l : List Me, (Mks.of l).l = l
  | [] => rfl
  | (w, v, m) :: l => by show (w, v, m) :: (Mks.of l).l = _; rw [Mks.l_of l]
mutual
def Mk.dep : Mk → Nat
  | .get _ => 1
  | .fn _ _ m => 1 + m.dep
  | .call a b => 1 + max a.dep b.dep
  | .box ps => 1 + ps.dep
  | .part m _ => 1 + m.dep
  | .pick _ m => 1 + m.dep
  | .split m cs => 1 + max m.dep cs.dep
  | .hold m _ => 1 + m.dep
def Mks.dep : Mks → Nat
  | .nil => 0
  | .cons _ _ m r => max m.dep r.dep
end
mutual
def Mk.size : Mk → Nat
  | .get _ => 1
  | .fn _ _ m => 1 + m.size
  | .call a b => 1 + (a.size + b.size)
  | .box ps => 1 + ps.size
  | .part m _ => 1 + m.size
  | .pick _ m => 1 + m.size
  | .split m cs => 1 + (m.size + cs.size)
  | .hold m _ => 1 + m.size
def Mks.size : Mks → Nat
  | .nil => 0
  | .cons _ _ m r => m.size + r.size
end
/-- those right within -/
def Mk.parts : Mk → List Mk
  | .get _ => []
  | .fn _ _ m => [m]
  | .call a b => [a, b]
  | .box ps => ps.l.map (·.2.2)
  | .part m _ => [m]
  | .pick _ m => [m]
  | .split m cs => m :: cs.l.map (·.2.2)
  | .hold m _ => [m]
mutual
/-- all words are texts, and few stand side by side -/
def Mk.ok : Mk → Prop
  | .get w => PyData.strOk w = true
  | .fn w x m => PyData.strOk w = true ∧ PyData.strOk x = true ∧ m.ok
  | .call a b => a.ok ∧ b.ok
  | .box ps => ps.ok ∧ ps.l.length ≤ 1000
  | .part m w => m.ok ∧ PyData.strOk w = true
  | .pick w m => PyData.strOk w = true ∧ m.ok
  | .split m cs => m.ok ∧ cs.ok ∧ cs.l.length ≤ 1000
  | .hold m x => m.ok ∧ PyData.strOk x = true
def Mks.ok : Mks → Prop
  | .nil => True
  | .cons w v m r => PyData.strOk w = true ∧ PyData.strOk v = true ∧ m.ok ∧ r.ok
end
theorem Mks.dep_le : ∀ {ps : Mks} {w v : Str} {m : Mk}, (w, v, m) ∈ ps.l → m.dep ≤ ps.dep
  | .nil, _, _, _, h => nomatch h
  | .cons w' v' m' r, w, v, m, h => by
    rw [show (Mks.cons w' v' m' r).dep = max m'.dep r.dep from rfl]
    rcases List.mem_cons.mp (show (w, v, m) ∈ (w', v', m') :: r.l from h) with e | h
    · cases e; omega
    · have := Mks.dep_le h; omega
theorem Mks.dep_of {n : Nat} : ∀ {l : List Me}, (∀ z ∈ l, z.2.2.dep ≤ n) → (Mks.of l).dep ≤ n
  | [], _ => Nat.zero_le _
  | z :: l, h => Nat.max_le.mpr ⟨h z List.mem_cons_self, Mks.dep_of fun y hy => h y (List.mem_cons_of_mem _ hy)⟩
theorem Mks.ok_of : ∀ {ps : Mks} {z : Me}, ps.ok → z ∈ ps.l → PyData.strOk z.1 = true ∧ PyData.strOk z.2.1 = true ∧ z.2.2.ok
  | .nil, _, _, h => nomatch h
  | .cons w' v' m' r, z, k, h => by
    have k : PyData.strOk w' = true ∧ PyData.strOk v' = true ∧ m'.ok ∧ r.ok := k
    rcases List.mem_cons.mp (show z ∈ (w', v', m') :: r.l from h) with e | h
    · cases e; exact ⟨k.1, k.2.1, k.2.2.1⟩
    · exact Mks.ok_of k.2.2.2 h
theorem Mks.ok_mk : ∀ {l : List Me}, (∀ z ∈ l, PyData.strOk z.1 = true ∧ PyData.strOk z.2.1 = true ∧ z.2.2.ok) → (Mks.of l).ok
  | [], _ => trivial
  | z :: l, h => ⟨(h z List.mem_cons_self).1, (h z List.mem_cons_self).2.1, (h z List.mem_cons_self).2.2, Mks.ok_mk fun y hy => h y (List.mem_cons_of_mem _ hy)⟩
theorem Mks.size_l : ∀ ps : Mks, ps.size = (ps.l.map fun z => z.2.2.size).sum
  | .nil => rfl
  | .cons w v m r => by show m.size + r.size = m.size + (r.l.map fun z => z.2.2.size).sum; rw [Mks.size_l r]
theorem Mk.size_parts (m : Mk) : m.size = 1 + (m.parts.map Mk.size).sum := by
  cases m with
  | get w => rfl
  | fn w x m => rfl
  | call a b => rfl
  | box ps => show 1 + ps.size = 1 + ((ps.l.map (·.2.2)).map Mk.size).sum; rw [Mks.size_l, List.map_map]; rfl
  | part m w => rfl
  | pick w m => rfl
  | split m cs => show 1 + (m.size + cs.size) = 1 + (m.size + ((cs.l.map (·.2.2)).map Mk.size).sum); rw [Mks.size_l, List.map_map]; rfl
  | hold m x => rfl
theorem Mk.parts_dep {m p : Mk} (h : p ∈ m.parts) : p.dep + 1 ≤ m.dep := by
  cases m with
  | get w => cases h
  | fn w x m => cases List.mem_singleton.mp h; show _ ≤ 1 + _; omega
  | call a b =>
    show _ ≤ 1 + max a.dep b.dep
    rcases List.mem_cons.mp (show p ∈ [a, b] from h) with rfl | h
    · omega
    · cases List.mem_singleton.mp h; omega
  | box ps =>
    obtain ⟨z, hz, rfl⟩ := List.mem_map.mp (show p ∈ ps.l.map (·.2.2) from h)
    have h9 := Mks.dep_le (w := z.1) (v := z.2.1) (m := z.2.2) hz
    show z.2.2.dep + 1 ≤ 1 + ps.dep
    omega
  | part m w => cases List.mem_singleton.mp h; show _ ≤ 1 + _; omega
  | pick w m => cases List.mem_singleton.mp h; show _ ≤ 1 + _; omega
  | split m cs =>
    show _ ≤ 1 + max m.dep cs.dep
    rcases List.mem_cons.mp (show p ∈ m :: cs.l.map (·.2.2) from h) with rfl | h
    · omega
    · obtain ⟨z, hz, rfl⟩ := List.mem_map.mp h
      have h9 := Mks.dep_le (w := z.1) (v := z.2.1) (m := z.2.2) hz
      show z.2.2.dep + 1 ≤ 1 + max m.dep cs.dep
      omega
  | hold m x => cases List.mem_singleton.mp h; show _ ≤ 1 + _; omega
theorem Mk.parts_ok {m p : Mk} (k : m.ok) (h : p ∈ m.parts) : p.ok := by
  cases m with
  | get w => cases h
  | fn w x m => cases List.mem_singleton.mp h; exact k.2.2
  | call a b =>
    rcases List.mem_cons.mp (show p ∈ [a, b] from h) with rfl | h
    · exact k.1
    · cases List.mem_singleton.mp h; exact k.2
  | box ps =>
    obtain ⟨z, hz, rfl⟩ := List.mem_map.mp (show p ∈ ps.l.map (·.2.2) from h)
    exact (Mks.ok_of k.1 hz).2.2
  | part m w => cases List.mem_singleton.mp h; exact k.1
  | pick w m => cases List.mem_singleton.mp h; exact k.2
  | split m cs =>
    rcases List.mem_cons.mp (show p ∈ m :: cs.l.map (·.2.2) from h) with rfl | h
    · exact k.1
    · obtain ⟨z, hz, rfl⟩ := List.mem_map.mp h
      exact (Mks.ok_of k.2.1 hz).2.2
  | hold m x => cases List.mem_singleton.mp h; exact k.1
theorem Mk.parts_len {m : Mk} (k : m.ok) : m.parts.length ≤ 1001 := by
  cases m with
  | get w => exact Nat.zero_le _
  | fn w x m => exact Nat.succ_le_succ (Nat.zero_le _)
  | call a b => show 2 ≤ 1001; decide
  | box ps => show (ps.l.map (·.2.2)).length ≤ _; rw [List.length_map]; have := k.2; omega
  | part m w => exact Nat.succ_le_succ (Nat.zero_le _)
  | pick w m => exact Nat.succ_le_succ (Nat.zero_le _)
  | split m cs => show (m :: cs.l.map (·.2.2)).length ≤ _; rw [List.length_cons, List.length_map]; have := k.2.2; omega
  | hold m x => exact Nat.succ_le_succ (Nat.zero_le _)
theorem Mk.dep1 (m : Mk) : 1 ≤ m.dep := by
  cases m with
  | get w => exact Nat.le_refl _
  | fn w x m => exact Nat.le_add_right _ _
  | call a b => exact Nat.le_add_right _ _
  | box ps => exact Nat.le_add_right _ _
  | part m w => exact Nat.le_add_right _ _
  | pick w m => exact Nat.le_add_right _ _
  | split m cs => exact Nat.le_add_right _ _
  | hold m x => exact Nat.le_add_right _ _
/-! ### as data -/
mutual
def mkP : Mk → P
  | .get w => .tup [.str "get", .str w]
  | .fn w x m => .tup [.str "fn", .str w, .str x, mkP m]
  | .call a b => .tup [.str "call", mkP a, mkP b]
  | .box ps => .tup [.str "box", .ftup (psP ps)]
  | .part m w => .tup [.str "part", mkP m, .str w]
  | .pick w m => .tup [.str "pick", .str w, mkP m]
  | .split m cs => .tup [.str "split", mkP m, .ftup (csP cs)]
  | .hold m x => .tup [.str "hold", mkP m, .str x]
def psP : Mks → List P
  | .nil => []
  | .cons w _ m r => .tup [.str w, mkP m] :: psP r
def csP : Mks → List P
  | .nil => []
  | .cons w v m r => .tup [.str w, .str v, mkP m] :: csP r
end
def peP (z : Me) : P := .tup [.str z.1, mkP z.2.2]
def ceP (z : Me) : P := .tup [.str z.1, .str z.2.1, mkP z.2.2]
theorem psP_map : ∀ ps : Mks, psP ps = ps.l.map peP
  | .nil => rfl
  | .cons w v m r => by show _ :: psP r = _; rw [psP_map r]; rfl
theorem csP_map : ∀ ps : Mks, csP ps = ps.l.map ceP
  | .nil => rfl
  | .cons w v m r => by show _ :: csP r = _; rw [csP_map r]; rfl
theorem mkP_box (ps : Mks) : mkP (.box ps) = .tup [.str "box", .ftup (ps.l.map peP)] := by
  show P.tup [.str "box", .ftup (psP ps)] = _
  rw [psP_map]
theorem mkP_split (m : Mk) (ps : Mks) : mkP (.split m ps) = .tup [.str "split", mkP m, .ftup (ps.l.map ceP)] := by
  show P.tup [.str "split", mkP m, .ftup (csP ps)] = _
  rw [csP_map]
theorem strOk8.get : PyData.strOk "get" = true := by decide +kernel
theorem strOk8.fn : PyData.strOk "fn" = true := by decide +kernel
theorem strOk8.call : PyData.strOk "call" = true := by decide +kernel
theorem strOk8.box : PyData.strOk "box" = true := by decide +kernel
theorem strOk8.part : PyData.strOk "part" = true := by decide +kernel
theorem strOk8.pick : PyData.strOk "pick" = true := by decide +kernel
theorem strOk8.split : PyData.strOk "split" = true := by decide +kernel
theorem strOk8.hold : PyData.strOk "hold" = true := by decide +kernel
mutual
theorem mk_clean : ∀ (m : Mk), m.ok → clean (un (mkP m)) = true ∧ pdep (un (mkP m)) ≤ 3 * m.dep
  | .get w, h => ⟨by show (PyData.strOk "get" && (PyData.strOk w && true)) = true; rw [strOk8.get, show PyData.strOk w = true from h]; rfl, by show max 0 (max 0 0) + 1 ≤ 3 * 1; decide⟩
  | .fn w x m, h => by
    obtain ⟨h1, h2, h3⟩ := h
    obtain ⟨a, b⟩ := mk_clean m h3
    refine ⟨?_, ?_⟩
    · show (PyData.strOk "fn" && (PyData.strOk w && (PyData.strOk x && (clean (un (mkP m)) && true)))) = true
      rw [strOk8.fn, h1, h2, a]; rfl
    · show max 0 (max 0 (max 0 (max (pdep (un (mkP m))) 0))) + 1 ≤ 3 * (1 + m.dep)
      omega
  | .call p q, h => by
    obtain ⟨h1, h2⟩ := h
    obtain ⟨a, b⟩ := mk_clean p h1
    obtain ⟨c, d⟩ := mk_clean q h2
    refine ⟨?_, ?_⟩
    · show (PyData.strOk "call" && (clean (un (mkP p)) && (clean (un (mkP q)) && true))) = true
      rw [strOk8.call, a, c]; rfl
    · show max 0 (max (pdep (un (mkP p))) (max (pdep (un (mkP q))) 0)) + 1 ≤ 3 * (1 + max p.dep q.dep)
      omega
  | .box ps, h => by
    obtain ⟨a, b⟩ := ps_clean ps h.1
    refine ⟨?_, ?_⟩
    · show (PyData.strOk "box" && (cleans (uns (psP ps)) && true)) = true
      rw [strOk8.box, a]; rfl
    · show max 0 (max (pdeps (uns (psP ps)) + 1) 0) + 1 ≤ 3 * (1 + ps.dep)
      omega
  | .part m w, h => by
    obtain ⟨h1, h2⟩ := h
    obtain ⟨a, b⟩ := mk_clean m h1
    refine ⟨?_, ?_⟩
    · show (PyData.strOk "part" && (clean (un (mkP m)) && (PyData.strOk w && true))) = true
      rw [strOk8.part, h2, a]; rfl
    · show max 0 (max (pdep (un (mkP m))) (max 0 0)) + 1 ≤ 3 * (1 + m.dep)
      omega
  | .pick w m, h => by
    obtain ⟨h1, h2⟩ := h
    obtain ⟨a, b⟩ := mk_clean m h2
    refine ⟨?_, ?_⟩
    · show (PyData.strOk "pick" && (PyData.strOk w && (clean (un (mkP m)) && true))) = true
      rw [strOk8.pick, h1, a]; rfl
    · show max 0 (max 0 (max (pdep (un (mkP m))) 0)) + 1 ≤ 3 * (1 + m.dep)
      omega
  | .split m cs, h => by
    obtain ⟨h1, h2, _⟩ := h
    obtain ⟨a, b⟩ := mk_clean m h1
    obtain ⟨c, d⟩ := cs_clean cs h2
    refine ⟨?_, ?_⟩
    · show (PyData.strOk "split" && (clean (un (mkP m)) && (cleans (uns (csP cs)) && true))) = true
      rw [strOk8.split, a, c]; rfl
    · show max 0 (max (pdep (un (mkP m))) (max (pdeps (uns (csP cs)) + 1) 0)) + 1 ≤ 3 * (1 + max m.dep cs.dep)
      omega
  | .hold m x, h => by
    obtain ⟨h1, h2⟩ := h
    obtain ⟨a, b⟩ := mk_clean m h1
    refine ⟨?_, ?_⟩
    · show (PyData.strOk "hold" && (clean (un (mkP m)) && (PyData.strOk x && true))) = true
      rw [strOk8.hold, h2, a]; rfl
    · show max 0 (max (pdep (un (mkP m))) (max 0 0)) + 1 ≤ 3 * (1 + m.dep)
      omega
theorem ps_clean : ∀ (ps : Mks), ps.ok → cleans (uns (psP ps)) = true ∧ pdeps (uns (psP ps)) ≤ 3 * ps.dep + 1
  | .nil, _ => ⟨rfl, by show 0 ≤ _; omega⟩
  | .cons w v m r, h => by
    obtain ⟨h1, h2, h3, h4⟩ := h
    obtain ⟨a, b⟩ := mk_clean m h3
    obtain ⟨c, d⟩ := ps_clean r h4
    refine ⟨?_, ?_⟩
    · show ((PyData.strOk w && (clean (un (mkP m)) && true)) && cleans (uns (psP r))) = true
      rw [h1, a, c]; rfl
    · show max (max 0 (max (pdep (un (mkP m))) 0) + 1) (pdeps (uns (psP r))) ≤ 3 * max m.dep r.dep + 1
      omega
theorem cs_clean : ∀ (ps : Mks), ps.ok → cleans (uns (csP ps)) = true ∧ pdeps (uns (csP ps)) ≤ 3 * ps.dep + 1
  | .nil, _ => ⟨rfl, by show 0 ≤ _; omega⟩
  | .cons w v m r, h => by
    obtain ⟨h1, h2, h3, h4⟩ := h
    obtain ⟨a, b⟩ := mk_clean m h3
    obtain ⟨c, d⟩ := cs_clean r h4
    refine ⟨?_, ?_⟩
    · show ((PyData.strOk w && (PyData.strOk v && (clean (un (mkP m)) && true))) && cleans (uns (csP r))) = true
      rw [h1, h2, a, c]; rfl
    · show max (max 0 (max 0 (max (pdep (un (mkP m))) 0)) + 1) (pdeps (uns (csP r))) ≤ 3 * max m.dep r.dep + 1
      omega
end
/-! ### makers for a row -/
def endless : Mk := .call (.fn "v" "dn" (.call (.get "v") (.get "v"))) (.fn "v" "dn" (.call (.get "v") (.get "v")))
def zzM : Mk := .part (.box .nil) "zz"
/-- a maker made so that it goes well, for a row by its name; the names bound tell rows -/
inductive Made (T : Tel) : List (Str × Str) → Str → Mk → Prop
  | get {Γ : List (Str × Str)} {x b : Str} : dval Γ b = some (rowOf T x) → Made T Γ x (.get b)
  | less {Γ : List (Str × Str)} {x : Str} : Made T Γ x endless
  | all {Γ : List (Str × Str)} {x y : Str} {m : Mk} : hdA T x = .all → y ∈ names T → Made T Γ y m → Made T Γ x m
  | fn {Γ : List (Str × Str)} {x a c b : Str} {m : Mk} : hdA T x = .way a c → Made T (dput Γ b (rowOf T a)) c m → Made T Γ x (.fn b a m)
  | pick {Γ : List (Str × Str)} {x : Str} {ps : List (Str × Str)} {q : Str × Str} {m : Mk} : hdA T x = .pick ps → q ∈ ps → Made T Γ q.2 m → Made T Γ x (.pick q.1 m)
  | box {Γ : List (Str × Str)} {x : Str} {ps : List (Str × Str)} {l more : List Me} : hdA T x = .box ps → l.map (·.1) = ps.map (·.1) → (∀ (i : Nat) (q : Str × Str) (z : Me), ps[i]? = some q → l[i]? = some z → Made T Γ q.2 z.2.2) → more = [] ∨ more = [(("z" : Str), ("" : Str), Mk.box .nil)] → Made T Γ x (.box (.of (l ++ more)))
  | hold {Γ : List (Str × Str)} {x : Str} {m : Mk} : Made T Γ x m → Made T Γ x (.hold m x)
  | part {Γ : List (Str × Str)} {x : Str} {m : Mk} : Made T Γ x m → Made T Γ x (.part (.box (.of [(("a" : Str), ("" : Str), m), (("b" : Str), ("" : Str), .box .nil)])) "a")
  | call {Γ : List (Str × Str)} {x y b : Str} {m n : Mk} : y ∈ names T → Made T Γ y n → Made T (dput Γ b (rowOf T y)) x m → Made T Γ x (.call (.fn b y m) n)
  | split {Γ : List (Str × Str)} {x y b : Str} {k : Nat} {w : Str} {m n : Mk} : y ∈ names T → Made T Γ y n → Made T (dput Γ b (rowOf T y)) x m → (["a", "b", "ba"] : List Str)[k]? = some w → Made T Γ x (.split (.pick w n) (.of (([(("a" : Str), b, zzM), (("b" : Str), b, zzM), (("ba" : Str), b, zzM)] : List Me).set k (w, b, m))))
  | over {Γ : List (Str × Str)} {x r : Str} {ps : List (Str × Str)} {n : Mk} {l more : List Me} : hdOf T r = some (.pick ps) → ps ≠ [] → Made T Γ r n → l.map (·.1) = ps.map (·.1) → (∀ (i : Nat) (q : Str × Str) (z : Me), ps[i]? = some q → l[i]? = some z → Made T (dput Γ z.2.1 (rowOf T q.2)) x z.2.2) → more = [] ∨ more = [(("zz" : Str), ("v" : Str), zzM)] → Made T Γ x (.split (.hold n r) (.of (l ++ more)))
end CKP
/-! RIX: items, sorts. -/
namespace CKP
open PySem PySem.Spec PyProof.Rows L2 CK

section
variable {T : Tel} {S : DH}
theorem ix1 {x y : P} {r : List P} : gIx (.p (.tup (x :: y :: r))) (.p (.int 1)) S = some (.p y, S) := by
  rw [gIx_tup, atI_ok (i := 1) (n := 1) (x := y) rfl rfl]; rfl
theorem ix2 {x y z : P} {r : List P} : gIx (.p (.tup (x :: y :: z :: r))) (.p (.int 2)) S = some (.p z, S) := by
  rw [gIx_tup, atI_ok (i := 2) (n := 2) (x := z) rfl rfl]; rfl
theorem eq_way (h : Hd) : decide (sort h = ("way" : Str)) = match h with | .way _ _ => true | _ => false := by
  cases h with
  | all => exact (by decide +kernel : decide (("all" : Str) = "way") = false)
  | none => exact (by decide +kernel : decide (("none" : Str) = "way") = false)
  | way a b => exact (by decide +kernel : decide (("way" : Str) = "way") = true)
  | box ps => exact (by decide +kernel : decide (("box" : Str) = "way") = false)
  | pick ps => exact (by decide +kernel : decide (("pick" : Str) = "way") = false)
  | as_ a => exact (by decide +kernel : decide (("as" : Str) = "way") = false)
theorem eq_box (h : Hd) : decide (sort h = ("box" : Str)) = match h with | .box _ => true | _ => false := by
  cases h with
  | all => exact (by decide +kernel : decide (("all" : Str) = "box") = false)
  | none => exact (by decide +kernel : decide (("none" : Str) = "box") = false)
  | way a b => exact (by decide +kernel : decide (("way" : Str) = "box") = false)
  | box ps => exact (by decide +kernel : decide (("box" : Str) = "box") = true)
  | pick ps => exact (by decide +kernel : decide (("pick" : Str) = "box") = false)
  | as_ a => exact (by decide +kernel : decide (("as" : Str) = "box") = false)
theorem eq_pick (h : Hd) : decide (sort h = ("pick" : Str)) = match h with | .pick _ => true | _ => false := by
  cases h with
  | all => exact (by decide +kernel : decide (("all" : Str) = "pick") = false)
  | none => exact (by decide +kernel : decide (("none" : Str) = "pick") = false)
  | way a b => exact (by decide +kernel : decide (("way" : Str) = "pick") = false)
  | box ps => exact (by decide +kernel : decide (("box" : Str) = "pick") = false)
  | pick ps => exact (by decide +kernel : decide (("pick" : Str) = "pick") = true)
  | as_ a => exact (by decide +kernel : decide (("as" : Str) = "pick") = false)
theorem tupN2 {i j : Nat} {x y : P} {ds : DS} : gTupN [i, j] (.p (.tup [x, y])) ds S = some ((ds.set i (some (.p x))).set j (some (.p y)), S) := rfl
end
end CKP
/-! LOR: _law_row_here, _law_head_here walked. -/
namespace CKP
open PySem PySem.Spec PyProof.Rows L2 CK

section
variable {T : Tel} {S : DH}
theorem row_here_ok (wf : WF T) {n : Str} (hn : n ∈ names T) : g__law_row_here [.p (telP T), .p (.str n)] S = some (.p (.str (rowOf T n)), S) := by
  obtain ⟨ρ, h1, h2⟩ := wf.rk
  obtain ⟨r, hr, e⟩ := List.mem_map.mp hn
  have hw := sWhile_of (while_row (S := S) wf h2 (i := 2) (j := 1) (ds := fun n => [some (.p (telP T)), some (.p (.str n)), some (.p (.dK (rowsK T)))]) (fun _ => rfl) (fun _ => rfl) (fun _ _ => rfl) T.length n hn (by rw [← e]; exact h1 r hr))
  have hd := dict_tel (S := S) wf.nd
  have hb : b__law_row_here [some (.p (telP T)), some (.p (.str n)), none] S = some (.rt (.p (.str (rowOf T n))), S) := by
    unfold b__law_row_here
    have s1 : (sAsg (fCall gDict (aCons (fVar 0) aNil)) (gN 2)) [some (.p (telP T)), some (.p (.str n)), none] S = some (.nx [some (.p (telP T)), some (.p (.str n)), some (.p (.dK (rowsK T)))], S) := by simp [hd]
    rw [sSeq_eq, s1]
    dsimp only
    rw [sSeq_eq, hw]
    rfl
  exact (gFn_rt hb).trans leave_same
theorem head_here_ok (wf : WF T) {n : Str} (hn : n ∈ names T) {h : Hd} (hd : hdOf T (rowOf T n) = some h) : g__law_head_here [.p (telP T), .p (.str n)] S = some (.p (hdP h), S) := by
  have e1 := row_here_ok (S := S) wf hn
  have e2 : gIx (.p (.dK (rowsK T))) (.p (.str (rowOf T n))) S = some (.p (hdP h), S) := by rw [ix_rows, hd]; rfl
  have e3 := dict_tel (S := S) wf.nd
  have hb : b__law_head_here [some (.p (telP T)), some (.p (.str n))] S = some (.rt (.p (hdP h)), S) := by
    unfold b__law_head_here
    simp [e1, e2, e3]
  exact (gFn_rt hb).trans leave_same
end
end CKP
/-! NX: the pen [script, at, cell] of the laws, and its draws by an invariant. -/
namespace CKP
open PySem PySem.Spec PyProof.Rows L2 CK

/-! ### draws -/
def penO (ns : List Int) (a c : Int) : DO := .lst [.p (.flst (ns.map .int)), .p (.int a), .p (.int c)]
theorem fill_ok (x a : Int) (S : DH) : ∃ v, g__law_fill [.p (.int x), .p (.int a)] S = some (.p (.int v), S) := by
  have hp : powOk 10 18 = true := by decide
  have hb : ∃ v, b__law_fill [some (.p (.int x)), some (.p (.int a)), none] S = some (.rt (.p (.int v)), S) := by
    unfold b__law_fill
    by_cases h : (1000000000000000000 : Int) ≤ x
    · exact ⟨x, by simp [hp, h]⟩
    · have hx1 : 0 ≤ ((x % 2147483647 * 48271 + a * 69621 + 11) % 2147483629) ∧ ((x % 2147483647 * 48271 + a * 69621 + 11) % 2147483629) < 2147483629 := ⟨Int.emod_nonneg _ (by decide), Int.emod_lt_of_pos _ (by decide)⟩
      generalize hy : ((x % 2147483647 * 48271 + a * 69621 + 11) % 2147483629) = y at hx1
      have hz1 : 0 ≤ ((y * y + 48271 * y + a) % 2147483587) ∧ ((y * y + 48271 * y + a) % 2147483587) < 2147483587 := ⟨Int.emod_nonneg _ (by decide), Int.emod_lt_of_pos _ (by decide)⟩
      generalize hz : ((y * y + 48271 * y + a) % 2147483587) = z at hz1
      have m1 : mulOk (x % 2147483647) 48271 = true := mulOk_r (by decide) (by decide)
      have m2 : mulOk a 69621 = true := mulOk_r (by decide) (by decide)
      have m3 : mulOk y y = true := mulOk_l (by omega) (by omega)
      have m4 : mulOk 48271 y = true := mulOk_l (by decide) (by decide)
      have m5 : mulOk z 2147483579 = true := mulOk_r (by decide) (by decide)
      have m6 : mulOk z z = true := mulOk_l (by omega) (by omega)
      have m7 : mulOk 69621 a = true := mulOk_l (by decide) (by decide)
      have o1 : modOk x 2147483647 = true := modOk_of (by decide)
      have o2 : ∀ i, modOk i 2147483629 = true := fun _ => modOk_of (by decide)
      have o3 : ∀ i, modOk i 2147483587 = true := fun _ => modOk_of (by decide)
      have o4 : ∀ i, modOk i 2147483579 = true := fun _ => modOk_of (by decide)
      exact ⟨z * 2147483579 + (z * z + 69621 * a) % 2147483579, by simp [hp, h, m1, m2, m3, m4, m5, m6, m7, o1, o2, o3, o4, hy, hz]⟩
  obtain ⟨v, hb⟩ := hb
  exact ⟨v, (gFn_rt hb).trans leave_same⟩
theorem ix_pen0 {S : DH} {i : Nat} {ns : List Int} {a c : Int} (h : S[i]? = some (penO ns a c)) : gIx (.ref i) (.p (.int 0)) S = some (.p (.flst (ns.map .int)), S) := by
  rw [gIx_ref h]; rfl
theorem ix_pen1 {S : DH} {i : Nat} {ns : List Int} {a c : Int} (h : S[i]? = some (penO ns a c)) : gIx (.ref i) (.p (.int 1)) S = some (.p (.int a), S) := by
  rw [gIx_ref h]; rfl
theorem ix_pen2 {S : DH} {i : Nat} {ns : List Int} {a c : Int} (h : S[i]? = some (penO ns a c)) : gIx (.ref i) (.p (.int 2)) S = some (.p (.int c), S) := by
  rw [gIx_ref h]; rfl
theorem set_pen1 {S : DH} {i : Nat} {ns : List Int} {a c a' : Int} (h : S[i]? = some (penO ns a c)) : gSetA (.ref i) (.p (.int 1)) (.p (.int a')) S = some (S.set i (penO ns a' c)) := by
  rw [gSetA_lst (j := 1) h rfl]; rfl
theorem set_pen2 {S : DH} {i : Nat} {ns : List Int} {a c c' : Int} (h : S[i]? = some (penO ns a c)) : gSetA (.ref i) (.p (.int 2)) (.p (.int c')) S = some (S.set i (penO ns a c')) := by
  rw [gSetA_lst (j := 2) h rfl]; rfl
theorem cell_at {ns : List Int} {a : Int} (h0 : 0 ≤ a) (h1 : a < ns.length) : ∃ v, atI (ns.map P.int) a = some (.int v) := by
  have hn : a.toNat < ns.length := by omega
  refine ⟨ns[a.toNat], ?_⟩
  refine atI_ok (n := a.toNat) ?_ (by omega)
  rw [List.getElem?_map, List.getElem?_eq_getElem hn]; rfl
theorem pen_safe {S : DH} {i : Nat} {ns : List Int} {a c : Int} : Safe S (S.set i (penO ns a c)) := fun j o hj h => by
  by_cases e : i = j
  · subst e
    rw [List.getElem?_set_self hj] at h
    cases h
    exact .inr rfl
  · rw [List.getElem?_set_ne e] at h
    exact .inl h
theorem next_ok {S : DH} {i : Nat} {ns : List Int} {a c many : Int} (hS : S[i]? = some (penO ns a c)) (ha : 0 ≤ a) (hm : 0 < many) (hm2 : many < 2 ^ 64) :
    ∃ r a' c', g__law_next [.ref i, .p (.int many)] S = some (.p (.int r), S.set i (penO ns a' c')) ∧ 0 ≤ r ∧ r < many ∧ 0 ≤ a' := by
  have om : ∀ z, modOk z many = true := fun _ => modOk_of hm
  have od : ∀ z, divOk z many = true := fun _ => divOk_of hm hm2
  have fin : ∀ {a' c' : Int}, 0 ≤ a' → b__law_next [some (.ref i), some (.p (.int many)), none, none, none] S = some (.rt (.p (.int (c' % many))), S.set i (penO ns a' (c' / many))) →
      ∃ r a' c', g__law_next [.ref i, .p (.int many)] S = some (.p (.int r), S.set i (penO ns a' c')) ∧ 0 ≤ r ∧ r < many ∧ 0 ≤ a' := fun {a' c'} h hb =>
    ⟨_, a', _, (gFn_rt hb).trans (leave_len (by rw [List.length_set]) pen_safe), Int.emod_nonneg _ (by omega), Int.emod_lt_of_pos _ hm, h⟩
  have e2 := ix_pen2 hS
  by_cases hc : c < many
  · have e0 := ix_pen0 hS
    have e1 := ix_pen1 hS
    -- the cell
    have tail : ∀ v : Int, ∃ w, (∀ ds0 : Option D, (sSeq (sAsg (fBin gAdd (fVar 3) (fC (.int 1))) (gSet (fVar 0) (fC (.int 1)) gSetA))
        (sAsg (fCall g__law_fill (aCons (fVar 4) (aCons (fVar 3) aNil))) (gSet (fVar 0) (fC (.int 2)) gSetA))) [some (.ref i), some (.p (.int many)), ds0, some (.p (.int a)), some (.p (.int v))] S =
        some (.nx [some (.ref i), some (.p (.int many)), ds0, some (.p (.int a)), some (.p (.int v))], S.set i (penO ns (a + 1) w))) := fun v => by
      obtain ⟨w, hw⟩ := fill_ok v a (S.set i (penO ns (a + 1) c))
      refine ⟨w, fun ds0 => ?_⟩
      have s1 := set_pen1 (a' := a + 1) hS
      have s2 := set_pen2 (c' := w) (set_get (o' := penO ns (a + 1) c) hS)
      rw [List.set_set] at s2
      simp [s1, hw, s2]
    have close : ∀ w : Int, b__law_next [some (.ref i), some (.p (.int many)), none, none, none] S = some (.rt (.p (.int (w % many))), S.set i (penO ns (a + 1) (w / many))) →
      ∃ r a' c', g__law_next [.ref i, .p (.int many)] S = some (.p (.int r), S.set i (penO ns a' c')) ∧ 0 ≤ r ∧ r < many ∧ 0 ≤ a' := fun w h => fin (by omega) h
    have fetch : ∀ w : Int, gIx (.ref i) (.p (.int 2)) (S.set i (penO ns (a + 1) w)) = some (.p (.int w), S.set i (penO ns (a + 1) w)) := fun w => ix_pen2 (set_get hS)
    have store : ∀ w w' : Int, gSetA (.ref i) (.p (.int 2)) (.p (.int w')) (S.set i (penO ns (a + 1) w)) = some (S.set i (penO ns (a + 1) w')) := fun w w' => by
      rw [set_pen2 (c' := w') (set_get hS), List.set_set]
    by_cases h1 : a < ns.length
    · obtain ⟨v, hv⟩ := cell_at ha h1
      obtain ⟨w, hw⟩ := tail v
      have hw := hw none
      refine close w ?_
      unfold b__law_next
      simp only [sSeq_eq, sAsg_eq] at hw
      simp [e0, e1, e2, hc, h1, hv] at hw ⊢
      rw [hw]
      simp [fetch, store, om, od]
    · by_cases h2 : 0 < ns.length
      · have hl : (0 : Int) < ns.length := by omega
        have hq0 : 0 ≤ a * 7 % ns.length := Int.emod_nonneg _ (by omega)
        have hq1 : a * 7 % ns.length < ns.length := Int.emod_lt_of_pos _ hl
        obtain ⟨v, hv⟩ := cell_at hq0 hq1
        obtain ⟨w, hw⟩ := tail (v % 1000003 + a * 1000003)
        have hw := hw none
        refine close w ?_
        have k1 : mulOk a 7 = true := mulOk_r (by decide) (by decide)
        have k2 : mulOk a 1000003 = true := mulOk_r (by decide) (by decide)
        have k3 : modOk (a * 7) ns.length = true := modOk_of hl
        have k4 : modOk v 1000003 = true := modOk_of (by decide)
        unfold b__law_next
        simp only [sSeq_eq, sAsg_eq] at hw
        simp [e0, e1, e2, hc, h1, h2, hv, k1, k2, k3, k4] at hw ⊢
        rw [hw]
        simp [fetch, store, om, od]
      · obtain ⟨w, hw⟩ := tail 0
        have hw := hw none
        refine close w ?_
        unfold b__law_next
        simp only [sSeq_eq, sAsg_eq] at hw
        simp [e0, e1, e2, hc, h1, h2] at hw ⊢
        rw [hw]
        simp [fetch, store, om, od]
  · refine fin (a' := a) (c' := c) ha ?_
    have s2 := set_pen2 (c' := c / many) hS
    unfold b__law_next
    simp [e2, hc, om, od, s2]
/-- the pen stands at i, the rest is S0's -/
def QI (S0 : DH) (i : Nat) (ns : List Int) (S : DH) : Prop := ∃ a c, S = S0.set i (penO ns a c) ∧ 0 ≤ a
theorem QI.len {S0 : DH} {i : Nat} {ns : List Int} {S : DH} (h : QI S0 i ns S) : S.length = S0.length := by
  obtain ⟨a, c, rfl, _⟩ := h
  rw [List.length_set]
theorem QI.safe {S0 : DH} {i : Nat} {ns : List Int} {S S' : DH} (h : QI S0 i ns S) (q : QI S0 i ns S') {X : DH} : Safe (S ++ X) (S' ++ X) := fun j o hj e => by
  have hl := h.len
  have hl' := q.len
  obtain ⟨a, c, rfl, _⟩ := h
  obtain ⟨a', c', rfl, _⟩ := q
  by_cases hjl : j < S0.length
  · rw [List.getElem?_append_left (by omega)] at e ⊢
    by_cases e2 : i = j
    · subst e2
      rw [List.getElem?_set_self hjl] at e
      cases e
      exact .inr rfl
    · rw [List.getElem?_set_ne e2] at e ⊢
      exact .inl e
  · rw [List.getElem?_append_right (by omega), hl'] at e
    rw [List.getElem?_append_right (by omega), hl]
    exact .inl e
theorem QI.ls {S0 : DH} {i : Nat} {ns : List Int} {S S' X : DH} (h : QI S0 i ns S) (q : QI S0 i ns S') : (S' ++ X).length = (S ++ X).length ∧ Safe (S ++ X) (S' ++ X) := ⟨by simp [q.len, h.len], h.safe q⟩
theorem QI.next {S0 : DH} {i : Nat} {ns : List Int} {S X : DH} {many : Int} (h : QI S0 i ns S) (hi : i < S0.length) (hm : 0 < many) (hm2 : many < 2 ^ 64) :
    ∃ r S', g__law_next [.ref i, .p (.int many)] (S ++ X) = some (.p (.int r), S' ++ X) ∧ 0 ≤ r ∧ r < many ∧ QI S0 i ns S' := by
  obtain ⟨a, c, rfl, h0⟩ := h
  have e : (S0.set i (penO ns a c) ++ X)[i]? = some (penO ns a c) := by
    rw [List.getElem?_append_left (by rw [List.length_set]; exact hi)]
    exact List.getElem?_set_self hi
  obtain ⟨r, a', c', e1, e2, e3, e4⟩ := next_ok e h0 hm hm2
  refine ⟨r, S0.set i (penO ns a' c'), ?_, e2, e3, a', c', rfl, e4⟩
  rw [e1, List.set_append_left _ _ (by rw [List.length_set]; exact hi), List.set_set]
theorem QI.next0 {S0 : DH} {i : Nat} {ns : List Int} {S : DH} {many : Int} (h : QI S0 i ns S) (hi : i < S0.length) (hm : 0 < many) (hm2 : many < 2 ^ 64) :
    ∃ r S', g__law_next [.ref i, .p (.int many)] S = some (.p (.int r), S') ∧ 0 ≤ r ∧ r < many ∧ QI S0 i ns S' := by
  obtain ⟨r, S', e, h1, h2, h3⟩ := h.next (X := []) hi hm hm2
  rw [List.append_nil, List.append_nil] at e
  exact ⟨r, S', e, h1, h2, h3⟩
/-- a text or the like drawn from a list -/
theorem pick_at {l : List P} {r : Int} {S : DH} (h0 : 0 ≤ r) (h1 : r < l.length) : ∃ x ∈ l, gIx (.p (.lst l)) (.p (.int r)) S = some (.p x, S) := by
  obtain ⟨x, hx, e⟩ := atI_mem h0 h1
  exact ⟨x, hx, by rw [gIx_lst, e]; rfl⟩
end CKP
/-! PLN: plain bits of drawn things: words, names, tellings; lists left. -/
namespace CKP
open PySem PySem.Spec PyProof.Rows L2 CK

def wA : List Str := ["a", "ab", "b", "ba"]
def wB : List Str := ["case", "from", "part", "to"]
def okWords (ws : List Str) : Prop := ws.Sublist wA ∨ ws.Sublist wB
theorem okWords_ok {ws : List Str} (h : okWords ws) : (∀ w ∈ ws, PyData.strOk w = true ∧ 1 ≤ w.length ∧ w.length ≤ 4) ∧ ws.length ≤ 4 := by
  have hA : ∀ w ∈ wA, PyData.strOk w = true ∧ 1 ≤ w.length ∧ w.length ≤ 4 := by decide +kernel
  have hB : ∀ w ∈ wB, PyData.strOk w = true ∧ 1 ≤ w.length ∧ w.length ≤ 4 := by decide +kernel
  rcases h with h | h
  · exact ⟨fun w hw => hA w (h.subset hw), h.length_le⟩
  · exact ⟨fun w hw => hB w (h.subset hw), h.length_le⟩
theorem mapO_p {n0 f : Nat} {S : DH} : ∀ l : List P, mapO (freeze n0 S f) (l.map D.p) = some l
  | [] => rfl
  | x :: r => by
    have h : freeze n0 S f (.p x) = some x := by cases f <;> rfl
    rw [List.map_cons]
    unfold mapO
    rw [h, mapO_p r]
theorem leave_lst {S0 : DH} {k : Nat} {S : DH} {l : List P} (h : S[k]? = some (.lst (l.map .p))) (hk : ¬ k < S0.length) (hs : Safe S0 S) : leave false S0 (.ref k) S = some (.p (.lst l), S.take S0.length) := by
  unfold leave
  rw [if_neg (by decide), if_pos hs]
  generalize S0.length = n0 at hk ⊢
  show (if k < n0 then some (D.ref k, S.take n0) else (freeze n0 S 4 (.ref k)).map fun x => (.p x, S.take n0)) = _
  rw [if_neg hk]
  have : freeze n0 S 4 (.ref k) = some (.lst l) := by
    show (if k < n0 then none else match S[k]? with | some (.lst l) => (mapO (freeze n0 S 3) l).map P.lst | _ => none) = _
    rw [if_neg hk, h]
    dsimp only
    rw [mapO_p]; rfl
  rw [this]; rfl
theorem append_ref {S : DH} {i : Nat} {l : List P} {x : P} (h : S[i]? = some (.lst (l.map .p))) (hl : l.length < 16777216) : gAppend (.ref i) [.p x] S = some (.p .non, S.set i (.lst ((l ++ [x]).map .p))) := by
  rw [gAppend_p h (by rw [List.length_map]; exact hl), List.map_append]; rfl
theorem isTy_ref {S : DH} {i : Nat} {l : List D} (h : S[i]? = some (.lst l)) : isTy "list" (.ref i) S = true := by
  show (match S[i]? with | some (DO.lst _) => "list" == "list" | _ => false) = true
  rw [h]; rfl

/-! ### turned about -/
def eight : List Str := ["x", "xa", "xb", "y", "ya", "z", "ka", "kb"]
theorem eight_ok : eight.Nodup ∧ (∀ n ∈ eight, PyData.strOk n = true ∧ 1 ≤ n.length ∧ n.length ≤ 2) ∧ ∀ n ∈ eight, n.cps.toList.all letter = true := by decide +kernel
theorem plain_str {x : Str} (h : PyData.strOk x = true) : plainP (.str x) := ⟨h, by show 0 ≤ 32; decide⟩
theorem plain_hd {d : Hd} (h1 : ∀ a ∈ refs d, PyData.strOk a = true) (h2 : ∀ w ∈ CK.wordsOf d, PyData.strOk w = true) : clean (un (hdP d)) = true ∧ pdep (un (hdP d)) ≤ 4 := by
  have pr : ∀ ps : List (Str × Str), (∀ q ∈ ps, PyData.strOk q.1 = true ∧ PyData.strOk q.2 = true) → cleans (uns (ps.map prP)) = true ∧ pdeps (uns (ps.map prP)) ≤ 1 := by
    intro ps hq
    rw [uns_map]
    refine ⟨cleans_all fun x hx => ?_, pdeps_le fun x hx => ?_⟩
    · obtain ⟨q, hm, rfl⟩ := List.mem_map.mp hx
      obtain ⟨g1, g2⟩ := hq q hm
      show (PyData.strOk q.1 && (PyData.strOk q.2 && true)) = true
      rw [g1, g2]; rfl
    · obtain ⟨q, hm, rfl⟩ := List.mem_map.mp hx
      exact Nat.le_refl _
  cases d with
  | all => exact ⟨by decide +kernel, by decide⟩
  | none => exact ⟨by decide +kernel, by decide⟩
  | way a b =>
    refine ⟨?_, by show 1 ≤ 4; decide⟩
    show (PyData.strOk "way" && (PyData.strOk a && (PyData.strOk b && true))) = true
    rw [h1 a (by simp [refs]), h1 b (by simp [refs])]; decide +kernel
  | as_ a =>
    refine ⟨?_, by show 1 ≤ 4; decide⟩
    show (PyData.strOk "as" && (PyData.strOk a && true)) = true
    rw [h1 a (by simp [refs])]; decide +kernel
  | box ps =>
    obtain ⟨g1, g2⟩ := pr ps fun q hq => ⟨h2 _ (List.mem_map.mpr ⟨q, hq, rfl⟩), h1 _ (List.mem_map.mpr ⟨q, hq, rfl⟩)⟩
    refine ⟨?_, ?_⟩
    · show (PyData.strOk "box" && (cleans (uns (ps.map prP)) && true)) = true
      rw [g1]; decide +kernel
    · show max 0 (max (pdeps (uns (ps.map prP)) + 1) 0) + 1 ≤ 4
      omega
  | pick ps =>
    obtain ⟨g1, g2⟩ := pr ps fun q hq => ⟨h2 _ (List.mem_map.mpr ⟨q, hq, rfl⟩), h1 _ (List.mem_map.mpr ⟨q, hq, rfl⟩)⟩
    refine ⟨?_, ?_⟩
    · show (PyData.strOk "pick" && (cleans (uns (ps.map prP)) && true)) = true
      rw [g1]; decide +kernel
    · show max 0 (max (pdeps (uns (ps.map prP)) + 1) 0) + 1 ≤ 4
      omega
theorem plain_row {r : Str × Hd} (h0 : PyData.strOk r.1 = true) (h1 : ∀ a ∈ refs r.2, PyData.strOk a = true) (h2 : ∀ w ∈ CK.wordsOf r.2, PyData.strOk w = true) : plainP (rowP r) := by
  obtain ⟨g1, g2⟩ := plain_hd h1 h2
  refine ⟨?_, ?_⟩
  · show (PyData.strOk r.1 && (clean (un (hdP r.2)) && true)) = true
    rw [h0, g1]; rfl
  · show max 0 (max (pdep (un (hdP r.2))) 0) + 1 ≤ 32
    omega
theorem perm_map_inv {α β : Type} {f : α → β} : ∀ {l : List α} {m : List β}, m.Perm (l.map f) → ∃ l' : List α, m = l'.map f ∧ l'.Perm l := by
  intro l m h
  generalize hb : l.map f = b at h
  induction h generalizing l with
  | nil => exact ⟨[], rfl, by rw [List.map_eq_nil_iff.mp hb]⟩
  | cons x _ ih =>
    cases l with
    | nil => cases hb
    | cons y t =>
      rw [List.map_cons, List.cons.injEq] at hb
      obtain ⟨t', e, p⟩ := ih hb.2
      exact ⟨y :: t', by rw [e, ← hb.1]; rfl, p.cons y⟩
  | swap x y t =>
    cases l with
    | nil => cases hb
    | cons a l =>
      cases l with
      | nil => cases hb
      | cons b l =>
        rw [List.map_cons, List.map_cons, List.cons.injEq, List.cons.injEq] at hb
        obtain ⟨h1, h2, h3⟩ := hb
        exact ⟨b :: a :: l, by rw [← h1, ← h2, ← h3]; rfl, List.Perm.swap a b l⟩
  | trans _ _ ih1 ih2 =>
    obtain ⟨l1, e1, p1⟩ := ih2 hb
    obtain ⟨l2, e2, p2⟩ := ih1 e1.symm
    exact ⟨l2, e2, p2.trans p1⟩

structure Told (T : Tel) : Prop where
  wf : WF T
  ne : T ≠ []
  len : T.length ≤ 8
  nm : ∀ n ∈ names T, n ∈ eight
  wd : ∀ r ∈ T, okWords (CK.wordsOf r.2)
structure Tld (T : Tel) : Prop where
  wf : WF T
  ne : T ≠ []
  len : T.length ≤ 16
  nl : ∀ n ∈ names T, n.length ≤ 8
  wd : ∀ r ∈ T, okWords (CK.wordsOf r.2)
theorem Told.tld {T : Tel} (t : Told T) : Tld T := ⟨t.wf, t.ne, by have := t.len; omega, fun n hn => by have := (eight_ok.2.1 n (t.nm n hn)).2.2; omega, t.wd⟩
theorem cut_dropN {α : Type} (l : List α) (n : Nat) : cut l (some (n : Int)) none = l.drop n := by
  unfold cut
  have h1 : HT.sIx l.length 0 (some (n : Int)) = min n l.length := HT.sIx_nat _ _ _
  have h2 : HT.sIx l.length l.length none = l.length := rfl
  rw [h1, h2]
  rcases Nat.le_total n l.length with h | h
  · rw [Nat.min_eq_left h, List.take_of_length_le (by rw [List.length_drop]; omega)]
  · rw [Nat.min_eq_right h, List.drop_length, List.drop_eq_nil_of_le h]; simp
end CKP
/-! TN: the drawn telling. -/
namespace CKP
open PySem PySem.Spec PyProof.Rows L2 CK

/-! ### two lists at the end of the own heap -/
section
variable {S : DH} {a b c : DO} {n : Nat}
theorem two_a (h : S.length = n) : (S ++ [a, b])[n]? = some a := by subst h; simp
theorem two_b (h : S.length = n) : (S ++ [a, b])[n + 1]? = some b := by subst h; simp
theorem two_sa (h : S.length = n) : (S ++ [a, b]).set n c = S ++ [c, b] := by subst h; simp
theorem two_sb (h : S.length = n) : (S ++ [a, b]).set (n + 1) c = S ++ [a, c] := by subst h; simp
theorem one_a (h : S.length = n) : (S ++ [a])[n]? = some a := by subst h; simp
theorem one_sa (h : S.length = n) : (S ++ [a]).set n c = S ++ [c] := by subst h; simp
end
theorem pick_perm {α : Type} : ∀ (l : List α) (n : Nat) (h : n < l.length), (l[n] :: l.eraseIdx n).Perm l
  | x :: t, 0, _ => List.Perm.refl _
  | x :: t, n + 1, h => by
    have h' : n < t.length := by simpa using h
    show (t[n] :: x :: t.eraseIdx n).Perm (x :: t)
    exact (List.Perm.swap x t[n] _).trans ((pick_perm t n h').cons x)
theorem map_erase {α β : Type} (f : α → β) : ∀ (l : List α) (n : Nat), (l.map f).eraseIdx n = (l.eraseIdx n).map f
  | [], _ => by simp
  | x :: t, 0 => rfl
  | x :: t, n + 1 => by show f x :: (t.map f).eraseIdx n = _; rw [map_erase f t n]; rfl
theorem popAt_ref {S : DH} {i : Nat} {l : List P} {r : Int} (h : S[i]? = some (.lst (l.map .p))) (h0 : 0 ≤ r) (h1 : r < l.length) (hl : l.length ≤ 1000) : ∃ x ∈ l, gPopAt (.ref i) [.p (.int r)] S = some (.p x, S.set i (.lst ((l.eraseIdx r.toNat).map .p))) ∧ (x :: l.eraseIdx r.toNat).Perm l := by
  have hn : r.toNat < l.length := by omega
  refine ⟨l[r.toNat], List.getElem_mem _, ?_, pick_perm l _ hn⟩
  have e : ixN (l.map D.p).length r = some r.toNat := by
    unfold ixN
    rw [List.length_map]
    simp [h0, h1]
  have g : (l.map D.p)[r.toNat]? = some (.p l[r.toNat]) := by rw [List.getElem?_map, List.getElem?_eq_getElem hn]; rfl
  simp only [gPopAt, h, e, g, map_erase]
  rw [if_pos (by omega)]
theorem turned_loop {S0 X : DH} {i n : Nat} {ns : List Int} {x : D} (hi : i < S0.length) (hn : S0.length + X.length = n) : ∀ (m : Nat) (left found : List P) (S : DH), left.length = m → QI S0 i ns S → (∀ y ∈ left, plainP y) → found.length + left.length ≤ 1000 →
    ∃ (fin : List P) (S' : DH), whileL (fTest (fBin gNe (fVar 2) (fLst aNil)))
  (sExpr (fMeth "list" gAppend (fVar 3) (aCons (fMeth "list" gPopAt (fVar 2) (aCons (fCall g__law_next (aCons (fVar 0) (aCons (fCall gLen (aCons (fVar 2) aNil)) aNil))) aNil)) aNil))) (m + 1) [some (.ref i), some x, some (.ref n), some (.ref (n + 1))] (S ++ X ++ [.lst (left.map .p), .lst (found.map .p)]) =
      some (.nx [some (.ref i), some x, some (.ref n), some (.ref (n + 1))], S' ++ X ++ [.lst [], .lst (fin.map .p)]) ∧ fin.Perm (found ++ left) ∧ QI S0 i ns S' := by
  intro m
  induction m with
  | zero =>
    intro left found S hm h hp hl
    have : left = [] := List.eq_nil_of_length_eq_zero hm
    subst this
    have hs : (S ++ X).length = n := by rw [List.length_append, h.len, hn]
    have e1 := gNe_nil (l := []) (two_a (a := .lst []) (b := .lst (found.map .p)) hs) hp
    refine ⟨found, S, ?_, by simp, h⟩
    unfold whileL
    simp [-List.append_assoc, e1]
  | succ m ih =>
    intro left found S hm h hp hl
    have hs : (S ++ X).length = n := by rw [List.length_append, h.len, hn]
    have e1 := gNe_nil (two_a (a := .lst (left.map .p)) (b := .lst (found.map .p)) hs) hp
    have hne : left.isEmpty = false := by
      cases left with
      | nil => simp at hm
      | cons y t => rfl
    rw [hne] at e1
    have e2 := gLen_ref (two_a (a := .lst (left.map .p)) (b := .lst (found.map .p)) hs)
    obtain ⟨r, S1, e3, h1, h2, q1⟩ := h.next (X := X ++ [.lst (left.map .p), .lst (found.map .p)]) (many := left.length) hi (by omega) (by omega)
    rw [← List.append_assoc, ← List.append_assoc] at e3
    have hs1 : (S1 ++ X).length = n := by rw [List.length_append, q1.len, hn]
    obtain ⟨y, hy, e4, pm⟩ := popAt_ref (two_a (a := .lst (left.map .p)) (b := .lst (found.map .p)) hs1) h1 h2 (by omega)
    rw [two_sa hs1] at e4
    have e5 := append_ref (x := y) (two_b (a := .lst ((left.eraseIdx r.toNat).map .p)) (b := .lst (found.map .p)) hs1) (by omega)
    rw [two_sb hs1] at e5
    have t1 := isTy_ref (two_b (a := .lst (left.map .p)) (b := .lst (found.map .p)) hs)
    have t2 := isTy_ref (two_a (a := .lst (left.map .p)) (b := .lst (found.map .p)) hs)
    have l1 : (left.eraseIdx r.toNat).length = m := by
      have := pm.length_eq
      rw [List.length_cons] at this
      omega
    obtain ⟨fin, S', e6, p6, q6⟩ := ih (left.eraseIdx r.toNat) (found ++ [y]) S1 l1 q1 (fun z hz => hp z (pm.subset (List.mem_cons_of_mem _ hz))) (by rw [List.length_append, List.length_singleton]; omega)
    refine ⟨fin, S', ?_, p6.trans ?_, q6⟩
    · rw [List.length_map] at e2
      unfold whileL
      simp [-List.append_assoc, -List.map_append, e1, e2, e3, e4, e5, t1, t2, e6]
    · rw [List.append_assoc]
      exact List.Perm.append_left _ pm
theorem turned_ok {S0 S X : DH} {i : Nat} {ns : List Int} {x : D} {l : List P} (h : QI S0 i ns S) (hi : i < S0.length) (hx : seqD (S ++ X) x = some (l.map .p)) (hp : ∀ y ∈ l, plainP y) (hl : l.length ≤ 1000) :
    ∃ (fin : List P) (S' : DH), g__law_turned [.ref i, x] (S ++ X) = some (.p (.lst fin), S' ++ X) ∧ fin.Perm l ∧ QI S0 i ns S' := by
  have hn : S0.length + X.length = (S ++ X).length := by rw [List.length_append, h.len]
  obtain ⟨fin, S', e, p, q⟩ := turned_loop (x := x) hi hn l.length l [] S rfl h hp (by simpa using hl)
  have hs' : (S' ++ X).length = (S ++ X).length := by rw [List.length_append, List.length_append, q.len, h.len]
  refine ⟨fin, S', ?_, by simpa using p, q⟩
  have e := sWhile_of e
  have hb : b__law_turned [some (.ref i), some x, none, none] (S ++ X) = some (.rt (.ref ((S ++ X).length + 1)), S' ++ X ++ [.lst [], .lst (fin.map .p)]) := by
    unfold b__law_turned
    have g1 : gListH [x] (S ++ X) = some (.ref (S ++ X).length, S ++ X ++ [.lst (l.map .p)]) := by
      unfold gListH; dsimp only; rw [hx]
    have a1 : S ++ X ++ [.lst (l.map .p)] ++ [.lst []] = S ++ X ++ [.lst (l.map .p), .lst (([] : List P).map .p)] := by simp
    have a2 : (S ++ X ++ [DO.lst (l.map .p)]).length = (S ++ X).length + 1 := by rw [List.length_append]; rfl
    have s1 : (sAsg (fCall gListH (aCons (fVar 1) aNil)) (gN 2)) [some (.ref i), some x, none, none] (S ++ X) = some (.nx [some (.ref i), some x, some (.ref (S ++ X).length), none], S ++ X ++ [.lst (l.map .p)]) := by simp [-List.append_assoc, -List.length_append, g1]
    have s2 : (sAsg (fLstH aNil) (gN 3)) [some (.ref i), some x, some (.ref (S ++ X).length), none] (S ++ X ++ [.lst (l.map .p)]) = some (.nx [some (.ref i), some x, some (.ref (S ++ X).length), some (.ref ((S ++ X).length + 1))], S ++ X ++ [.lst (l.map .p), .lst (([] : List P).map .p)]) := by
      rw [← a1, ← a2]; simp [-List.append_assoc, -List.length_append]
    rw [sSeq_eq, s1]
    dsimp only
    rw [sSeq_eq, s2]
    dsimp only
    rw [sSeq_eq, e]
    simp [-List.append_assoc, -List.length_append]
  refine (gFn_rt hb).trans ?_
  rw [leave_lst (two_b (a := .lst []) hs') (by omega) (Safe.app2 hs' (h.safe q))]
  congr 2
  rw [← hs', List.take_left']; rfl
end CKP
/-! WO (the laws with one list of words): the drawn words. -/
namespace CKP
open PySem PySem.Spec PyProof.Rows L2 CK

section
variable {S0 S X : DH} {i : Nat} {ns : List Int}
theorem words_ok (h : QI S0 i ns S) (hi : i < S0.length) : ∃ (ws : List Str) (S' : DH), g__law_words [.ref i] (S ++ X) = some (.p (.lst (ws.map .str)), S' ++ X) ∧ okWords ws ∧ QI S0 i ns S' := by
  obtain ⟨ws, _, e, s, S2, rfl, q2⟩ := compL_filter (chk := fun _ => True) (g := gN 1) (ft := fTest (fBin gEq (fCall g__law_next (aCons (fVar 0) (aCons (fC (.int 2)) aNil))) (fC (.int 0)))) (fe := fVar 1) (ds0 := [some (.ref i), none]) (Inv := fun T => ∃ S2, T = S2 ++ X ∧ QI S0 i ns S2) (inn := P.str)
    (fun _ _ => trivial) wA 0 (S ++ X) (by decide) ⟨S, rfl, h⟩ (by
      rintro w hw _ ⟨S2, rfl, q2⟩
      obtain ⟨d, S3, e3, _, _, q3⟩ := q2.next (X := X) hi (by decide : (0 : Int) < 2) (by decide)
      exact ⟨[some (.ref i), some (.p (.str w))], S2 ++ X, decide (d = 0), S3 ++ X, by simp, by simp [e3], ⟨S3, rfl, q3⟩, fun _ => by simp⟩)
  refine ⟨ws, S2, ?_, .inl s, q2⟩
  have hb : b__law_words [some (.ref i), none] (S ++ X) = some (.rt (.p (.lst (ws.map .str))), S2 ++ X) := by
    unfold b__law_words
    simp only [wA, List.map] at e
    simp [-List.map_map, itD, wipeD, e]
  exact (gFn_rt hb).trans (leave_len (by rw [List.length_append, List.length_append, q2.len, h.len]) (h.safe q2))
end
end CKP
/-! TM: the drawn telling, heads, rows. -/
namespace CKP
open PySem PySem.Spec PyProof.Rows L2 CK

section
variable {S0 S X : DH} {i : Nat} {ns : List Int}
theorem nm_at {nms : List Str} {r : Int} (h0 : 0 ≤ r) (h1 : r < nms.length) : ∃ a ∈ nms.take (r.toNat + 1), atI (nms.map P.str) r = some (.str a) := by
  have hn : r.toNat < nms.length := by omega
  refine ⟨nms[r.toNat], ?_, ?_⟩
  · rw [List.mem_take_iff_getElem]
    exact ⟨r.toNat, by omega, rfl⟩
  · rw [atI_mp, atI_ok (n := r.toNat) (List.getElem?_eq_getElem hn) (by omega)]; rfl
def okHd (nms : List Str) (k : Nat) (h : Hd) : Prop := (∀ a ∈ refs h, a ∈ nms) ∧ (∀ a, h = .as_ a → a ∈ nms.take k) ∧ okWords (CK.wordsOf h)
theorem ow_nil : okWords [] := .inl (List.nil_sublist _)
theorem head_ok {nms : List Str} {k : Nat} (h : QI S0 i ns S) (hi : i < S0.length) (hk : k ≤ nms.length) (hn : 0 < nms.length) (hm : nms.length ≤ 1000) :
    ∃ (d : Hd) (S' : DH), g__law_head [.ref i, .p (.lst (nms.map .str)), .p (.int k)] (S ++ X) = some (.p (hdP d), S' ++ X) ∧ okHd nms k d ∧ QI S0 i ns S' := by
  have fin : ∀ {d : Hd} {S' : DH}, QI S0 i ns S' → b__law_head [some (.ref i), some (.p (.lst (nms.map .str))), some (.p (.int k)), none, none, none] (S ++ X) = some (.rt (.p (hdP d)), S' ++ X) → okHd nms k d →
      ∃ (d : Hd) (S' : DH), g__law_head [.ref i, .p (.lst (nms.map .str)), .p (.int k)] (S ++ X) = some (.p (hdP d), S' ++ X) ∧ okHd nms k d ∧ QI S0 i ns S' := fun {d S'} q hb ho =>
    ⟨d, S', (gFn_rt hb).trans (leave_len (by rw [List.length_append, List.length_append, q.len, h.len]) (h.safe q)), ho, q⟩
  obtain ⟨w, S1, e1, h1, h2, q1⟩ := h.next (X := X) hi (by decide : (0 : Int) < 10) (by decide)
  have draw : ∀ {S1 : DH}, QI S0 i ns S1 → ∃ (r : Int) (a : Str) (S2 : DH), g__law_next [.ref i, .p (.int nms.length)] (S1 ++ X) = some (.p (.int r), S2 ++ X) ∧ atI (nms.map P.str) r = some (.str a) ∧ a ∈ nms ∧ QI S0 i ns S2 := by
    intro S1 q1
    obtain ⟨r, S2, e, h1, h2, q2⟩ := q1.next (X := X) (many := nms.length) hi (by omega) (by omega)
    obtain ⟨a, ha, g⟩ := nm_at h1 h2
    exact ⟨r, a, S2, e, g, List.mem_of_mem_take ha, q2⟩
  by_cases c1 : w < 2
  · by_cases c0 : w = 0
    · subst c0
      exact fin (d := .all) q1 (by unfold b__law_head; simp [e1, atI_ok (l := [P.tup [.str "all"], P.tup [.str "none"]]) (n := 0) (i := 0) rfl rfl]; rfl) ⟨(fun a ha => by simp [refs] at ha), (fun a e => by cases e), ow_nil⟩
    · have : w = 1 := by omega
      subst this
      exact fin (d := .none) q1 (by unfold b__law_head; simp [e1, atI_ok (l := [P.tup [.str "all"], P.tup [.str "none"]]) (n := 1) (i := 1) rfl rfl]; rfl) ⟨(fun a ha => by simp [refs] at ha), (fun a e => by cases e), ow_nil⟩
  · by_cases c2 : w = 2 ∧ 0 < k
    · obtain ⟨c2, c3⟩ := c2
      subst c2
      obtain ⟨r, S2, e2, h3, h4, q2⟩ := q1.next (X := X) (many := k) hi (by omega) (by omega)
      obtain ⟨a, ha, g⟩ := nm_at (nms := nms) h3 (by omega)
      refine fin (d := .as_ a) q2 (by unfold b__law_head; simp [e1, c3, e2, g]; rfl) ⟨(fun b hb => ?_), (fun b e => ?_), ow_nil⟩
      · simp [refs] at hb; subst hb; exact List.mem_of_mem_take ha
      · cases e
        rw [List.mem_take_iff_getElem] at ha ⊢
        obtain ⟨j, hj, ej⟩ := ha
        exact ⟨j, by omega, ej⟩
    · by_cases c5 : w < 6
      · obtain ⟨r1, a, S2, e2, g2, ma, q2⟩ := draw q1
        obtain ⟨r2, b, S3, e3, g3, mb, q3⟩ := draw q2
        refine fin (d := .way a b) q3 ?_ ⟨(fun x hx => ?_), (fun x e => by cases e), ow_nil⟩
        · unfold b__law_head
          by_cases c4 : w = 2
          · have c6 : k = 0 := by
              rcases Nat.eq_zero_or_pos k with z | z
              · exact z
              · exact absurd ⟨c4, z⟩ c2
            subst c4 c6
            simp [e1, e2, g2, e3, g3]; rfl
          · simp [e1, c1, c4, c5, e2, g2, e3, g3]; rfl
        · simp [refs] at hx; rcases hx with rfl | rfl <;> assumption
      · obtain ⟨ws, S2, e2, ow, q2⟩ := words_ok (X := X) q1 hi
        obtain ⟨qs, _, e3, pr, S3, rfl, q3⟩ := compL_rel (chk := fun _ => True) (g := gN 5) (fe := (fTup (aCons (fVar 5) (aCons (fBin gIx (fVar 1) (fCall g__law_next (aCons (fVar 0) (aCons (fCall gLen (aCons (fVar 1) aNil)) aNil)))) aNil)))) (ds0 := [some (.ref i), some (.p (.lst (nms.map .str))), some (.p (.int k)), some (.p (.int w)), none, none])
          (Inv := fun T => ∃ S2, T = S2 ++ X ∧ QI S0 i ns S2) (inn := fun w => D.p (.str w)) (out := prP) (R := fun (w : Str) (q : Str × Str) => q.1 = w ∧ q.2 ∈ nms) (fun _ _ => trivial) ws 0 (S2 ++ X) (by have := (okWords_ok ow).2; omega) ⟨S2, rfl, q2⟩ (by
            rintro v hv _ ⟨S3, rfl, q3⟩
            obtain ⟨r, a, S4, e, g, ma, q4⟩ := draw q3
            exact ⟨[some (.ref i), some (.p (.lst (nms.map .str))), some (.p (.int k)), some (.p (.int w)), none, some (.p (.str v))], S3 ++ X, (v, a), S4 ++ X, by simp, by simp [e, g, prP], ⟨rfl, ma⟩, S4, rfl, q4⟩)
        have hw : qs.map (·.1) = ws := Paired.maps (fun _ _ h => h.1) pr
        have e3' : compL (fun _ => True) (gN 5) fYes (fTup (aCons (fVar 5) (aCons (fBin gIx (fVar 1) (fCall g__law_next (aCons (fVar 0) (aCons (fCall gLen (aCons (fVar 1) aNil)) aNil)))) aNil))) [some (.ref i), some (.p (.lst (nms.map .str))), some (.p (.int k)), some (.p (.int w)), none, none] 0 ((ws.map P.str).map .p) (S2 ++ X) = some ((qs.map prP).map .p, S3 ++ X) := by
          rw [List.map_map]; exact e3
        have c4 : ¬ w = 2 := by omega
        have om : modOk w 2 = true := modOk_of (by decide)
        have mq : ∀ q ∈ qs, q.2 ∈ nms := fun q hq => by obtain ⟨_, _, h⟩ := Paired.mem_r pr q hq; exact h.2
        have hz : w % 2 = 0 ∨ w % 2 = 1 := by omega
        rcases hz with hz | hz
        · have g : atI [P.str "box", P.str "pick"] (w % 2) = some (.str "box") := by rw [hz]; rfl
          refine fin (d := .box qs) q3 (by unfold b__law_head; simp [-List.map_map, e1, c1, c4, c5, om, g, e2, itD, wipeD, e3', gTuple, lstD]; rfl) ⟨(fun x hx => ?_), (fun x e => by cases e), by rw [show CK.wordsOf (.box qs) = ws from hw]; exact ow⟩
          obtain ⟨q, hq, rfl⟩ := List.mem_map.mp hx
          exact mq q hq
        · have g : atI [P.str "box", P.str "pick"] (w % 2) = some (.str "pick") := by rw [hz]; rfl
          refine fin (d := .pick qs) q3 (by unfold b__law_head; simp [-List.map_map, e1, c1, c4, c5, om, g, e2, itD, wipeD, e3', gTuple, lstD]; rfl) ⟨(fun x hx => ?_), (fun x e => by cases e), by rw [show CK.wordsOf (.pick qs) = ws from hw]; exact ow⟩
          obtain ⟨q, hq, rfl⟩ := List.mem_map.mp hx
          exact mq q hq

/-! ### the telling -/
/-- the rows by their numbers -/
def Rows (nms : List Str) (rows : Tel) : Prop := rows.map (·.1) = nms.take rows.length ∧ ∀ (k : Nat) (r : Str × Hd), rows[k]? = some r → okHd nms k r.2
theorem told_of {nms : List Str} {rows T : Tel} (hn : nms.Nodup) (h8 : ∀ n ∈ nms, n ∈ eight) (h0 : 0 < nms.length) (hl8 : nms.length ≤ 8) (hr : Rows nms rows) (hl : rows.length = nms.length) (p : T.Perm rows) : Told T := by
  have e : rows.map (·.1) = nms := by rw [hr.1, hl, List.take_length]
  have mem : ∀ n, n ∈ names T ↔ n ∈ nms := fun n => by
    have := (p.map (·.1)).mem_iff (a := n)
    rw [e] at this
    exact this
  have nd : (names T).Nodup := by
    have := (p.map (·.1)).nodup_iff
    rw [e] at this
    exact this.mpr hn
  have at_ : ∀ r ∈ T, ∃ k, rows[k]? = some r ∧ nms[k]? = some r.1 ∧ k < nms.length := fun r hr' => by
    obtain ⟨k, hk⟩ := List.mem_iff_getElem?.mp (p.subset hr')
    refine ⟨k, hk, ?_, ?_⟩
    · rw [← e, List.getElem?_map, hk]; rfl
    · rw [← hl]; exact get_lt hk
  have lenT : T.length = nms.length := p.length_eq.trans hl
  refine ⟨⟨nd, fun r hr' n hn' => ?_, ?_, fun r hr' => ?_, fun r hr' => ?_, by omega⟩, fun z => ?_, by omega, fun n hn' => h8 n ((mem n).mp hn'), fun r hr' => ?_⟩
  · obtain ⟨k, h1, _, _⟩ := at_ r hr'
    exact (mem n).mpr ((hr.2 k r h1).1 n hn')
  · have uniq : ∀ (k j : Nat) (n : Str), nms[k]? = some n → nms[j]? = some n → k = j := fun k j n h1 h2 => (List.getElem?_inj (get_lt h1) hn).mp (h1.trans h2.symm)
    refine ⟨fun n => open Classical in if h : ∃ k : Nat, nms[k]? = some n then h.choose else 0, fun r hr' => ?_, fun r hr' a ha => ?_⟩
    · obtain ⟨k, _, h2, h3⟩ := at_ r hr'
      have hx : ∃ k : Nat, nms[k]? = some r.1 := ⟨k, h2⟩
      dsimp only
      rw [dif_pos hx, uniq _ _ _ hx.choose_spec h2]
      omega
    · obtain ⟨k, h1, h2, h3⟩ := at_ r hr'
      have hx : ∃ k : Nat, nms[k]? = some r.1 := ⟨k, h2⟩
      have := (hr.2 k r h1).2.1 a ha
      rw [List.mem_take_iff_getElem] at this
      obtain ⟨j, hj, ej⟩ := this
      have g2 : nms[j]? = some a := by rw [List.getElem?_eq_getElem (by omega), ej]
      have hy : ∃ k : Nat, nms[k]? = some a := ⟨j, g2⟩
      dsimp only
      rw [dif_pos hx, dif_pos hy, uniq _ _ _ hx.choose_spec h2, uniq _ _ _ hy.choose_spec g2]
      omega
  · obtain ⟨k, h1, h2, _⟩ := at_ r hr'
    exact ⟨(eight_ok.2.1 _ (h8 _ (List.mem_of_getElem? h2))).1, fun w hw => ((okWords_ok (hr.2 k r h1).2.2).1 w hw).1⟩
  · obtain ⟨k, h1, _, _⟩ := at_ r hr'
    have := (okWords_ok (hr.2 k r h1).2.2).2
    omega
  · subst z
    simp at lenT
    omega
  · obtain ⟨k, h1, _, _⟩ := at_ r hr'
    exact (hr.2 k r h1).2.2
theorem telling_ok {most : Int} (h : QI S0 i ns S) (hi : i < S0.length) (h1 : 1 ≤ most) (h8 : most ≤ 8) :
    ∃ (T : Tel) (S' : DH), g__law_telling [.ref i, .p (.int most)] (S ++ X) = some (.p (telP T), S' ++ X) ∧ Told T ∧ (T.length : Int) ≤ most ∧ QI S0 i ns S' := by
  obtain ⟨r, S1, e1, hr0, hr1, q1⟩ := h.next (X := X) (many := most) hi (by omega) (by omega)
  obtain ⟨fin, S2, e2, p2, q2⟩ := turned_ok (X := X) (x := .p (.lst (eight.map .str))) (l := eight.map .str) q1 hi rfl (fun y hy => by
    obtain ⟨n, hn, rfl⟩ := List.mem_map.mp hy
    exact plain_str (eight_ok.2.1 n hn).1) (by decide)
  obtain ⟨nm8, rfl, p8⟩ := perm_map_inv p2
  have l8 : nm8.length = 8 := p8.length_eq
  generalize hz : (1 + r).toNat = z
  have hz1 : 1 + r = (z : Int) := by omega
  have hnl : (nm8.take z).length = z := by rw [List.length_take]; omega
  have hn : (nm8.take z).Nodup := (p8.nodup_iff.mpr eight_ok.1).sublist (List.take_sublist _ _)
  have hm : ∀ n ∈ nm8.take z, n ∈ eight := fun n hn => p8.subset (List.mem_of_mem_take hn)
  generalize hnm : nm8.take z = nms at hnl hn hm
  have e3 : cut (nm8.map P.str) none (some (1 + r)) = nms.map P.str := by rw [hz1, cut_take, ← hnm, List.map_take]
  have hs2 : (S2 ++ X).length = (S ++ X).length := by rw [List.length_append, List.length_append, q2.len, h.len]
  generalize hN : (S ++ X).length = N at hs2
  have hw : inW (1 + r) = true := by unfold inW; simp; omega
  -- the rows
  obtain ⟨ds', S', e4, rows, c, S3, rfl, rfl, hl, hR, q3⟩ : ∃ ds' S', forL (fun _ => True) (gN 5) (sExpr (fMeth "list" gAppend (fVar 4) (aCons (fTup (aCons (fBin gIx (fVar 3) (fVar 5)) (aCons (fCall g__law_head (aCons (fVar 0) (aCons (fVar 3) (aCons (fVar 5) aNil)))) aNil))) aNil))) (rangeD 0 z) [some (.ref i), some (.p (.int most)), some (.p (.int (1 + r))), some (.p (.lst (nms.map .str))), some (.ref N), none] (S2 ++ X ++ [.lst []]) = some (.nx ds', S') ∧
      ∃ (rows : Tel) (c : Option D) (S3 : DH), ds' = [some (.ref i), some (.p (.int most)), some (.p (.int (1 + r))), some (.p (.lst (nms.map .str))), some (.ref N), c] ∧ S' = S3 ++ X ++ [.lst ((rows.map rowP).map .p)] ∧ rows.length = z ∧ Rows nms rows ∧ QI S0 i ns S3 := by
    obtain ⟨ds', S', e, hI⟩ := forL_at (chk := fun _ => True) (g := gN 5) (fb := (sExpr (fMeth "list" gAppend (fVar 4) (aCons (fTup (aCons (fBin gIx (fVar 3) (fVar 5)) (aCons (fCall g__law_head (aCons (fVar 0) (aCons (fVar 3) (aCons (fVar 5) aNil)))) aNil))) aNil))))
      (Inv := fun n ds T => ∃ (rows : Tel) (c : Option D) (S3 : DH), ds = [some (.ref i), some (.p (.int most)), some (.p (.int (1 + r))), some (.p (.lst (nms.map .str))), some (.ref N), c] ∧ T = S3 ++ X ++ [.lst ((rows.map rowP).map .p)] ∧ rows.length = n ∧ Rows nms rows ∧ QI S0 i ns S3)
      (rangeD 0 z) (fun _ _ _ _ => trivial) (by
        rintro n ds T x hx ⟨rows, c, S3, rfl, rfl, hl, hR, q3⟩
        obtain ⟨hnz, rfl⟩ := rangeD_get hx
        rw [Int.zero_add]
        have hk : n < nms.length := by omega
        obtain ⟨d, S4, e5, od, q4⟩ := head_ok (X := X ++ [.lst ((rows.map rowP).map .p)]) (nms := nms) (k := n) q3 hi (by omega) (by omega) (by omega)
        rw [← List.append_assoc, ← List.append_assoc] at e5
        have g : atI (nms.map P.str) (n : Int) = some (.str nms[n]) := by rw [atI_mp, atI_ok (n := n) (List.getElem?_eq_getElem hk) rfl]; rfl
        have hs3 : (S3 ++ X).length = N := by rw [← hs2, List.length_append, List.length_append, q3.len, q2.len]
        have hs4 : (S4 ++ X).length = N := by rw [← hs2, List.length_append, List.length_append, q4.len, q2.len]
        have t1 := isTy_ref (one_a (a := .lst ((rows.map rowP).map .p)) hs3)
        have e6 := append_ref (x := rowP (nms[n], d)) (one_a (a := .lst ((rows.map rowP).map .p)) hs4) (by rw [List.length_map]; omega)
        rw [one_sa hs4] at e6
        refine ⟨[some (.ref i), some (.p (.int most)), some (.p (.int (1 + r))), some (.p (.lst (nms.map .str))), some (.ref N), some (.p (.int n))], S3 ++ X ++ [.lst ((rows.map rowP).map .p)], [some (.ref i), some (.p (.int most)), some (.p (.int (1 + r))), some (.p (.lst (nms.map .str))), some (.ref N), some (.p (.int n))], S4 ++ X ++ [.lst (((rows ++ [(nms[n], d)]).map rowP).map .p)], by simp, .inl ?_, rows ++ [(nms[n], d)], _, S4, rfl, rfl, by simp [hl], ⟨?_, fun k r' hk' => ?_⟩, q4⟩
        · have e7 : ((rows ++ [(nms[n], d)]).map rowP).map D.p = (rows.map rowP ++ [rowP (nms[n], d)]).map .p := by rw [List.map_append]; rfl
          rw [e7]
          simp only [rowP] at e6 t1 e5 ⊢
          simp [-List.append_assoc, -List.map_append, -List.map_map, t1, g, e5, e6]
        · rw [List.map_append, hR.1, List.length_append, hl, List.length_singleton, List.take_succ_eq_append_getElem hk]; rfl
        · by_cases hkn : k < rows.length
          · rw [List.getElem?_append_left hkn] at hk'
            exact hR.2 k r' hk'
          · rw [List.getElem?_append_right (by omega)] at hk'
            have := get_lt hk'
            have hk0 : k - rows.length = 0 := by simp at this; omega
            rw [hk0] at hk'
            cases hk'
            have : k = n := by omega
            subst this
            exact od) (rangeD 0 z) 0 [some (.ref i), some (.p (.int most)), some (.p (.int (1 + r))), some (.p (.lst (nms.map .str))), some (.ref N), none] (S2 ++ X ++ [.lst []]) (fun j => by rw [Nat.zero_add]) ⟨[], none, S2, rfl, rfl, rfl, ⟨rfl, fun k r' hk' => by simp at hk'⟩, q2⟩
    obtain ⟨rows, c, S3, h1, h2, h3, h4, h5⟩ := hI
    exact ⟨ds', S', e, rows, c, S3, h1, h2, by simpa [rangeD] using h3, h4, h5⟩
  have hs3 : (S3 ++ X).length = N := by rw [← hs2, List.length_append, List.length_append, q3.len, q2.len]
  have pl : ∀ y ∈ rows.map rowP, plainP y := fun y hy => by
    obtain ⟨r', hr', rfl⟩ := List.mem_map.mp hy
    obtain ⟨k, hk⟩ := List.mem_iff_getElem?.mp hr'
    have o := hR.2 k r' hk
    refine plain_row ?_ (fun a ha => (eight_ok.2.1 _ (hm a (o.1 a ha))).1) fun w hw => ((okWords_ok o.2.2).1 w hw).1
    have : r'.1 ∈ rows.map (·.1) := List.mem_map.mpr ⟨r', hr', rfl⟩
    rw [hR.1] at this
    exact (eight_ok.2.1 _ (hm _ (List.mem_of_mem_take this))).1
  obtain ⟨fin, S4, e5, p5, q5⟩ := turned_ok (X := X ++ [.lst ((rows.map rowP).map .p)]) (x := .ref N) (l := rows.map rowP) q3 hi (by
    show (match (S3 ++ (X ++ [.lst ((rows.map rowP).map .p)]))[N]? with | some (.lst l) => some l | _ => none) = _
    rw [← List.append_assoc, one_a hs3]) pl (by rw [List.length_map]; omega)
  obtain ⟨T, rfl, pT⟩ := perm_map_inv p5
  rw [← List.append_assoc, ← List.append_assoc] at e5
  have told := told_of hn hm (by omega) (by omega) hR (hl.trans hnl.symm) pT
  refine ⟨T, S4, ?_, told, by rw [pT.length_eq, hl]; omega, q5⟩
  have hb : b__law_telling [some (.ref i), some (.p (.int most)), none, none, none, none] (S ++ X) = some (.rt (.p (telP T)), S4 ++ X ++ [.lst ((rows.map rowP).map .p)]) := by
    unfold b__law_telling
    have hs2' : S2.length + X.length = N := by rw [← List.length_append]; exact hs2
    simp only [eight, List.map] at e2
    simp [-List.append_assoc, -List.map_append, -List.map_map, e1, e2, e3, hw, hs2', hz, e4, e5, gTuple, lstD, telP]
  refine (gFn_rt hb).trans ?_
  rw [leave_p (Safe.app2 (by rw [List.length_append, List.length_append, q5.len, h.len]) (h.safe q5))]
  congr 2
  have hs4 : (S4 ++ X).length = (S ++ X).length := by rw [hN, ← hs2, List.length_append, List.length_append, q5.len, q2.len]
  rw [← hs4, List.take_left']; rfl
end
end CKP
/-! TMA: a row drawn. -/
namespace CKP
open PySem PySem.Spec PyProof.Rows L2 CK

section
variable {S0 S X : DH} {i : Nat} {ns : List Int}
theorem any_ok {T : Tel} (h : QI S0 i ns S) (hi : i < S0.length) (t : Told T) : ∃ (n : Str) (S' : DH), g__law_any [.ref i, .p (telP T)] (S ++ X) = some (.p (.str n), S' ++ X) ∧ n ∈ names T ∧ QI S0 i ns S' := by
  have hl : 0 < T.length := List.length_pos_iff.mpr t.ne
  have hl8 := t.len
  obtain ⟨r, S1, e1, h0, h1, q1⟩ := h.next (X := X) (many := T.length) hi (by omega) (by omega)
  obtain ⟨x, hx, g⟩ := atI_mem h0 h1
  refine ⟨x.1, S1, ?_, List.mem_map.mpr ⟨x, hx, rfl⟩, q1⟩
  have g1 : gLen [.p (telP T)] (S ++ X) = some (.p (.int T.length), S ++ X) := by simp [gLen, telP, seqD]
  have g2 : gIx (.p (telP T)) (.p (.int r)) (S1 ++ X) = some (.p (rowP x), S1 ++ X) := by
    simp [gIx, gIxL, lstD, gIxT, tupD, telP, atI_mp, g]
  have g3 : gIx (.p (rowP x)) (.p (.int 0)) (S1 ++ X) = some (.p (.str x.1), S1 ++ X) := rfl
  have hb : b__law_any [some (.ref i), some (.p (telP T))] (S ++ X) = some (.rt (.p (.str x.1)), S1 ++ X) := by
    unfold b__law_any
    simp [-List.append_assoc, g1, e1, g2, g3]
  exact (gFn_rt hb).trans (leave_len (by rw [List.length_append, List.length_append, q1.len, h.len]) (h.safe q1))
end
section
variable {S0 S X : DH} {i : Nat} {ns : List Int} {T : Tel}
theorem any2_ok (h : QI S0 i ns S) (hi : i < S0.length) (t : Tld T) : ∃ (n : Str) (S' : DH), g__law_any [.ref i, .p (telP T)] (S ++ X) = some (.p (.str n), S' ++ X) ∧ n ∈ names T ∧ QI S0 i ns S' := by
  have hl : 0 < T.length := List.length_pos_iff.mpr t.ne
  have hl8 := t.len
  obtain ⟨r, S1, e1, h0, h1, q1⟩ := h.next (X := X) (many := T.length) hi (by omega) (by omega)
  obtain ⟨x, hx, g⟩ := atI_mem h0 h1
  refine ⟨x.1, S1, ?_, List.mem_map.mpr ⟨x, hx, rfl⟩, q1⟩
  have g1 : gLen [.p (telP T)] (S ++ X) = some (.p (.int T.length), S ++ X) := by simp [gLen, telP, seqD]
  have g2 : gIx (.p (telP T)) (.p (.int r)) (S1 ++ X) = some (.p (rowP x), S1 ++ X) := by
    simp [gIx, gIxL, lstD, gIxT, tupD, telP, atI_mp, g]
  have g3 : gIx (.p (rowP x)) (.p (.int 0)) (S1 ++ X) = some (.p (.str x.1), S1 ++ X) := rfl
  have hb : b__law_any [some (.ref i), some (.p (telP T))] (S ++ X) = some (.rt (.p (.str x.1)), S1 ++ X) := by
    unfold b__law_any
    simp [-List.append_assoc, g1, e1, g2, g3]
  exact (gFn_rt hb).trans (leave_len (by rw [List.length_append, List.length_append, q1.len, h.len]) (h.safe q1))
end
end CKP
/-! BF: rows met one behind another, and layer by layer: the same. -/
namespace CKP
open PySem PySem.Spec PyProof.Rows L2 CK

def isIn {α β : Type} : Sum α β → Bool
  | .inl _ => false
  | .inr _ => true
section
variable {α σ : Type} [DecidableEq α] (out : α → List (σ × α)) (bad : α → Bool)
abbrev En (α σ : Type) := α × List σ
def outs (e : En α σ) : List (En α σ) := (out e.1).map fun w => (w.2, e.2 ++ [w.1])
def addOne (f : List (En α σ)) (e : En α σ) : List (En α σ) := if e.1 ∈ f.map (·.1) then f else f ++ [e]
def addNew (f l : List (En α σ)) : List (En α σ) := l.foldl addOne f
def keys (f : List (En α σ)) : List α := f.map (·.1)
omit [DecidableEq α] in
theorem mem_keys {f : List (En α σ)} {e : En α σ} (h : e ∈ f) : e.1 ∈ keys f := List.mem_map.mpr ⟨e, h, rfl⟩
theorem addNew_nil (f : List (En α σ)) : addNew f [] = f := rfl
theorem addNew_cons (f : List (En α σ)) (e : En α σ) (l : List (En α σ)) : addNew f (e :: l) = addNew (addOne f e) l := rfl
theorem addNew_app (f l m : List (En α σ)) : addNew f (l ++ m) = addNew (addNew f l) m := List.foldl_append
theorem addOne_pre (f : List (En α σ)) (e : En α σ) : ∃ g, addOne f e = f ++ g ∧ g.Sublist [e] := by
  unfold addOne
  split
  · exact ⟨[], by simp, by simp⟩
  · exact ⟨[e], rfl, List.Sublist.refl _⟩
theorem addNew_pre : ∀ (l f : List (En α σ)), ∃ g, addNew f l = f ++ g ∧ g.Sublist l
  | [], f => ⟨[], by simp [addNew], by simp⟩
  | e :: l, f => by
    obtain ⟨g1, h1, s1⟩ := addOne_pre f e
    obtain ⟨g2, h2, s2⟩ := addNew_pre l (addOne f e)
    exact ⟨g1 ++ g2, by rw [addNew_cons, h2, h1, List.append_assoc], s1.append s2⟩
/-- the keys of a list of entries are among some, none twice -/
structure In (U : List α) (f : List (En α σ)) : Prop where
  nd : (keys f).Nodup
  sub : ∀ a ∈ keys f, a ∈ U
theorem In.one {U : List α} {f : List (En α σ)} {e : En α σ} (h : In U f) (he : e.1 ∈ U) : In U (addOne f e) := by
  unfold addOne
  split
  · exact h
  · rename_i hn
    refine ⟨?_, fun a ha => ?_⟩
    · show ((f ++ [e]).map (·.1)).Nodup
      rw [List.map_append, List.nodup_append]
      refine ⟨h.nd, by simp, fun a ha b hb => ?_⟩
      simp only [List.map_cons, List.map_nil, List.mem_singleton] at hb
      subst hb
      intro z; subst z; exact hn ha
    · simp only [keys, List.map_append, List.map_cons, List.map_nil, List.mem_append, List.mem_singleton] at ha
      rcases ha with ha | rfl
      · exact h.sub a ha
      · exact he
theorem In.new {U : List α} : ∀ {l f : List (En α σ)}, In U f → (∀ e ∈ l, e.1 ∈ U) → In U (addNew f l)
  | [], f, h, _ => h
  | e :: l, f, h, hl => In.new (l := l) (f := addOne f e) (h.one (hl e List.mem_cons_self)) fun d hd => hl d (List.mem_cons_of_mem _ hd)
theorem nodup_len {l m : List α} (nd : l.Nodup) (h : ∀ x ∈ l, x ∈ m) : l.length ≤ m.length := by
  induction l generalizing m with
  | nil => exact Nat.zero_le _
  | cons x l ih =>
    rw [List.nodup_cons] at nd
    have hx := h x List.mem_cons_self
    have := ih (m := m.erase x) nd.2 fun y hy => (List.mem_erase_of_ne (fun z => nd.1 (by rw [← z]; exact hy))).mpr (h y (List.mem_cons_of_mem _ hy))
    rw [List.length_erase_of_mem hx] at this
    have := List.length_pos_of_mem hx
    rw [List.length_cons]; omega
theorem In.len {U : List α} {f : List (En α σ)} (h : In U f) : f.length ≤ U.length := by
  have := nodup_len h.nd h.sub
  unfold keys at this
  rw [List.length_map] at this
  exact this
theorem key_new {f l : List (En α σ)} {a : α} : a ∈ keys (addNew f l) ↔ a ∈ keys f ∨ a ∈ keys l := by
  induction l generalizing f with
  | nil => simp [addNew, keys]
  | cons e l ih =>
    rw [addNew_cons, ih]
    unfold addOne
    split
    · rename_i h
      simp only [keys, List.map_cons, List.mem_cons]
      constructor
      · rintro (h | h)
        · exact .inl h
        · exact .inr (.inr h)
      · rintro (h | rfl | h')
        · exact .inl h
        · exact .inl h
        · exact .inr h'
    · simp only [keys, List.map_append, List.map_cons, List.map_nil, List.mem_append, List.mem_cons, List.not_mem_nil, or_false]
      constructor
      · rintro ((h | h) | h)
        · exact .inl h
        · exact .inr (.inl h)
        · exact .inr (.inr h)
      · rintro (h | h | h)
        · exact .inl (.inl h)
        · exact .inl (.inr h)
        · exact .inr h
/-- a road is no longer than its place -/
def RLen (f : List (En α σ)) : Prop := ∀ (i : Nat) (e : En α σ), f[i]? = some e → e.2.length ≤ i
theorem RLen.one {f : List (En α σ)} {e : En α σ} (h : RLen f) (he : e.2.length ≤ f.length) : RLen (addOne f e) := by
  unfold addOne
  split
  · exact h
  · intro i d hd
    rcases get_snoc hd with q | ⟨q, rfl⟩
    · exact h i d q
    · omega
theorem addOne_len (f : List (En α σ)) (e : En α σ) : f.length ≤ (addOne f e).length := by
  obtain ⟨g, hg, _⟩ := addOne_pre f e
  rw [hg, List.length_append]; omega
theorem RLen.new : ∀ {l f : List (En α σ)}, RLen f → (∀ d ∈ l, d.2.length ≤ f.length) → RLen (addNew f l)
  | [], f, h, _ => h
  | e :: l, f, h, hl => RLen.new (l := l) (f := addOne f e) (h.one (hl e List.mem_cons_self)) fun d hd => Nat.le_trans (hl d (List.mem_cons_of_mem _ hd)) (addOne_len f e)
/-- one behind another -/
def qf : Nat → List (En α σ) → Nat → Sum (List σ) (List (En α σ))
  | 0, f, _ => .inr f
  | n + 1, f, k => match f[k]? with
    | none => .inr f
    | some e => if bad e.1 = true then .inl e.2 else qf n (addNew f (outs out e)) (k + 1)
def qres (U : List α) (f : List (En α σ)) (k : Nat) : Sum (List σ) (List (En α σ)) := qf out bad (U.length - k) f k
variable {out bad} {U : List α} (hU : ∀ a ∈ U, ∀ w ∈ out a, w.2 ∈ U)
include hU
theorem outs_in {f : List (En α σ)} {e : En α σ} (h : In U f) (he : e ∈ f) : ∀ d ∈ outs out e, d.1 ∈ U := by
  intro d hd
  obtain ⟨w, hw, rfl⟩ := List.mem_map.mp hd
  exact hU _ (h.sub _ (mem_keys he)) w hw
theorem qres_end {f : List (En α σ)} : qres out bad U f f.length = .inr f := by
  unfold qres
  cases U.length - f.length with
  | zero => rfl
  | succ n =>
    unfold qf
    rw [List.getElem?_eq_none (Nat.le_refl _)]
theorem qres_step {f : List (En α σ)} {k : Nat} {e : En α σ} (h : In U f) (he : f[k]? = some e) : qres out bad U f k = if bad e.1 = true then .inl e.2 else qres out bad U (addNew f (outs out e)) (k + 1) := by
  have h1 := h.len
  have h2 := get_lt he
  unfold qres
  obtain ⟨n, hn⟩ : ∃ n, U.length - k = n + 1 := ⟨U.length - k - 1, by omega⟩
  rw [hn, show U.length - (k + 1) = n by omega]
  rw [qf, he]
/-- a stretch of entries that aren't bad -/
theorem qres_run : ∀ (B A C : List (En α σ)), In U (A ++ B ++ C) → (∀ e ∈ B, bad e.1 = false) → qres out bad U (A ++ B ++ C) A.length = qres out bad U (addNew (A ++ B ++ C) (B.flatMap (outs out))) (A.length + B.length)
  | [], A, C, _, _ => by simp [addNew]
  | e :: B, A, C, h, hb => by
    have he : (A ++ e :: B ++ C)[A.length]? = some e := by
      rw [List.append_assoc, List.getElem?_append_right (Nat.le_refl _)]; simp
    rw [qres_step hU h he, if_neg (by rw [hb e List.mem_cons_self]; exact Bool.false_ne_true)]
    obtain ⟨g, hg, _⟩ := addNew_pre (outs out e) (A ++ e :: B ++ C)
    have hin : In U (A ++ e :: B ++ C ++ g) := hg ▸ h.new (outs_in hU h (List.mem_of_getElem? he))
    have e1 : A ++ e :: B ++ C ++ g = (A ++ [e]) ++ B ++ (C ++ g) := by simp
    rw [e1] at hin
    have := qres_run B (A ++ [e]) (C ++ g) hin fun d hd => hb d (List.mem_cons_of_mem _ hd)
    rw [List.length_append, List.length_singleton] at this
    rw [List.flatMap_cons, addNew_app, hg, e1, this, List.length_cons]
    congr 1
    omega
/-- a layer without a bad one -/
theorem qres_layer {F l : List (En α σ)} (h : In U (addNew F l)) (hl : ∀ e ∈ l, bad e.1 = false) :
    qres out bad U (addNew F l) F.length = qres out bad U (addNew (addNew F l) (((addNew F l).drop F.length).flatMap (outs out))) (addNew F l).length := by
  obtain ⟨g, hg, hs⟩ := addNew_pre l F
  rw [hg] at h ⊢
  have := qres_run hU (bad := bad) g F [] (by simpa using h) fun e he => hl e (hs.subset he)
  rw [List.append_nil] at this
  rw [this, List.drop_left, List.length_append]
/-- a layer with a bad one -/
theorem qres_bad {F pre post : List (En α σ)} {e : En α σ} (h : In U (addNew F (pre ++ e :: post))) (hF : ∀ d ∈ F, bad d.1 = false) (hp : ∀ d ∈ pre, bad d.1 = false) (he : bad e.1 = true) :
    qres out bad U (addNew F (pre ++ e :: post)) F.length = .inl e.2 := by
  obtain ⟨g, hg, hs⟩ := addNew_pre pre F
  have hne : e.1 ∉ keys (addNew F pre) := by
    rw [key_new]
    rintro (z | z)
    · obtain ⟨d, hd, q⟩ := List.mem_map.mp z
      have := hF d hd
      rw [q, he] at this; cases this
    · obtain ⟨d, hd, q⟩ := List.mem_map.mp z
      have := hp d hd
      rw [q, he] at this; cases this
  have h1 : addOne (addNew F pre) e = addNew F pre ++ [e] := by
    unfold addOne
    exact if_neg hne
  have h2 : addNew F (pre ++ e :: post) = addNew (addNew F pre ++ [e]) post := by rw [addNew_app, addNew_cons, h1]
  obtain ⟨g2, hg2, _⟩ := addNew_pre post (addNew F pre ++ [e])
  have h3 : addNew F (pre ++ e :: post) = F ++ g ++ ([e] ++ g2) := by rw [h2, hg2, hg]; simp
  rw [h3] at h ⊢
  rw [qres_run hU g F ([e] ++ g2) h fun d hd => hp d (hs.subset hd)]
  obtain ⟨g3, hg3, _⟩ := addNew_pre (g.flatMap (outs out)) (F ++ g ++ ([e] ++ g2))
  have hin : In U (addNew (F ++ g ++ ([e] ++ g2)) (g.flatMap (outs out))) := h.new fun d hd => by
    obtain ⟨c, hc, hd⟩ := List.mem_flatMap.mp hd
    exact outs_in hU h (by simp [hc]) d hd
  rw [hg3] at hin ⊢
  have hat : (F ++ g ++ ([e] ++ g2) ++ g3)[F.length + g.length]? = some e := by
    rw [← List.length_append, List.append_assoc (F ++ g), List.getElem?_append_right (Nat.le_refl _)]; simp
  rw [qres_step hU hin hat, if_pos he]
/-- what is told in the end is closed -/
theorem qf_closed : ∀ (n : Nat) (f : List (En α σ)) (k : Nat), In U f → U.length - k ≤ n → (∀ (j : Nat) (e : En α σ), j < k → f[j]? = some e → bad e.1 = false ∧ ∀ d ∈ outs out e, d.1 ∈ keys f) → k ≤ f.length → ∀ {R : List (En α σ)}, qf out bad n f k = .inr R →
    In U R ∧ (∃ g, R = f ++ g) ∧ ∀ e ∈ R, bad e.1 = false ∧ ∀ d ∈ outs out e, d.1 ∈ keys R
  | 0, f, k, h, hn, hc, hk, R, e => by
    cases e
    refine ⟨h, ⟨[], by simp⟩, fun e he => ?_⟩
    obtain ⟨j, hj⟩ := List.mem_iff_getElem?.mp he
    have := get_lt hj
    have := h.len
    exact hc j e (by omega) hj
  | n + 1, f, k, h, hn, hc, hk, R, e => by
    unfold qf at e
    cases q : f[k]? with
    | none =>
      rw [q] at e; cases e
      refine ⟨h, ⟨[], by simp⟩, fun e he => ?_⟩
      obtain ⟨j, hj⟩ := List.mem_iff_getElem?.mp he
      have := get_lt hj
      have := List.getElem?_eq_none_iff.mp q
      exact hc j e (by omega) hj
    | some d =>
      rw [q] at e
      dsimp only at e
      split at e
      · cases e
      · rename_i hb
        obtain ⟨g, hg, hs⟩ := addNew_pre (outs out d) f
        have hin := h.new (outs_in hU h (List.mem_of_getElem? q))
        have hlen := get_lt q
        obtain ⟨r1, ⟨g2, r2⟩, r3⟩ := qf_closed n (addNew f (outs out d)) (k + 1) hin (by omega) (fun j c hj hc' => by
          have hjf : f[j]? = some c := by
            rw [hg, List.getElem?_append_left (by omega)] at hc'
            exact hc'
          by_cases hjk : j < k
          · obtain ⟨b1, b2⟩ := hc j c hjk hjf
            exact ⟨b1, fun x hx => key_new.mpr (.inl (b2 x hx))⟩
          · have : j = k := by omega
            subst this
            rw [q] at hjf; cases hjf
            exact ⟨by simpa using hb, fun x hx => key_new.mpr (.inr (mem_keys hx))⟩) (by rw [hg, List.length_append]; omega) e
        exact ⟨r1, ⟨g ++ g2, by rw [r2, hg, List.append_assoc]⟩, r3⟩
end
theorem addNew_all {α σ : Type} [DecidableEq α] {P : En α σ → Prop} {f l : List (En α σ)} (hf : ∀ e ∈ f, P e) (hl : ∀ e ∈ l, P e) : ∀ e ∈ addNew f l, P e := by
  obtain ⟨g, hg, hs⟩ := addNew_pre l f
  rw [hg]
  intro e he
  rcases List.mem_append.mp he with he | he
  · exact hf e he
  · exact hl e (hs.subset he)
theorem qf_inl {α σ : Type} [DecidableEq α] {out : α → List (σ × α)} {bad : α → Bool} {P : En α σ → Prop} (hp : ∀ e, P e → bad e.1 = false → ∀ d ∈ outs out e, P d) : ∀ (n : Nat) (f : List (En α σ)) (k : Nat), (∀ e ∈ f, P e) → ∀ {r}, qf out bad n f k = .inl r → ∃ e, P e ∧ e.2 = r ∧ bad e.1 = true
  | 0, f, k, h, r, e => by cases e
  | n + 1, f, k, h, r, e => by
    unfold qf at e
    cases q : f[k]? with
    | none => rw [q] at e; cases e
    | some d =>
      rw [q] at e
      dsimp only at e
      split at e
      · rename_i hb
        cases e
        exact ⟨d, h d (List.mem_of_getElem? q), rfl, hb⟩
      · rename_i hb
        exact qf_inl hp n _ _ (addNew_all h (hp d (h d (List.mem_of_getElem? q)) (by simpa using hb))) e
end CKP
/-! MKK: what the bound names tell, as a dict. -/
namespace CKP
open PySem PySem.Spec PyProof.Rows L2 CK

abbrev Gam := List (Str × Str)
def gaE (G : Gam) : List (Key × D) := G.map fun q => (Sum.inr q.1, .p (.str q.2))
def gaP (G : Gam) : List (Key × P) := G.map fun q => (Sum.inr q.1, .str q.2)
/-- the dict stands as a value, or behind n places -/
def KD (n : Nat) (X : DH) (d : D) (G : Gam) : Prop := d = .p (.dK (gaP G)) ∨ ∃ j, d = .ref (n + j) ∧ X[j]? = some (.dK (gaE G))
def names4 : List Str := ["v", "va", "u", "x"]
/-- names bound, to rows -/
structure GaOk (T : Tel) (G : Gam) : Prop where
  nd : (G.map (·.1)).Nodup
  kn : ∀ q ∈ G, q.1 ∈ names4
  vn : ∀ q ∈ G, q.2 ∈ names T
theorem names4_ok : ∀ b ∈ names4, PyData.strOk b = true := by decide +kernel
section
variable {T : Tel} {S X Y : DH} {d : D} {G : Gam} {b r : Str} {n : Nat}
theorem GaOk.nil : GaOk T [] := ⟨List.nodup_nil, (fun _ h => nomatch h), (fun _ h => nomatch h)⟩
theorem GaOk.put (g : GaOk T G) (hb : b ∈ names4) (hr : r ∈ names T) : GaOk T (dput G b r) := by
  refine ⟨dput_nodup _ _ g.nd, fun q hq => ?_, fun q hq => ?_⟩
  · have : q.1 ∈ (dput G b r).map (·.1) := List.mem_map.mpr ⟨q, hq, rfl⟩
    rw [dput_keys] at this
    split at this
    · obtain ⟨q', h1, h2⟩ := List.mem_map.mp this
      rw [← h2]; exact g.kn q' h1
    · rcases List.mem_append.mp this with this | this
      · obtain ⟨q', h1, h2⟩ := List.mem_map.mp this
        rw [← h2]; exact g.kn q' h1
      · rw [List.mem_singleton.mp this]; exact hb
  · unfold dput at hq
    split at hq
    · obtain ⟨q', h1, rfl⟩ := List.mem_map.mp hq
      split
      · exact hr
      · exact g.vn _ h1
    · rcases List.mem_append.mp hq with hq | hq
      · exact g.vn _ hq
      · rw [List.mem_singleton.mp hq]; exact hr
theorem GaOk.len (g : GaOk T G) : G.length ≤ 4 := by
  have h1 : (G.map (·.1)).length ≤ names4.length := nodup_len g.nd fun a ha => by
    obtain ⟨q, hq, rfl⟩ := List.mem_map.mp ha
    exact g.kn q hq
  rw [List.length_map] at h1
  exact h1
theorem KD.app (h : KD n X d G) : KD n (X ++ Y) d G := by
  rcases h with h | ⟨j, h1, h2⟩
  · exact .inl h
  · refine .inr ⟨j, h1, ?_⟩
    rw [List.getElem?_append_left (by
      have := List.getElem?_eq_some_iff.mp h2
      exact this.1)]
    exact h2
theorem KD.dict (h : KD n X d G) (hS : S.length = n) : dictD (S ++ X) d = some (.inl (gaE G)) := by
  rcases h with rfl | ⟨j, rfl, h2⟩
  · show some (Sum.inl ((gaP G).map fun q => (q.1, D.p q.2))) = _
    unfold gaP gaE
    rw [List.map_map]; rfl
  · have h3 : (S ++ X)[n + j]? = some (.dK (gaE G)) := by
      rw [List.getElem?_append_right (by omega), hS, Nat.add_sub_cancel_left]; exact h2
    show (match (S ++ X)[n + j]? with | some (DO.dK l) => some (Sum.inl l) | some (DO.kK l) => some (Sum.inl l) | some (DO.dT l) => some (Sum.inr l) | some (DO.kT l) => some (Sum.inr l) | _ => none) = _
    rw [h3]
theorem keyStrs_ga : ∀ G : Gam, keyStrs (gaE G) = some (G.map (·.1))
  | [] => rfl
  | q :: G => by
    show (keyStrs (gaE G)).map (q.1 :: ·) = _
    rw [keyStrs_ga G]; rfl
theorem KD.sort (h : KD n X d G) (hS : S.length = n) (hl : G.length ≤ 4) : gSortDk [d] (S ++ X) = some (.p (.lst ((sortS (G.map (·.1))).map .str)), S ++ X) := by
  unfold gSortDk
  dsimp only
  rw [h.dict hS]
  dsimp only
  rw [keyStrs_ga]
  dsimp only
  rw [if_pos (by rw [List.length_map]; omega)]
theorem dval_gaE (G : Gam) (b : Str) : dval (gaE G) (.inr b) = (dval G b).map fun r => D.p (.str r) := dval_enc (f := (Sum.inr : Str → Key)) (g := fun r : Str => D.p (.str r)) (fun _ _ h => Sum.inr.inj h) G b
theorem KD.get (h : KD n X d G) (hS : S.length = n) (hb : dval G b = some r) : gIx d (.p (.str b)) (S ++ X) = some (.p (.str r), S ++ X) := by
  have hd := h.dict (S := S) hS
  have hg : dget (S ++ X) d (.p (.str b)) = some (some (.p (.str r))) := by
    unfold dget
    rw [hd]
    show some (dval (gaE G) (.inr b)) = _
    rw [dval_gaE, hb]; rfl
  rcases h with rfl | ⟨j, rfl, h2⟩
  · rw [gIx_pdK (k' := .inr b) rfl]
    have : dval (gaP G) (.inr b) = (dval G b).map P.str := dval_enc (f := (Sum.inr : Str → Key)) (g := P.str) (fun _ _ h => Sum.inr.inj h) G b
    rw [this, hb]; rfl
  · have h3 : (S ++ X)[n + j]? = some (.dK (gaE G)) := by
      rw [List.getElem?_append_right (by omega), hS, Nat.add_sub_cancel_left]; exact h2
    rw [r_ixD (m := gaE G) (mt := []) (.inl h3) hg]; rfl
theorem KD.copy (h : KD n X d G) (hS : S.length = n) : gDictH [d] (S ++ X) = some (.ref (n + X.length), S ++ (X ++ [.dK (gaE G)])) := by
  have h1 : srcP (S ++ X) d = none := by
    rcases h with rfl | ⟨j, rfl, h2⟩
    · rfl
    · have h3 : (S ++ X)[n + j]? = some (.dK (gaE G)) := by
        rw [List.getElem?_append_right (by omega), hS, Nat.add_sub_cancel_left]; exact h2
      show (match (S ++ X)[n + j]? with | some (.lst l) => allP l | _ => none) = _
      rw [h3]
  have hd := h.dict (S := S) hS
  unfold gDictH
  dsimp only
  rw [h1]
  dsimp only
  rw [hd]
  dsimp only
  rw [List.length_append, hS, List.append_assoc]
theorem ga_put (hS : S.length = n) (hl : G.length ≤ 4) : gSetA (.ref (n + X.length)) (.p (.str b)) (.p (.str r)) (S ++ (X ++ [.dK (gaE G)])) = some (S ++ (X ++ [.dK (gaE (dput G b r))])) := by
  have h3 : (S ++ (X ++ [DO.dK (gaE G)]))[n + X.length]? = some (.dK (gaE G)) := by
    rw [← List.append_assoc, show n + X.length = (S ++ X).length by rw [List.length_append, hS]]
    simp
  have h4 : dput (gaE G) (.inr b) (D.p (.str r)) = gaE (dput G b r) := dput_enc (f := (Sum.inr : Str → Key)) (g := fun r : Str => D.p (.str r)) (fun _ _ h => Sum.inr.inj h) G b r
  rw [r_setK (m := gaE G) (k := .inr b) rfl h3 (by unfold gaE; rw [List.length_map]; omega), h4]
  congr 1
  rw [← List.append_assoc, show n + X.length = (S ++ X).length by rw [List.length_append, hS], app_set0, List.append_assoc]; rfl
theorem KD.last : KD n (X ++ [.dK (gaE G)]) (.ref (n + X.length)) G := .inr ⟨X.length, rfl, by simp⟩
theorem strs_cl {l : List Str} (h : ∀ x ∈ l, PyData.strOk x = true) : clean (un (.lst (l.map .str))) = true ∧ pdep (un (.lst (l.map .str))) ≤ 33 := plain_lst fun x hx => by
  obtain ⟨a, ha, rfl⟩ := List.mem_map.mp hx
  exact ⟨h a ha, Nat.zero_le _⟩
theorem un_ne_nil {l : List Str} : l.isEmpty = true ↔ un (.lst (l.map .str)) = un (.lst []) := by
  show l.isEmpty = true ↔ P.lst (uns (l.map .str)) = P.lst []
  cases l with
  | nil => simp [uns]
  | cons x r => simp [uns]
theorem ne_nil_ {l : List Str} (h : ∀ x ∈ l, PyData.strOk x = true) : gNe (.p (.lst (l.map .str))) (.p (.lst [])) S = some (.p (.bl (!l.isEmpty)), S) := by
  obtain ⟨h1, h2⟩ := strs_cl h
  exact gNe_cu h1 rfl (by omega) (by decide) un_ne_nil
theorem eq_nil_ {l : List Str} (h : ∀ x ∈ l, PyData.strOk x = true) : gEq (.p (.lst (l.map .str))) (.p (.lst [])) S = some (.p (.bl l.isEmpty), S) := by
  obtain ⟨h1, h2⟩ := strs_cl h
  exact gEq_cu h1 rfl (by omega) (by decide) un_ne_nil
/-! ### a list behind the pen -/
variable {l : List D} {x : P}
theorem qz_at (h : S.length = n) {o : DO} : (S ++ (X ++ (o :: Y)))[n + X.length]? = some o := by
  rw [← List.append_assoc, show n + X.length = (S ++ X).length by rw [List.length_append, h]]
  simp
theorem qz_set (h : S.length = n) {o o' : DO} : (S ++ (X ++ (o :: Y))).set (n + X.length) o' = S ++ (X ++ (o' :: Y)) := by
  rw [← List.append_assoc, show n + X.length = (S ++ X).length by rw [List.length_append, h], app_set0, List.append_assoc]; rfl
theorem qz_isl (h : S.length = n) : isTy "list" (.ref (n + X.length)) (S ++ (X ++ (.lst l :: Y))) = true := isTy_r (qz_at h)
theorem qz_app (h : S.length = n) (hl : l.length < 16777216) : gAppend (.ref (n + X.length)) [.p x] (S ++ (X ++ (.lst l :: Y))) = some (.p .non, S ++ (X ++ (.lst (l ++ [.p x]) :: Y))) := by
  rw [r_append (qz_at h) hl, qz_set h]
theorem qz_lst (h : S.length = n) : lstD (S ++ (X ++ (.lst l :: Y))) (.ref (n + X.length)) = some l := by
  show (match (S ++ (X ++ (DO.lst l :: Y)))[n + X.length]? with | some (.lst l) => some l | _ => none) = _
  rw [qz_at h]
theorem qz_tup (h : S.length = n) {m : List P} : gTuple [.ref (n + X.length)] (S ++ (X ++ (.lst (m.map .p) :: Y))) = some (.p (.ftup m), S ++ (X ++ (.lst (m.map .p) :: Y))) := by
  show (match lstD (S ++ (X ++ (.lst (m.map .p) :: Y))) (.ref (n + X.length)) with | some l => (allP l).map fun ps => (D.p (.ftup ps), S ++ (X ++ (DO.lst (m.map .p) :: Y))) | none => none) = _
  rw [qz_lst h]
  dsimp only
  rw [allP_map]; rfl
theorem qz_ix (h : S.length = n) {i : Int} : gIx (.ref (n + X.length)) (.p (.int i)) (S ++ (X ++ (.lst l :: Y))) = (atI l i).map fun d => (d, S ++ (X ++ (.lst l :: Y))) := gIx_ref (qz_at h)
theorem qz_setl (h : S.length = n) {i : Int} {k : Nat} (hj : ixN l.length i = some k) : gSetA (.ref (n + X.length)) (.p (.int i)) (.p x) (S ++ (X ++ (.lst l :: Y))) = some (S ++ (X ++ (.lst (l.set k (.p x)) :: Y))) := by
  rw [gSetA_lst (qz_at h) hj, qz_set h]
end
end CKP
/-! SO0: sorted texts. -/
namespace CKP
open PySem PySem.Spec PyProof.Rows L2 CK

theorem sortS_mem {l : List Str} {x : Str} : x ∈ sortS l ↔ x ∈ l := by unfold sortS; exact List.mem_mergeSort
theorem sortS_lenO (l : List Str) : (sortS l).length = l.length := by unfold sortS; exact List.length_mergeSort _
end CKP
/-! DV: what a dict holds. -/
namespace CKP
open PySem PySem.Spec PyProof.Rows L2 CK

section
variable {κ α : Type} [DecidableEq κ] {l : List (κ × α)} {k : κ} {x : α}
theorem dval_in (h : dval l k = some x) : (k, x) ∈ l := by
  induction l with
  | nil => cases h
  | cons p l ih =>
    by_cases e : p.1 = k
    · have : dval (p :: l) k = some p.2 := by simp [dval, e]
      rw [this] at h
      cases h
      rw [← e]; exact List.mem_cons_self
    · have : dval (p :: l) k = dval l k := by simp [dval, e]
      rw [this] at h
      exact List.mem_cons_of_mem _ (ih h)
theorem dval_of (nd : (l.map (·.1)).Nodup) (h : (k, x) ∈ l) : dval l k = some x := by
  induction l with
  | nil => cases h
  | cons p l ih =>
    rw [List.map_cons, List.nodup_cons] at nd
    by_cases e : p.1 = k
    · have h1 : dval (p :: l) k = some p.2 := by simp [dval, e]
      rcases List.mem_cons.mp h with h | h
      · rw [h1, ← h]
      · exact absurd (List.mem_map.mpr ⟨_, h, e.symm⟩) nd.1
    · have h1 : dval (p :: l) k = dval l k := by simp [dval, e]
      rcases List.mem_cons.mp h with h | h
      · rw [← h] at e; exact absurd rfl e
      · rw [h1]; exact ih nd.2 h
theorem dval_no : dval l k = none ↔ k ∉ l.map (·.1) := by
  induction l with
  | nil => simp [dval]
  | cons p l ih =>
    by_cases e : p.1 = k
    · have h1 : dval (p :: l) k = some p.2 := by simp [dval, e]
      rw [h1]; simp [e]
    · have h1 : dval (p :: l) k = dval l k := by simp [dval, e]
      have e' : ¬ k = p.1 := fun z => e z.symm
      rw [h1, ih, List.map_cons, List.mem_cons, not_or]
      exact ⟨fun z => ⟨e', z⟩, fun z => z.2⟩
end
end CKP
/-! MKD: drawn makers (_law_for). -/
namespace CKP
open PySem PySem.Spec PyProof.Rows L2 CK

section
variable {S0 S X : DH} {i : Nat} {ns : List Int} {T : Tel}
theorem endless_ok {S : DH} : g__law_endless [] S = some (.p (mkP endless), S) := by
  refine gFn_v ?_
  unfold b__law_endless
  simp -dsimp [-List.map_map]
  rfl
theorem name_bound_ok (h : QI S0 i ns S) (hi : i < S0.length) : ∃ (b : Str) (S' : DH), g__law_name_bound [.ref i] (S ++ X) = some (.p (.str b), S' ++ X) ∧ b ∈ names4 ∧ QI S0 i ns S' := by
  obtain ⟨r, S1, e1, h0, h1, q1⟩ := h.next (X := X) (many := 4) hi (by decide) (by decide)
  obtain ⟨x, hx, g⟩ := pick_at (l := names4.map .str) (S := S1 ++ X) h0 h1
  obtain ⟨b, hb, rfl⟩ := List.mem_map.mp hx
  have g : gIx (.p (.lst [.str "v", .str "va", .str "u", .str "x"])) (.p (.int r)) (S1 ++ X) = some (.p (.str b), S1 ++ X) := g
  have go : Ok (g__law_name_bound [.ref i] (S ++ X)) fun d T => d = .p (.str b) ∧ T = S1 ++ X := by
    refine gFn_w ?_
    unfold b__law_name_bound
    simp -dsimp [-List.map_map, e1, g]
    exact hold ⟨_, S1 ++ X, [], rfl, by simp, h.ls q1, rfl, rfl⟩
  exact ⟨b, S1, eq_ok go, hb, q1⟩
/-- what a drawing of makers promises -/
def MkOk (G : GN) (T : Tel) (S0 : DH) (i : Nat) (ns : List Int) (d B : Nat) : Prop :=
  ∀ (Γ : Gam) (kd : D) (x : Str) (S X : DH), QI S0 i ns S → KD S0.length X kd Γ → GaOk T Γ → x ∈ names T →
    ∃ (m : Mk) (S' : DH), G [.ref i, .p (telP T), .p (.str x), kd, .p (.int d)] (S ++ X) = some (.p (mkP m), S' ++ X) ∧ Made T Γ x m ∧ m.dep ≤ B ∧ m.ok ∧ QI S0 i ns S'
theorem sort_lits : ("none" : Str) ≠ "all" ∧ ("way" : Str) ≠ "all" ∧ ("box" : Str) ≠ "all" ∧ ("pick" : Str) ≠ "all" := by decide +kernel
theorem eq_none_ (h : Hd) : decide (sort h = ("none" : Str)) = match h with | .none => true | _ => false := by
  cases h with
  | all => exact (by decide +kernel : decide (("all" : Str) = "none") = false)
  | none => exact (by decide +kernel : decide (("none" : Str) = "none") = true)
  | way a b => exact (by decide +kernel : decide (("way" : Str) = "none") = false)
  | box ps => exact (by decide +kernel : decide (("box" : Str) = "none") = false)
  | pick ps => exact (by decide +kernel : decide (("pick" : Str) = "none") = false)
  | as_ a => exact (by decide +kernel : decide (("as" : Str) = "none") = false)
theorem eq_all_ (h : Hd) : decide (sort h = ("all" : Str)) = match h with | .all => true | _ => false := by
  cases h with
  | all => exact (by decide +kernel : decide (("all" : Str) = "all") = true)
  | none => exact (by decide +kernel : decide (("none" : Str) = "all") = false)
  | way a b => exact (by decide +kernel : decide (("way" : Str) = "all") = false)
  | box ps => exact (by decide +kernel : decide (("box" : Str) = "all") = false)
  | pick ps => exact (by decide +kernel : decide (("pick" : Str) = "all") = false)
  | as_ a => exact (by decide +kernel : decide (("as" : Str) = "all") = false)
def isPk : Hd → Bool
  | .pick ps => ps.isEmpty
  | _ => false
theorem isPk_iff {h : Hd} : isPk h = true ↔ h = .pick [] := by
  cases h with
  | pick ps =>
    cases ps with
    | nil => exact ⟨fun _ => rfl, fun _ => rfl⟩
    | cons p ps => exact ⟨(fun e => by cases e), fun e => by cases e⟩
  | _ => exact ⟨(fun e => by cases e), fun e => by cases e⟩
theorem endless_dep : endless.dep = 4 := rfl
theorem lits_ok : PyData.strOk "v" = true ∧ PyData.strOk "dn" = true ∧ PyData.strOk "zz" = true ∧ PyData.strOk "z" = true ∧ PyData.strOk "a" = true ∧ PyData.strOk "b" = true ∧ PyData.strOk "ba" = true ∧ PyData.strOk "" = true := by decide +kernel
theorem endless_k : endless.ok := ⟨⟨lits_ok.1, lits_ok.2.1, lits_ok.1, lits_ok.1⟩, lits_ok.1, lits_ok.2.1, lits_ok.1, lits_ok.1⟩
theorem for_step {Gs Gf Gw : GN} {d : Nat} (hi : i < S0.length) (tT : Tld T) (hF : ∀ e, d = e + 1 → MkOk Gf T S0 i ns e (4 + 3 * e)) (hW : ∀ e, d = e + 1 → MkOk Gw T S0 i ns e (6 + 3 * e)) :
    MkOk (gFn 14 false (b__law_for Gs Gf Gw)) T S0 i ns d (4 + 3 * d) := by
  intro Γ kd x S X hq hk hg hx
  have wf := tT.wf
  obtain ⟨hm, h, hd, ha⟩ := rowOf_ok wf hx
  have e1 := fun S => head_here_ok (S := S) wf hx hd
  have e2 := fun S => row_here_ok (S := S) wf hx
  have hA : hdA T x = h := by unfold hdA; rw [hd]; rfl
  have go : Ok (gFn 14 false (b__law_for Gs Gf Gw) [.ref i, .p (telP T), .p (.str x), kd, .p (.int d)] (S ++ X)) fun dd S1 => ∃ (m : Mk) (S' : DH), dd = .p (mkP m) ∧ S1 = S' ++ X ∧ Made T Γ x m ∧ m.dep ≤ 4 + 3 * d ∧ m.ok ∧ QI S0 i ns S' := by
    refine gFn_w ?_
    unfold b__law_for
    have fin : ∀ {m : Mk} {S' Y S1 : DH} {r : Fl}, r = .rt (.p (mkP m)) → S1 = (S' ++ X) ++ Y → Made T Γ x m → m.dep ≤ 4 + 3 * d → m.ok → QI S0 i ns S' → Hold (∃ z T' Y, r = .rt (.p z) ∧ S1 = T' ++ Y ∧ (T'.length = (S ++ X).length ∧ Safe (S ++ X) T') ∧ ∃ (m : Mk) (S'' : DH), D.p z = .p (mkP m) ∧ T' = S'' ++ X ∧ Made T Γ x m ∧ m.dep ≤ 4 + 3 * d ∧ m.ok ∧ QI S0 i ns S'') := fun {m S' Y S1 r} e eS o dd k q =>
      hold ⟨_, S' ++ X, Y, e, eS, hq.ls q, m, S', rfl, rfl, o, dd, k, q⟩
    generalize hQ : (fun (r : Fl) (S1 : DH) => Hold (∃ z T' Y, r = .rt (.p z) ∧ S1 = T' ++ Y ∧ (T'.length = (S ++ X).length ∧ Safe (S ++ X) T') ∧ ∃ (m : Mk) (S'' : DH), D.p z = .p (mkP m) ∧ T' = S'' ++ X ∧ Made T Γ x m ∧ m.dep ≤ 4 + 3 * d ∧ m.ok ∧ QI S0 i ns S'')) = Q
    have fin : ∀ {m : Mk} {S' Y : DH}, Made T Γ x m → m.dep ≤ 4 + 3 * d → m.ok → QI S0 i ns S' → Q (.rt (.p (mkP m))) (S' ++ (X ++ Y)) := fun {m S' Y} o dd k q => by
      rw [← hQ]; exact fin rfl (by rw [List.append_assoc]) o dd k q
    have fin0 : ∀ {m : Mk} {S' : DH}, Made T Γ x m → m.dep ≤ 4 + 3 * d → m.ok → QI S0 i ns S' → Q (.rt (.p (mkP m))) (S' ++ X) := fun {m S'} o dd k q => by
      have := fin (Y := []) o dd k q
      rwa [List.append_nil] at this
    refine seq_asg (.p (hdP h)) (S ++ X) (by simp -dsimp [e1]) ?_
    refine seq_asg (.p (.str (rowOf T x))) (S ++ X) (by simp -dsimp [e2]) ?_
    have hs := hk.sort (S := S) hq.len hg.len
    have hkl : (sortS (Γ.map (·.1))).length ≤ 4 := by have := sortS_lenO (Γ.map (·.1)); rw [List.length_map] at this; have := hg.len; omega
    refine seq_asg (.p (.lst (((sortS (Γ.map (·.1))).filter fun b => decide (dval Γ b = some (rowOf T x))).map .str))) (S ++ X) ?_ ?_
    · simp -dsimp [-List.map_map, hs, wipeD]
      refine ok_compF (fun b : Str => D.p (.str b)) (fun b => .str b) (fun b => decide (dval Γ b = some (rowOf T x))) (sortS (Γ.map (·.1))) (by simp) (by omega) trivial (fun b hb => ?_) ?_
      · obtain ⟨q, hq1, rfl⟩ := List.mem_map.mp (sortS_mem.mp hb)
        have hv : dval Γ q.1 = some q.2 := dval_of hg.nd hq1
        have g1 := hk.get (S := S) hq.len hv
        simp -dsimp [-List.map_map, g1, hv]
      · simp -dsimp [-List.map_map]
    generalize hL : (sortS (Γ.map (·.1))).filter (fun b => decide (dval Γ b = some (rowOf T x))) = L
    have hLm : ∀ b ∈ L, dval Γ b = some (rowOf T x) ∧ PyData.strOk b = true := fun b hb => by
      rw [← hL] at hb
      obtain ⟨h1, h2⟩ := List.mem_filter.mp hb
      obtain ⟨q, hq1, rfl⟩ := List.mem_map.mp (sortS_mem.mp h1)
      exact ⟨of_decide_eq_true h2, names4_ok _ (hg.kn q hq1)⟩
    have hLl : L.length ≤ 4 := by rw [← hL]; exact Nat.le_trans (List.length_filter_le _ _) hkl
    simp only [List.map, List.length, List.replicate, List.cons_append, List.nil_append, List.set, Nat.reduceSub, Nat.reduceAdd]
    refine ok_tail (fun ds' S' => ∃ S1, S' = S1 ++ X ∧ QI S0 i ns S1 ∧ ds' = [some (.ref i), some (.p (telP T)), some (.p (.str x)), some kd, some (.p (.int d)), some (.p (hdP h)), some (.p (.str (rowOf T x))), some (.p (.lst (L.map .str))), none, none, none, none, none, none]) ?_ ?_
    · have n1 := fun S => ne_nil_ (S := S) (l := L) fun b hb => (hLm b hb).2
      cases hLe : L.isEmpty with
      | true =>
        rw [hLe] at n1
        simp -dsimp [-List.map_map, n1]
        exact hold ⟨S, rfl, hq, rfl⟩
      | false =>
        rw [hLe] at n1
        obtain ⟨r, S1, f1, r0, r1, q1⟩ := hq.next (X := X) (many := 3) hi (by decide) (by decide)
        simp -dsimp [-List.map_map, n1, f1]
        refine ifK_dec (fun hr => ?_) fun hr => ?_
        · have hpos : 0 < L.length := by cases L with
            | nil => cases hLe
            | cons a l => exact Nat.succ_pos _
          obtain ⟨r2, S2, f2, r20, r21, q2⟩ := q1.next (X := X) (many := L.length) hi (by omega) (by omega)
          have gl : ∀ S : DH, gLen [.p (.lst (L.map .str))] S = some (.p (.int L.length), S) := fun S => by simp [gLen, seqD]
          obtain ⟨z, hz, g⟩ := pick_at (l := L.map .str) (S := S2 ++ X) r20 (by rw [List.length_map]; exact r21)
          obtain ⟨b, hb, rfl⟩ := List.mem_map.mp hz
          simp -dsimp [-List.map_map, gl, f2, g]
          exact fin0 (m := .get b) (.get (hLm b hb).1) (by show 1 ≤ _; omega) (hLm b hb).2 q2
        · exact hold ⟨S1, rfl, q1, rfl⟩
    clear hL hLm hLl
    rintro _ _ ⟨S1, rfl, q1, rfl⟩
    have e3 := fun S => ix_sort (S := S) h
    have hcl : ∀ a ∈ refs h, a ∈ names T := by
      have := hdOf_mem hd
      exact wf.cl _ this
    have hwo : ∀ w ∈ CK.wordsOf h, PyData.strOk w = true := (wf.ok _ (hdOf_mem hd)).2
    have hwl : (CK.wordsOf h).length ≤ 4 := (okWords_ok (tT.wd _ (hdOf_mem hd))).2
    have epk : ∀ S : DH, gEq (.p (hdP h)) (.p (.tup [.str "pick", .ftup []])) S = some (.p (.bl (isPk h)), S) := fun S => by
      have p1 := cl_hd hwo fun w hw => name_strOk wf (hcl w hw)
      have p2 := cl_hd (h := .pick []) (fun w hw => absurd hw List.not_mem_nil) (fun w hw => absurd hw List.not_mem_nil)
      exact gEq_cu (x := hdP h) (y := hdP (.pick [])) p1.1 p2.1 (by omega) (by omega) (isPk_iff.trans ⟨fun z => by rw [z], un_hdP⟩)
    have less : Made T Γ x endless := .less
    have ledep : endless.dep ≤ 4 + 3 * d := by rw [endless_dep]; omega
    have hnone := eq_none_ h
    have hall := eq_all_ h
    have hway := eq_way h
    have hpick := eq_pick h
    cases d with
    | zero =>
      have z0 : ∀ S : DH, gEq (.p (.int ((0 : Nat) : Int))) (.p (.int 0)) S = some (.p (.bl true), S) := fun S => rfl
      simp -dsimp [-List.map_map, z0, endless_ok]
      exact fin0 less ledep endless_k q1
    | succ e =>
    have z0 : ∀ S : DH, gEq (.p (.int ((e + 1 : Nat) : Int))) (.p (.int 0)) S = some (.p (.bl false), S) := fun S => by
      rw [gEq_int, decide_eq_false (by omega)]
    have z1 : ∀ S : DH, CK.gSub (.p (.int ((e + 1 : Nat) : Int))) (.p (.int 1)) S = some (.p (.int (e : Nat)), S) := fun S => by
      rw [gSub_int, show ((e + 1 : Nat) : Int) - 1 = (e : Int) by omega]
    generalize ((e + 1 : Nat) : Int) = dI at z0 z1
    have hF := hF e rfl
    have hW := hW e rfl
    cases h with
    | as_ a => cases ha
    | none =>
      have hnone : decide (sort Hd.none = ("none" : Str)) = true := hnone
      simp -dsimp [-List.map_map, -gEq_int, z0, e3, hnone, endless_ok]
      exact fin0 less ledep endless_k q1
    | all =>
      have hnone : decide (sort Hd.all = ("none" : Str)) = false := hnone
      have hall : decide (sort Hd.all = ("all" : Str)) = true := hall
      have epk : ∀ S : DH, gEq (.p (hdP .all)) (.p (.tup [.str "pick", .ftup []])) S = some (.p (.bl false), S) := epk
      obtain ⟨y, S2, f4, hy, q2⟩ := any2_ok (X := X) q1 hi tT
      obtain ⟨m, S3, f5, made, dep, ok, q3⟩ := hF Γ kd y S2 X q2 hk hg hy
      simp -dsimp [-List.map_map, -gEq_int, z0, z1, e3, hnone, hall, epk, f4, f5]
      exact fin0 (.all hA hy made) (by omega) ok q3
    | way a c =>
      have hnone : decide (sort (Hd.way a c) = ("none" : Str)) = false := hnone
      have hall : decide (sort (Hd.way a c) = ("all" : Str)) = false := hall
      have hway : decide (sort (Hd.way a c) = ("way" : Str)) = true := hway
      have epk : ∀ S : DH, gEq (.p (hdP (.way a c))) (.p (.tup [.str "pick", .ftup []])) S = some (.p (.bl false), S) := epk
      have han : a ∈ names T := hcl a List.mem_cons_self
      have hcn : c ∈ names T := hcl c (List.mem_cons_of_mem _ List.mem_cons_self)
      have i1 : ∀ S : DH, gIx (.p (hdP (.way a c))) (.p (.int 1)) S = some (.p (.str a), S) := fun S => ix1
      have i2 : ∀ S : DH, gIx (.p (hdP (.way a c))) (.p (.int 2)) S = some (.p (.str c), S) := fun S => ix2
      have c1 := hk.copy (S := S1) q1.len
      obtain ⟨b, S2, f1, hb, q2⟩ := name_bound_ok (X := X ++ [.dK (gaE Γ)]) q1 hi
      have e2 := fun S => row_here_ok (S := S) wf han
      have p1 := ga_put (S := S2) (X := X) (G := Γ) (b := b) (r := rowOf T a) q2.len hg.len
      have han2 : rowOf T a ∈ names T := (rowOf_ok wf han).1
      obtain ⟨m, S3, f2, made, dep, ok, q3⟩ := hW (dput Γ b (rowOf T a)) (.ref (S0.length + X.length)) c S2 (X ++ [.dK (gaE (dput Γ b (rowOf T a)))]) q2 KD.last (hg.put hb han2) hcn
      simp -dsimp [-List.map_map, -gEq_int, z0, z1, e3, hnone, hall, hway, epk, i1, i2, c1, f1, e2, p1, f2]
      exact fin (.fn hA made) (by show 1 + m.dep ≤ _; omega) ⟨names4_ok b hb, name_strOk wf han, ok⟩ q3
    | pick ps =>
      have hnone : decide (sort (Hd.pick ps) = ("none" : Str)) = false := hnone
      cases ps with
      | nil =>
        have epk : ∀ S : DH, gEq (.p (hdP (.pick []))) (.p (.tup [.str "pick", .ftup []])) S = some (.p (.bl true), S) := epk
        simp -dsimp [-List.map_map, -gEq_int, z0, e3, hnone, epk, endless_ok]
        exact fin0 less ledep endless_k q1
      | cons p0 ps =>
        have epk : ∀ S : DH, gEq (.p (hdP (.pick (p0 :: ps)))) (.p (.tup [.str "pick", .ftup []])) S = some (.p (.bl false), S) := epk
        have hpos : 0 < (p0 :: ps).length := Nat.succ_pos _
        generalize p0 :: ps = qs at *
        have hall : decide (sort (Hd.pick qs) = ("all" : Str)) = false := hall
        have hway : decide (sort (Hd.pick qs) = ("way" : Str)) = false := hway
        have hpick : decide (sort (Hd.pick qs) = ("pick" : Str)) = true := hpick
        have i1 : ∀ S : DH, gIx (.p (hdP (.pick qs))) (.p (.int 1)) S = some (.p (.ftup (qs.map prP)), S) := fun S => ix1
        have hql : qs.length ≤ 4 := by simpa [CK.wordsOf] using hwl
        have gl : ∀ S : DH, gLen [.p (.ftup (qs.map prP))] S = some (.p (.int qs.length), S) := fun S => by simp [gLen, seqD]
        obtain ⟨r, S2, f1, r0, r1, q2⟩ := q1.next (X := X) (many := qs.length) hi (by omega) (by omega)
        obtain ⟨q, hq, hat⟩ := atI_mem r0 r1
        have hix : ∀ S : DH, gIx (.p (.ftup (qs.map prP))) (.p (.int r)) S = some (.p (prP q), S) := fun S => by
          simp [gIx, gIxL, lstD, gIxT, tupD, atI_mp, hat]
        have hpq : prP q = .tup [.str q.1, .str q.2] := rfl
        have hqn : q.2 ∈ names T := hcl q.2 (List.mem_map.mpr ⟨q, hq, rfl⟩)
        obtain ⟨m, S3, f2, made, dep, ok, q3⟩ := hW Γ kd q.2 S2 X q2 hk hg hqn
        simp -dsimp [-List.map_map, -gEq_int, z0, z1, e3, hnone, hall, hway, hpick, epk, i1, gl, f1, hix, hpq, f2]
        exact fin0 (.pick hA hq made) (by show 1 + m.dep ≤ _; omega) ⟨hwo q.1 (List.mem_map.mpr ⟨q, hq, rfl⟩), ok⟩ q3
    | box qs =>
      have hnone : decide (sort (Hd.box qs) = ("none" : Str)) = false := hnone
      have hall : decide (sort (Hd.box qs) = ("all" : Str)) = false := hall
      have hway : decide (sort (Hd.box qs) = ("way" : Str)) = false := hway
      have hpick : decide (sort (Hd.box qs) = ("pick" : Str)) = false := hpick
      have epk : ∀ S : DH, gEq (.p (hdP (.box qs))) (.p (.tup [.str "pick", .ftup []])) S = some (.p (.bl false), S) := epk
      have i1 : ∀ S : DH, gIx (.p (hdP (.box qs))) (.p (.int 1)) S = some (.p (.ftup (qs.map prP)), S) := fun S => ix1
      have hql : qs.length ≤ 4 := by simpa [CK.wordsOf] using hwl
      simp -dsimp [-List.map_map, -gEq_int, z0, e3, hnone, hall, hway, hpick, epk, i1, wipeD]
      refine ok_compL (fun q : Str × Str => D.p (prP q)) (fun z : Me => D.p (peP z)) (fun pre done S' => Hold (∃ S2, S' = S2 ++ X ∧ QI S0 i ns S2 ∧ done.map (·.1) = pre.map (·.1) ∧ (∀ (k : Nat) (q : Str × Str) (z : Me), pre[k]? = some q → done[k]? = some z → Made T Γ q.2 z.2.2) ∧ ∀ z ∈ done, z.2.1 = "" ∧ z.2.2.dep ≤ 6 + 3 * e ∧ z.2.2.ok)) qs [] [] (by simp) (by omega) (hold ⟨S1, rfl, q1, rfl, by simp, by simp⟩) (fun _ _ _ _ => trivial) ?_ ?_
      · rintro pr q po dn _ hw' ⟨S4, rfl, q4, hlen, hmd, hmem⟩
        have hqm : q ∈ qs := by rw [← List.nil_append qs, hw']; simp
        have hqn : q.2 ∈ names T := hcl q.2 (List.mem_map.mpr ⟨q, hqm, rfl⟩)
        obtain ⟨m, S5, f2, made, dep, ok, q5⟩ := hW Γ kd q.2 S4 X q4 hk hg hqn
        have hpq : prP q = .tup [.str q.1, .str q.2] := rfl
        simp -dsimp [-List.map_map, -List.length_append, hpq, z1, f2]
        refine ⟨q.1, ("" : Str), m, rfl, hold ⟨S5, rfl, q5, by rw [List.map_append, List.map_append, hlen]; rfl, fun k q' z' h1 h2 => ?_, fun z hz => ?_⟩⟩
        · have hl : dn.length = pr.length := by have := congrArg List.length hlen; simpa using this
          by_cases hk' : k < pr.length
          · rw [List.getElem?_append_left hk'] at h1
            rw [List.getElem?_append_left (by omega)] at h2
            exact hmd k q' z' h1 h2
          · rw [List.getElem?_append_right (by omega)] at h1 h2
            rw [hl] at h2
            cases hj : k - pr.length with
            | zero => rw [hj] at h1 h2; cases h1; cases h2; exact made
            | succ j => rw [hj] at h1; cases h1
        · rcases List.mem_append.mp hz with hz | hz
          · exact hmem z hz
          · rw [List.mem_singleton.mp hz]; exact ⟨rfl, dep, ok⟩
      · rintro l _ ⟨S4, rfl, q4, hlen, hmd, hmem⟩
        rw [List.nil_append] at hlen hmem
        rw [List.nil_append] at hlen hmd
        have hmd : ∀ (k : Nat) (q : Str × Str) (z : Me), qs[k]? = some q → l[k]? = some z → Made T Γ q.2 z.2.2 := hmd
        have hll : l.length = qs.length := by have := congrArg List.length hlen; simpa using this
        have hmap : (l.map fun z => D.p (peP z)) = (l.map peP).map .p := by rw [List.map_map]; rfl
        have hwz : ∀ z ∈ l, PyData.strOk z.1 = true := fun z hz => by
          have : z.1 ∈ qs.map (·.1) := by rw [← hlen]; exact List.mem_map.mpr ⟨z, hz, rfl⟩
          exact hwo z.1 this
        have last : ∀ (more : List Me), (more = [] ∨ more = [(("z" : Str), ("" : Str), Mk.box .nil)]) → ∀ S5, QI S0 i ns S5 → Q (.rt (.p (.tup [.str "box", .ftup ((l ++ more).map peP)]))) (S5 ++ (X ++ [.lst (((l ++ more).map peP).map .p)])) := fun more hm S5 q5 => by
          have htP : P.tup [.str "box", .ftup ((l ++ more).map peP)] = mkP (.box (.of (l ++ more))) := by rw [mkP_box, Mks.l_of]
          have hz : ∀ z ∈ l ++ more, PyData.strOk z.1 = true ∧ PyData.strOk z.2.1 = true ∧ z.2.2.ok ∧ z.2.2.dep ≤ 6 + 3 * e := fun z hz => by
            rcases List.mem_append.mp hz with hz | hz
            · obtain ⟨h1, h2, h3⟩ := hmem z hz
              exact ⟨hwz z hz, by rw [h1]; exact lits_ok.2.2.2.2.2.2.2, h3, h2⟩
            · rcases hm with rfl | rfl
              · cases hz
              · rw [List.mem_singleton.mp hz]
                exact ⟨lits_ok.2.2.2.1, lits_ok.2.2.2.2.2.2.2, ⟨trivial, Nat.zero_le _⟩, by show 1 ≤ _; omega⟩
          have hml : more.length ≤ 1 := by rcases hm with rfl | rfl <;> simp
          rw [htP]
          refine fin (.box hA hlen hmd hm) ?_ ⟨Mks.ok_mk fun z h => ⟨(hz z h).1, (hz z h).2.1, (hz z h).2.2.1⟩, by rw [Mks.l_of, List.length_append]; omega⟩ q5
          have := Mks.dep_of (n := 6 + 3 * e) (l := l ++ more) fun z h => (hz z h).2.2.2
          show 1 + _ ≤ _
          omega
        obtain ⟨r, S5, f1, r0, r1, q5⟩ := q4.next (X := X ++ [.lst ((l.map peP).map .p)]) (many := 3) hi (by decide) (by decide)
        have hq4 := q4.len
        simp -dsimp [-List.map_map, -List.map_append, -gEq_int, hmap, hq4, f1]
        rw [gEq_int, ok_some]
        simp -dsimp [-List.map_map, -List.map_append, hmap, hq4]
        refine ifK_dec (fun hr => ?_) fun hr => ?_
        · have a1 := qz_isl (S := S5) (X := X) (Y := []) (l := (l.map peP).map .p) q5.len
          have a2 := qz_app (S := S5) (X := X) (Y := []) (l := (l.map peP).map .p) (x := peP (("z" : Str), ("" : Str), Mk.box .nil)) q5.len (by rw [List.length_map, List.length_map]; omega)
          have a3 : (l.map peP).map D.p ++ [D.p (peP (("z" : Str), ("" : Str), Mk.box .nil))] = ((l ++ [(("z" : Str), ("" : Str), Mk.box .nil)]).map peP).map .p := by simp
          rw [a3] at a2
          have a4 : peP (("z" : Str), ("" : Str), Mk.box .nil) = .tup [.str "z", .tup [.str "box", .ftup []]] := rfl
          rw [a4] at a2
          have a5 := qz_tup (S := S5) (X := X) (Y := []) (m := (l ++ [(("z" : Str), ("" : Str), Mk.box .nil)]).map peP) q5.len
          simp -dsimp [-List.map_map, -List.map_append, a1, a2, a5]
          exact last _ (.inr rfl) S5 q5
        · have a5 := qz_tup (S := S5) (X := X) (Y := []) (m := l.map peP) q5.len
          simp -dsimp [-List.map_map, -List.map_append, a5]
          have := last [] (.inl rfl) S5 q5
          rw [List.append_nil] at this
          exact this
  obtain ⟨dd, S1, e, m, S', rfl, rfl, h1, h2, h3, h4⟩ := ok_ex go
  exact ⟨m, S', e, h1, h2, h3, h4⟩
end
end CKP
/-! MKE: drawn makers (_law_wrapped, _law_split_over, _law_small_maker). -/
namespace CKP
open PySem PySem.Spec PyProof.Rows L2 CK

section
variable {S0 S X : DH} {i : Nat} {ns : List Int} {T : Tel}
theorem wrapped_step {Gs Gf Gw : GN} {d : Nat} (hi : i < S0.length) (tT : Tld T) (hF0 : MkOk Gf T S0 i ns d (4 + 3 * d)) (hF : ∀ e, d = e + 1 → MkOk Gf T S0 i ns e (4 + 3 * e)) (hS : ∀ e, d = e + 1 → MkOk Gs T S0 i ns d (6 + 3 * d)) :
    MkOk (gFn 14 false (b__law_wrapped Gs Gf Gw)) T S0 i ns d (6 + 3 * d) := by
  intro Γ kd x S X hq hk hg hx
  have wf := tT.wf
  have go : Ok (gFn 14 false (b__law_wrapped Gs Gf Gw) [.ref i, .p (telP T), .p (.str x), kd, .p (.int d)] (S ++ X)) fun dd S1 => ∃ (m : Mk) (S' : DH), dd = .p (mkP m) ∧ S1 = S' ++ X ∧ Made T Γ x m ∧ m.dep ≤ 6 + 3 * d ∧ m.ok ∧ QI S0 i ns S' := by
    refine gFn_w ?_
    unfold b__law_wrapped
    have fin : ∀ {m : Mk} {S' Y S1 : DH} {r : Fl}, r = .rt (.p (mkP m)) → S1 = (S' ++ X) ++ Y → Made T Γ x m → m.dep ≤ 6 + 3 * d → m.ok → QI S0 i ns S' → Hold (∃ z T' Y, r = .rt (.p z) ∧ S1 = T' ++ Y ∧ (T'.length = (S ++ X).length ∧ Safe (S ++ X) T') ∧ ∃ (m : Mk) (S'' : DH), D.p z = .p (mkP m) ∧ T' = S'' ++ X ∧ Made T Γ x m ∧ m.dep ≤ 6 + 3 * d ∧ m.ok ∧ QI S0 i ns S'') := fun {m S' Y S1 r} e eS o dd k q =>
      hold ⟨_, S' ++ X, Y, e, eS, hq.ls q, m, S', rfl, rfl, o, dd, k, q⟩
    generalize hQ : (fun (r : Fl) (S1 : DH) => Hold (∃ z T' Y, r = .rt (.p z) ∧ S1 = T' ++ Y ∧ (T'.length = (S ++ X).length ∧ Safe (S ++ X) T') ∧ ∃ (m : Mk) (S'' : DH), D.p z = .p (mkP m) ∧ T' = S'' ++ X ∧ Made T Γ x m ∧ m.dep ≤ 6 + 3 * d ∧ m.ok ∧ QI S0 i ns S'')) = Q
    have fin : ∀ {m : Mk} {S' Y : DH}, Made T Γ x m → m.dep ≤ 6 + 3 * d → m.ok → QI S0 i ns S' → Q (.rt (.p (mkP m))) (S' ++ (X ++ Y)) := fun {m S' Y} o dd k q => by
      rw [← hQ]; exact fin rfl (by rw [List.append_assoc]) o dd k q
    have fin0 : ∀ {m : Mk} {S' : DH}, Made T Γ x m → m.dep ≤ 6 + 3 * d → m.ok → QI S0 i ns S' → Q (.rt (.p (mkP m))) (S' ++ X) := fun {m S'} o dd k q => by
      have := fin (Y := []) o dd k q
      rwa [List.append_nil] at this
    obtain ⟨r, S1, f1, r0, r1, q1⟩ := hq.next (X := X) (many := 9) hi (by decide) (by decide)
    obtain ⟨m0, S2, f2, made0, dep0, ok0, q2⟩ := hF0 Γ kd x S1 X q1 hk hg hx
    cases d with
    | zero =>
      have z0 : ∀ S : DH, gEq (.p (.int ((0 : Nat) : Int))) (.p (.int 0)) S = some (.p (.bl true), S) := fun S => rfl
      have f2 : Gf [.ref i, .p (telP T), .p (.str x), kd, .p (.int 0)] (S1 ++ X) = some (.p (mkP m0), S2 ++ X) := f2
      simp -dsimp [-List.map_map, f1, z0, f2]
      exact fin0 made0 (by omega) ok0 q2
    | succ e =>
    have hne : ((e + 1 : Nat) : Int) ≠ 0 := by omega
    have hsb : ((e + 1 : Nat) : Int) - 1 = (e : Int) := by omega
    have hS := hS e rfl
    unfold MkOk at hS
    generalize ((e + 1 : Nat) : Int) = dI at hne hsb f2 hS
    have hF := hF e rfl
    obtain ⟨y, T1, t1, hy, p1⟩ := any2_ok (X := X) q1 hi tT
    have c1 := hk.copy (S := T1) p1.len
    obtain ⟨b, T2, t2, hb, p2⟩ := name_bound_ok (X := X ++ [.dK (gaE Γ)]) p1 hi
    have t3 := fun S => row_here_ok (S := S) wf hy
    have t4 := ga_put (S := T2) (X := X) (G := Γ) (b := b) (r := rowOf T y) p2.len hg.len
    have hg2 := hg.put hb (rowOf_ok wf hy).1
    obtain ⟨m1, T3, t5, made1, dep1, ok1, p3⟩ := hF Γ kd y T2 (X ++ [.dK (gaE (dput Γ b (rowOf T y)))]) p2 hk.app hg hy
    obtain ⟨m2, T4, t6, made2, dep2, ok2, p4⟩ := hF (dput Γ b (rowOf T y)) (.ref (S0.length + X.length)) x T3 (X ++ [.dK (gaE (dput Γ b (rowOf T y)))]) p3 KD.last hg2 hx
    have hbo := names4_ok b hb
    rcases (by omega : r = 0 ∨ r = 1 ∨ r = 2 ∨ r = 3 ∨ r = 4 ∨ 4 < r) with rfl | rfl | rfl | rfl | rfl | hr
    · simp -dsimp [-List.map_map, f1, hne, f2]
      exact fin0 (.hold made0) (by show 1 + m0.dep ≤ _; omega) ⟨ok0, name_strOk wf hx⟩ q2
    · simp -dsimp [-List.map_map, f1, hne, f2]
      refine fin0 (m := .part (.box (.of [(("a" : Str), ("" : Str), m0), (("b" : Str), ("" : Str), .box .nil)])) "a") (.part made0) ?_ ?_ q2
      · show 1 + (1 + max m0.dep (max (1 + 0) 0)) ≤ _; omega
      · exact ⟨⟨⟨lits_ok.2.2.2.2.1, lits_ok.2.2.2.2.2.2.2, ok0, lits_ok.2.2.2.2.2.1, lits_ok.2.2.2.2.2.2.2, ⟨trivial, Nat.zero_le _⟩, trivial⟩, by show 2 ≤ 1000; decide⟩, lits_ok.2.2.2.2.1⟩
    · simp -dsimp [-List.map_map, f1, hne, hsb, t1, c1, t2, t3, t4, t5, t6]
      refine fin (m := .call (.fn b y m2) m1) (.call hy made1 made2) ?_ ⟨⟨hbo, name_strOk wf hy, ok2⟩, ok1⟩ p4
      show 1 + max (1 + m2.dep) m1.dep ≤ _; omega
    · obtain ⟨k, T5, t7, k0, k1, p5⟩ := p4.next (X := X ++ [.dK (gaE (dput Γ b (rowOf T y)))]) (many := 3) hi (by decide) (by decide)
      obtain ⟨k, rfl⟩ : ∃ n : Nat, k = n := ⟨k.toNat, by omega⟩
      have hk3 : k < 3 := by omega
      simp -dsimp [-List.map_map, f1, hne, hsb, t1, c1, t2, t3, t4, t5, t6, t7, wipeD]
      refine ok_compM (fun w : Str => D.p (.str w)) (fun w : Str => ceP (w, b, zzM)) ["a", "b", "ba"] (by simp) (by decide) trivial (fun w hw => ?_) ?_
      · simp -dsimp [-List.map_map]
        rfl
      · have hcs : ((["a", "b", "ba"] : List Str).map fun w => ceP (w, b, zzM)) = (([(("a" : Str), b, zzM), (("b" : Str), b, zzM), (("ba" : Str), b, zzM)] : List Me).map ceP) := rfl
        rw [hcs]
        generalize hl0 : ([(("a" : Str), b, zzM), (("b" : Str), b, zzM), (("ba" : Str), b, zzM)] : List Me) = l0
        obtain ⟨w, hw, hw0⟩ : ∃ w, (["a", "b", "ba"] : List Str)[k]? = some w ∧ l0[k]? = some (w, b, zzM) := by
          rw [← hl0]
          rcases (by omega : k = 0 ∨ k = 1 ∨ k = 2) with rfl | rfl | rfl
          · exact ⟨"a", rfl, rfl⟩
          · exact ⟨"b", rfl, rfl⟩
          · exact ⟨"ba", rfl, rfl⟩
        have hl3 : l0.length = 3 := by rw [← hl0]; rfl
        have hwk : PyData.strOk w = true := by
          have := List.mem_of_getElem? hw
          simp only [List.mem_cons, List.not_mem_nil, or_false] at this
          rcases this with rfl | rfl | rfl
          · exact lits_ok.2.2.2.2.1
          · exact lits_ok.2.2.2.2.2.1
          · exact lits_ok.2.2.2.2.2.2.1
        have g0 := qz_ix (S := T5) (X := X ++ [.dK (gaE (dput Γ b (rowOf T y)))]) (Y := []) (l := (l0.map ceP).map .p) (i := (k : Int)) p5.len
        have g1 := qz_ix (S := T5) (X := X ++ [.dK (gaE (dput Γ b (rowOf T y)))]) (Y := []) (l := ((l0.set k (w, b, m2)).map ceP).map .p) (i := (k : Int)) p5.len
        have g2 := qz_setl (S := T5) (X := X ++ [.dK (gaE (dput Γ b (rowOf T y)))]) (Y := []) (l := (l0.map ceP).map .p) (x := ceP (w, b, m2)) (i := (k : Int)) (k := k) p5.len (by
          rw [List.length_map, List.length_map, hl3]
          rcases (by omega : k = 0 ∨ k = 1 ∨ k = 2) with rfl | rfl | rfl <;> rfl)
        have g3 := qz_tup (S := T5) (X := X ++ [.dK (gaE (dput Γ b (rowOf T y)))]) (Y := []) (m := (l0.set k (w, b, m2)).map ceP) p5.len
        have h0 : atI ((l0.map ceP).map D.p) (k : Int) = some (.p (ceP (w, b, zzM))) := atI_ok (n := k) (by rw [List.getElem?_map, List.getElem?_map, hw0]; rfl) rfl
        have h1 : atI (((l0.set k (w, b, m2)).map ceP).map D.p) (k : Int) = some (.p (ceP (w, b, m2))) := atI_ok (n := k) (by rw [List.getElem?_map, List.getElem?_map, List.getElem?_set_self (by omega)]; rfl) rfl
        have h2 : ((l0.map ceP).map D.p).set k (.p (ceP (w, b, m2))) = ((l0.set k (w, b, m2)).map ceP).map .p := by rw [List.map_set, List.map_set]
        rw [h0] at g0
        rw [h1] at g1
        rw [h2] at g2
        simp only [List.append_assoc, List.length_append, List.length_singleton, List.singleton_append, List.cons_append, List.nil_append, Option.map_some] at g0 g1 g2 g3
        have hc1 : ceP (w, b, zzM) = .tup [.str w, .str b, mkP zzM] := rfl
        have hc2 : ceP (w, b, m2) = .tup [.str w, .str b, mkP m2] := rfl
        rw [hc1] at g0
        rw [hc2] at g1 g2
        have hz0 : ∀ (p q : P) (S : DH), gIx (.p (.tup [.str w, p, q])) (.p (.int 0)) S = some (.p (.str w), S) := fun p q S => rfl
        simp -dsimp [-List.map_map, -List.map_set, p5.len, g0, g1, g2, g3, hz0]
        have htP : P.tup [.str "split", .tup [.str "pick", .str w, mkP m1], .ftup ((l0.set k (w, b, m2)).map ceP)] = mkP (.split (.pick w m1) (.of (l0.set k (w, b, m2)))) := by rw [mkP_split, Mks.l_of]; rfl
        rw [htP]
        have hz : ∀ z ∈ l0.set k (w, b, m2), PyData.strOk z.1 = true ∧ PyData.strOk z.2.1 = true ∧ z.2.2.ok ∧ z.2.2.dep ≤ 4 + 3 * e := fun z hz => by
          rcases List.mem_or_eq_of_mem_set hz with hz | rfl
          · rw [← hl0] at hz
            simp only [List.mem_cons, List.not_mem_nil, or_false] at hz
            have zk : zzM.ok ∧ zzM.dep ≤ 4 + 3 * e := ⟨⟨⟨trivial, Nat.zero_le _⟩, lits_ok.2.2.1⟩, by show 1 + (1 + 0) ≤ _; omega⟩
            rcases hz with rfl | rfl | rfl
            · exact ⟨lits_ok.2.2.2.2.1, hbo, zk.1, zk.2⟩
            · exact ⟨lits_ok.2.2.2.2.2.1, hbo, zk.1, zk.2⟩
            · exact ⟨lits_ok.2.2.2.2.2.2.1, hbo, zk.1, zk.2⟩
          · exact ⟨hwk, hbo, ok2, dep2⟩
        have hdp := Mks.dep_of (n := 4 + 3 * e) (l := l0.set k (w, b, m2)) fun z h => (hz z h).2.2.2
        have made : Made T Γ x (.split (.pick w m1) (.of (l0.set k (w, b, m2)))) := by rw [← hl0]; exact .split hy made1 made2 hw
        refine fin (Y := [_, _]) made ?_ ⟨⟨hwk, ok1⟩, Mks.ok_mk fun z h => ⟨(hz z h).1, (hz z h).2.1, (hz z h).2.2.1⟩, by rw [Mks.l_of, List.length_set, hl3]; decide⟩ p5
        show 1 + max (1 + m1.dep) _ ≤ _; omega
    · obtain ⟨m1, S3, f3, made1, dep1, ok1, q3⟩ := hS Γ kd x S1 X q1 hk hg hx
      simp -dsimp [-List.map_map, f1, hne, f3]
      exact fin0 made1 dep1 ok1 q3
    · simp -dsimp [-List.map_map, f1, hne, hr, f2]
      exact fin0 made0 (by omega) ok0 q2
  obtain ⟨dd, S1, e, m, S', rfl, rfl, h1, h2, h3, h4⟩ := ok_ex go
  exact ⟨m, S', e, h1, h2, h3, h4⟩
theorem ne_pnil {S : DH} {qs : List (Str × Str)} (h : ∀ q ∈ qs, PyData.strOk q.1 = true ∧ PyData.strOk q.2 = true) : gNe (.p (.ftup (qs.map prP))) (.p (.ftup [])) S = some (.p (.bl (!qs.isEmpty)), S) := by
  obtain ⟨h1, h2⟩ := plain_lst (l := qs.map prP) (fun x hx => by
    obtain ⟨q, hq, rfl⟩ := List.mem_map.mp hx
    obtain ⟨a, b⟩ := h q hq
    refine ⟨?_, by show (max 0 (max 0 0)) + 1 ≤ 32; decide⟩
    show (PyData.strOk q.1 && (PyData.strOk q.2 && true)) = true
    rw [a, b]; rfl)
  have h2 : pdep (un (P.ftup (qs.map prP))) ≤ 33 := h2
  refine gNe_cu h1 rfl (by omega) (by show 0 + 1 ≤ 64; decide) ?_
  show qs.isEmpty = true ↔ P.tup (uns (qs.map prP)) = P.tup []
  cases qs with
  | nil => simp [uns]
  | cons x r => simp [uns]
def isPk1 (r : Str × Hd) : Bool := match r.2 with
  | .pick ps => !ps.isEmpty
  | _ => false
theorem over_step {Gs Gf Gw : GN} {d e : Nat} (he : d = e + 1) (hi : i < S0.length) (tT : Tld T) (hF0 : MkOk Gf T S0 i ns d (4 + 3 * d)) (hF : MkOk Gf T S0 i ns e (4 + 3 * e)) :
    MkOk (gFn 15 false (b__law_split_over Gs Gf Gw)) T S0 i ns d (6 + 3 * d) := by
  subst he
  intro Γ kd x S X hq hk hg hx
  have wf := tT.wf
  have hsb : ((e + 1 : Nat) : Int) - 1 = (e : Int) := by omega
  unfold MkOk at hF0
  have go : Ok (gFn 15 false (b__law_split_over Gs Gf Gw) [.ref i, .p (telP T), .p (.str x), kd, .p (.int ((e + 1 : Nat) : Int))] (S ++ X)) fun dd S1 => ∃ (m : Mk) (S' : DH), dd = .p (mkP m) ∧ S1 = S' ++ X ∧ Made T Γ x m ∧ m.dep ≤ 6 + 3 * (e + 1) ∧ m.ok ∧ QI S0 i ns S' := by
    generalize ((e + 1 : Nat) : Int) = dI at hsb hF0
    refine gFn_w ?_
    unfold b__law_split_over
    have fin : ∀ {m : Mk} {S' Y S1 : DH} {r : Fl}, r = .rt (.p (mkP m)) → S1 = (S' ++ X) ++ Y → Made T Γ x m → m.dep ≤ 6 + 3 * (e + 1) → m.ok → QI S0 i ns S' → Hold (∃ z T' Y, r = .rt (.p z) ∧ S1 = T' ++ Y ∧ (T'.length = (S ++ X).length ∧ Safe (S ++ X) T') ∧ ∃ (m : Mk) (S'' : DH), D.p z = .p (mkP m) ∧ T' = S'' ++ X ∧ Made T Γ x m ∧ m.dep ≤ 6 + 3 * (e + 1) ∧ m.ok ∧ QI S0 i ns S'') := fun {m S' Y S1 r} e eS o dd k q =>
      hold ⟨_, S' ++ X, Y, e, eS, hq.ls q, m, S', rfl, rfl, o, dd, k, q⟩
    generalize hQ : (fun (r : Fl) (S1 : DH) => Hold (∃ z T' Y, r = .rt (.p z) ∧ S1 = T' ++ Y ∧ (T'.length = (S ++ X).length ∧ Safe (S ++ X) T') ∧ ∃ (m : Mk) (S'' : DH), D.p z = .p (mkP m) ∧ T' = S'' ++ X ∧ Made T Γ x m ∧ m.dep ≤ 6 + 3 * (e + 1) ∧ m.ok ∧ QI S0 i ns S'')) = Q
    have fin : ∀ {m : Mk} {S' Y : DH}, Made T Γ x m → m.dep ≤ 6 + 3 * (e + 1) → m.ok → QI S0 i ns S' → Q (.rt (.p (mkP m))) (S' ++ (X ++ Y)) := fun {m S' Y} o dd k q => by
      rw [← hQ]; exact fin rfl (by rw [List.append_assoc]) o dd k q
    have fin0 : ∀ {m : Mk} {S' : DH}, Made T Γ x m → m.dep ≤ 6 + 3 * (e + 1) → m.ok → QI S0 i ns S' → Q (.rt (.p (mkP m))) (S' ++ X) := fun {m S'} o dd k q => by
      have := fin (Y := []) o dd k q
      rwa [List.append_nil] at this
    have hit : ∀ S : DH, itD S (.p (telP T)) = some ((T.map rowP).map .p, fun _ => True) := fun S => rfl
    have hTl := tT.len
    refine seq_asg (.p (.lst (((T.filter isPk1).map (·.1)).map .str))) (S ++ X) ?_ ?_
    · simp -dsimp [-List.map_map, hit, wipeD]
      refine ok_compF (fun r : Str × Hd => D.p (rowP r)) (fun r => .str r.1) isPk1 T (by rw [List.map_map]; rfl) (by omega) trivial (fun r hr => ?_) ?_
      · have hrp : rowP r = .tup [.str r.1, hdP r.2] := rfl
        have e3 := fun S => ix_sort (S := S) r.2
        have hpk := eq_pick r.2
        cases hh : r.2 with
        | pick ps =>
          rw [hh] at e3 hpk
          have hpk : decide (sort (Hd.pick ps) = ("pick" : Str)) = true := hpk
          have i1 : ∀ S : DH, gIx (.p (hdP (.pick ps))) (.p (.int 1)) S = some (.p (.ftup (ps.map prP)), S) := fun S => ix1
          have n1 := fun S => ne_pnil (S := S) (qs := ps) fun q hq => ⟨(wf.ok r hr).2 q.1 (by rw [hh]; exact List.mem_map.mpr ⟨q, hq, rfl⟩), name_strOk wf (wf.cl r hr q.2 (by rw [hh]; exact List.mem_map.mpr ⟨q, hq, rfl⟩))⟩
          have hp : isPk1 r = !ps.isEmpty := by unfold isPk1; rw [hh]
          simp -dsimp [-List.map_map, hrp, hh, e3, hpk, i1, n1, hp]
        | _ =>
          rw [hh] at e3 hpk
          have hp : isPk1 r = false := by unfold isPk1; rw [hh]
          dsimp only at hpk
          simp -dsimp [-List.map_map, hrp, hh, e3, hpk, hp]
      · have : (T.filter isPk1).map (fun r => P.str r.1) = ((T.filter isPk1).map (·.1)).map P.str := by rw [List.map_map]; rfl
        rw [this]
        simp -dsimp [-List.map_map]
    generalize hL : (T.filter isPk1).map (·.1) = L
    have hLm : ∀ r ∈ L, ∃ ps, hdOf T r = some (.pick ps) ∧ ps ≠ [] ∧ r ∈ names T := fun r hr => by
      rw [← hL] at hr
      obtain ⟨z, hz, rfl⟩ := List.mem_map.mp hr
      obtain ⟨h1, h2⟩ := List.mem_filter.mp hz
      have h3 := hdOf_eq wf h1
      unfold isPk1 at h2
      cases hh : z.2 with
      | pick ps =>
        rw [hh] at h2 h3
        exact ⟨ps, h3, (fun e => by rw [e] at h2; cases h2), List.mem_map.mpr ⟨z, h1, rfl⟩⟩
      | _ => rw [hh] at h2; cases h2
    have hLl : L.length ≤ 16 := by rw [← hL, List.length_map]; exact Nat.le_trans (List.length_filter_le _ _) hTl
    have n1 := fun S => eq_nil_ (S := S) (l := L) fun r hr => by obtain ⟨_, _, _, h⟩ := hLm r hr; exact name_strOk wf h
    cases hLe : L.isEmpty with
    | true =>
      rw [hLe] at n1
      obtain ⟨m0, S2, f2, made0, dep0, ok0, q2⟩ := hF0 Γ kd x S X hq hk hg hx
      simp -dsimp [-List.map_map, n1, f2]
      exact fin0 made0 (by omega) ok0 q2
    | false =>
      rw [hLe] at n1
      have hpos : 0 < L.length := by cases L with
        | nil => cases hLe
        | cons a l => exact Nat.succ_pos _
      have gl : ∀ S : DH, gLen [.p (.lst (L.map .str))] S = some (.p (.int L.length), S) := fun S => by simp [gLen, seqD]
      obtain ⟨k, S1, f1, k0, k1, q1⟩ := hq.next (X := X) (many := L.length) hi (by omega) (by omega)
      obtain ⟨z, hz, g⟩ := pick_at (l := L.map .str) (S := S1 ++ X) k0 (by rw [List.length_map]; exact k1)
      obtain ⟨r, hr, rfl⟩ := List.mem_map.mp hz
      obtain ⟨ps, hps, hne, hrn⟩ := hLm r hr
      obtain ⟨n, S2, f2, maden, depn, okn, q2⟩ := hF Γ kd r S1 X q1 hk hg hrn
      have e1 := fun S => dict_tel (S := S) wf.nd
      have e2 : ∀ S : DH, gIx (.p (.dK (rowsK T))) (.p (.str r)) S = some (.p (hdP (.pick ps)), S) := fun S => by rw [ix_rows, hps]; rfl
      have i1 : ∀ S : DH, gIx (.p (hdP (.pick ps))) (.p (.int 1)) S = some (.p (.ftup (ps.map prP)), S) := fun S => ix1
      have hmem := hdOf_mem hps
      have hwo : ∀ w ∈ ps.map (·.1), PyData.strOk w = true := (wf.ok _ hmem).2
      have hql : ps.length ≤ 4 := by have := (okWords_ok (tT.wd _ hmem)).2; simpa [CK.wordsOf] using this
      have hcl : ∀ q ∈ ps, q.2 ∈ names T := fun q hq => wf.cl _ hmem q.2 (List.mem_map.mpr ⟨q, hq, rfl⟩)
      have hq2 := q2.len
      simp -dsimp [-List.map_map, n1, gl, f1, g, hsb, f2, e1, e2, i1, hq2]
      refine ok_forL0 (fun q : Str × Str => D.p (prP q)) ps (fun pre ds S' => ∃ (S3 Y : DH) (l : List Me) (c9 c10 c11 c12 c13 c14 : Option D), S' = S3 ++ (X ++ (.lst ((l.map ceP).map .p) :: Y)) ∧ QI S0 i ns S3 ∧ l.map (·.1) = pre.map (·.1) ∧ (∀ (k : Nat) (q : Str × Str) (z : Me), pre[k]? = some q → l[k]? = some z → Made T (dput Γ z.2.1 (rowOf T q.2)) x z.2.2) ∧ (∀ z ∈ l, PyData.strOk z.2.1 = true ∧ z.2.2.dep ≤ 4 + 3 * e ∧ z.2.2.ok) ∧
        ds = [some (.ref i), some (.p (telP T)), some (.p (.str x)), some kd, some (.p (.int dI)), some (.p (.lst (L.map .str))), some (.p (.str r)), some (.p (.tup [.str "hold", mkP n, .str r])), some (.ref (S0.length + X.length)), c9, c10, c11, c12, c13, c14]) (by rw [List.map_map]; rfl) ⟨S2, [], [], none, none, none, none, none, none, rfl, q2, rfl, by simp, by simp, rfl⟩ (fun _ _ _ _ => trivial) ?_ ?_
      · rintro pr q po ds _ hp ⟨S3, Y, l, c9, c10, c11, c12, c13, c14, rfl, q3, hlen, hmd, hlm, rfl⟩
        have hpq : prP q = .tup [.str q.1, .str q.2] := rfl
        have hqm : q ∈ ps := by rw [hp]; simp
        have hqn := hcl q hqm
        have hll : l.length = pr.length := by have := congrArg List.length hlen; simpa using this
        have hpl : pr.length < 4 := by have := congrArg List.length hp; simp at this; omega
        obtain ⟨b, S4, t1, hb, q4⟩ := name_bound_ok (X := X ++ (.lst ((l.map ceP).map .p) :: Y)) q3 hi
        have t2 := (hk.app (Y := .lst ((l.map ceP).map .p) :: Y)).copy (S := S4) q4.len
        have t3 := fun S => row_here_ok (S := S) wf hqn
        have t4 := ga_put (S := S4) (X := X ++ (.lst ((l.map ceP).map .p) :: Y)) (G := Γ) (b := b) (r := rowOf T q.2) q4.len hg.len
        have hg2 := hg.put hb (rowOf_ok wf hqn).1
        obtain ⟨m2, S5, t5, made2, dep2, ok2, q5⟩ := hF (dput Γ b (rowOf T q.2)) (.ref (S0.length + (X ++ (.lst ((l.map ceP).map .p) :: Y)).length)) x S4 ((X ++ (.lst ((l.map ceP).map .p) :: Y)) ++ [.dK (gaE (dput Γ b (rowOf T q.2)))]) q4 KD.last hg2 hx
        have t6 := qz_isl (S := S5) (X := X) (Y := Y ++ [.dK (gaE (dput Γ b (rowOf T q.2)))]) (l := (l.map ceP).map .p) q5.len
        have t7 := qz_app (S := S5) (X := X) (Y := Y ++ [.dK (gaE (dput Γ b (rowOf T q.2)))]) (l := (l.map ceP).map .p) (x := ceP (q.1, b, m2)) q5.len (by rw [List.length_map, List.length_map]; omega)
        have hc : ceP (q.1, b, m2) = .tup [.str q.1, .str b, mkP m2] := rfl
        have t8 : (l.map ceP).map D.p ++ [D.p (ceP (q.1, b, m2))] = ((l ++ [(q.1, b, m2)]).map ceP).map .p := by simp
        rw [t8, hc] at t7
        simp only [List.append_assoc, List.cons_append, List.length_append, List.length_cons] at t1 t2 t4 t5
        simp -dsimp [-List.map_map, -List.map_append, hpq, t1, t2, t3, t4, hsb, t5, t6, t7]
        refine hold ⟨S5, Y ++ [.dK (gaE (dput Γ b (rowOf T q.2)))], l ++ [(q.1, b, m2)], _, _, _, _, _, _, rfl, q5, by rw [List.map_append, List.map_append, hlen]; rfl, fun k q' z' h1 h2 => ?_, fun z hz => ?_, rfl⟩
        · by_cases hk' : k < pr.length
          · rw [List.getElem?_append_left hk'] at h1
            rw [List.getElem?_append_left (by omega)] at h2
            exact hmd k q' z' h1 h2
          · rw [List.getElem?_append_right (by omega)] at h1 h2
            rw [hll] at h2
            cases hj : k - pr.length with
            | zero => rw [hj] at h1 h2; cases h1; cases h2; exact made2
            | succ j => rw [hj] at h1; cases h1
        · rcases List.mem_append.mp hz with hz | hz
          · exact hlm z hz
          · rw [List.mem_singleton.mp hz]; exact ⟨names4_ok b hb, dep2, ok2⟩
      · rintro ds _ ⟨S3, Y, l, c9, c10, c11, c12, c13, c14, rfl, q3, hlen, hmd, hlm, rfl⟩
        have hll : l.length = ps.length := by have := congrArg List.length hlen; simpa using this
        have hwz : ∀ z ∈ l, PyData.strOk z.1 = true := fun z hz => by
          have : z.1 ∈ ps.map (·.1) := by rw [← hlen]; exact List.mem_map.mpr ⟨z, hz, rfl⟩
          exact hwo z.1 this
        have last : ∀ (more : List Me), (more = [] ∨ more = [(("zz" : Str), ("v" : Str), zzM)]) → ∀ S5, QI S0 i ns S5 → Q (.rt (.p (.tup [.str "split", .tup [.str "hold", mkP n, .str r], .ftup ((l ++ more).map ceP)]))) (S5 ++ (X ++ (.lst (((l ++ more).map ceP).map .p) :: Y))) := fun more hm S5 q5 => by
          have htP : P.tup [.str "split", .tup [.str "hold", mkP n, .str r], .ftup ((l ++ more).map ceP)] = mkP (.split (.hold n r) (.of (l ++ more))) := by rw [mkP_split, Mks.l_of]; rfl
          have hz : ∀ z ∈ l ++ more, PyData.strOk z.1 = true ∧ PyData.strOk z.2.1 = true ∧ z.2.2.ok ∧ z.2.2.dep ≤ 4 + 3 * e := fun z hz => by
            rcases List.mem_append.mp hz with hz | hz
            · obtain ⟨h1, h2, h3⟩ := hlm z hz
              exact ⟨hwz z hz, h1, h3, h2⟩
            · rcases hm with rfl | rfl
              · cases hz
              · rw [List.mem_singleton.mp hz]
                exact ⟨lits_ok.2.2.1, lits_ok.1, ⟨⟨trivial, Nat.zero_le _⟩, lits_ok.2.2.1⟩, by show 1 + (1 + 0) ≤ _; omega⟩
          have hml : more.length ≤ 1 := by rcases hm with rfl | rfl <;> simp
          rw [htP]
          refine fin (.over hps hne maden hlen hmd hm) ?_ ⟨⟨okn, name_strOk wf hrn⟩, Mks.ok_mk fun z h => ⟨(hz z h).1, (hz z h).2.1, (hz z h).2.2.1⟩, by rw [Mks.l_of, List.length_append]; omega⟩ q5
          have := Mks.dep_of (n := 4 + 3 * e) (l := l ++ more) fun z h => (hz z h).2.2.2
          show 1 + max (1 + n.dep) _ ≤ _
          omega
        obtain ⟨k3, S5, u1, k30, k31, q5⟩ := q3.next (X := X ++ (.lst ((l.map ceP).map .p) :: Y)) (many := 3) hi (by decide) (by decide)
        simp -dsimp [-List.map_map, -List.map_append, u1]
        refine ifK_dec (fun hr => ?_) fun hr => ?_
        · have a1 := qz_isl (S := S5) (X := X) (Y := Y) (l := (l.map ceP).map .p) q5.len
          have a2 := qz_app (S := S5) (X := X) (Y := Y) (l := (l.map ceP).map .p) (x := ceP (("zz" : Str), ("v" : Str), zzM)) q5.len (by rw [List.length_map, List.length_map]; omega)
          have a3 : (l.map ceP).map D.p ++ [D.p (ceP (("zz" : Str), ("v" : Str), zzM))] = ((l ++ [(("zz" : Str), ("v" : Str), zzM)]).map ceP).map .p := by simp
          rw [a3] at a2
          have a4 : ceP (("zz" : Str), ("v" : Str), zzM) = .tup [.str "zz", .str "v", .tup [.str "part", .tup [.str "box", .ftup []], .str "zz"]] := rfl
          rw [a4] at a2
          have a5 := qz_tup (S := S5) (X := X) (Y := Y) (m := (l ++ [(("zz" : Str), ("v" : Str), zzM)]).map ceP) q5.len
          simp -dsimp [-List.map_map, -List.map_append, a1, a2, a5]
          exact last _ (.inr rfl) S5 q5
        · have a5 := qz_tup (S := S5) (X := X) (Y := Y) (m := l.map ceP) q5.len
          simp -dsimp [-List.map_map, -List.map_append, a5]
          have := last [] (.inl rfl) S5 q5
          rw [List.append_nil] at this
          exact this
  obtain ⟨dd, S1, e, m, S', rfl, rfl, h1, h2, h3, h4⟩ := ok_ex go
  exact ⟨m, S', e, h1, h2, h3, h4⟩
end
end CKP
/-! TU: texts among texts; tuples laid together. -/
namespace CKP
open PySem PySem.Spec PyProof.Rows L2 CK

section
variable {S : DH}
theorem inP_str2 (l : List Str) (x : Str) : inP (.str x) (l.map .str) = decide (x ∈ l) := by
  induction l with
  | nil => rfl
  | cons y l ih =>
    have h : inP (.str x) ((y :: l).map .str) = (decide (y = x) || inP (.str x) (l.map .str)) := rfl
    rw [h, ih]
    by_cases e : y = x
    · simp [e]
    · have : ¬ x = y := fun z => e z.symm
      simp [e, this]
theorem flat_strs2 (l : List Str) : (l.map P.str).all flatP = true := by
  induction l with
  | nil => rfl
  | cons x l ih => rw [List.map_cons, List.all_cons, ih]; rfl
theorem gAdd_tf {p q : P} {ps qs : List P} (h : ps.length + 1 + (qs.length + 1) ≤ 16777216) : gAdd (.p (.tup (p :: ps))) (.p (.ftup (q :: qs))) S = some (.p (.tup (p :: (ps ++ q :: qs))), S) := by
  simp [gAdd, pI, pAddS, gAddT, tupD, h]
theorem gTuple_l {l : List P} : gTuple [.p (.lst l)] S = some (.p (.ftup l), S) := by simp [gTuple, lstD]
/-- s in ("all", "none") -/
theorem tin {x : Str} (l : List Str) {b : Bool} (h : decide (x ∈ l) = b) : gIn (.p (.str x)) (.p (.tup (l.map .str))) S = some (.p (.bl b), S) := by
  rw [gIn_tup rfl (flat_strs2 l), inP_str2, h]
end
end CKP
/-! MKF: makers by their parts. -/
namespace CKP
open PySem PySem.Spec PyProof.Rows L2 CK

theorem wd8 : ("get" : Str) ≠ "fn" ∧ ("get" : Str) ≠ "call" ∧ ("get" : Str) ≠ "box" ∧ ("get" : Str) ≠ "part" ∧ ("get" : Str) ≠ "pick" ∧ ("get" : Str) ≠ "split" ∧ ("get" : Str) ≠ "hold" ∧ ("fn" : Str) ≠ "get" ∧ ("fn" : Str) ≠ "call" ∧ ("fn" : Str) ≠ "box" ∧ ("fn" : Str) ≠ "part" ∧ ("fn" : Str) ≠ "pick" ∧ ("fn" : Str) ≠ "split" ∧ ("fn" : Str) ≠ "hold" ∧ ("call" : Str) ≠ "get" ∧ ("call" : Str) ≠ "fn" ∧ ("call" : Str) ≠ "box" ∧ ("call" : Str) ≠ "part" ∧ ("call" : Str) ≠ "pick" ∧ ("call" : Str) ≠ "split" ∧ ("call" : Str) ≠ "hold" ∧ ("box" : Str) ≠ "get" ∧ ("box" : Str) ≠ "fn" ∧ ("box" : Str) ≠ "call" ∧ ("box" : Str) ≠ "part" ∧ ("box" : Str) ≠ "pick" ∧ ("box" : Str) ≠ "split" ∧ ("box" : Str) ≠ "hold" ∧ ("part" : Str) ≠ "get" ∧ ("part" : Str) ≠ "fn" ∧ ("part" : Str) ≠ "call" ∧ ("part" : Str) ≠ "box" ∧ ("part" : Str) ≠ "pick" ∧ ("part" : Str) ≠ "split" ∧ ("part" : Str) ≠ "hold" ∧ ("pick" : Str) ≠ "get" ∧ ("pick" : Str) ≠ "fn" ∧ ("pick" : Str) ≠ "call" ∧ ("pick" : Str) ≠ "box" ∧ ("pick" : Str) ≠ "part" ∧ ("pick" : Str) ≠ "split" ∧ ("pick" : Str) ≠ "hold" ∧ ("split" : Str) ≠ "get" ∧ ("split" : Str) ≠ "fn" ∧ ("split" : Str) ≠ "call" ∧ ("split" : Str) ≠ "box" ∧ ("split" : Str) ≠ "part" ∧ ("split" : Str) ≠ "pick" ∧ ("split" : Str) ≠ "hold" ∧ ("hold" : Str) ≠ "get" ∧ ("hold" : Str) ≠ "fn" ∧ ("hold" : Str) ≠ "call" ∧ ("hold" : Str) ≠ "box" ∧ ("hold" : Str) ≠ "part" ∧ ("hold" : Str) ≠ "pick" ∧ ("hold" : Str) ≠ "split" := by and_intros <;> decide +kernel
theorem inP_two {a b w : Str} : inP (.str w) [.str a, .str b] = (decide (w = a) || decide (w = b)) := by
  have := inP_str2 [a, b] w
  rw [show ([P.str a, P.str b] : List P) = [a, b].map P.str from rfl, this]
  simp
theorem in_two {a b w : Str} {S : DH} : gIn (.p (.str w)) (.p (.tup [.str a, .str b])) S = some (.p (.bl (decide (w = a) || decide (w = b))), S) := by
  rw [gIn_tup rfl rfl, inP_two]
section
variable {S : DH} {T : Tel}
theorem mk_word (m : Mk) : ∃ w : Str, ∀ S : DH, gIx (.p (mkP m)) (.p (.int 0)) S = some (.p (.str w), S) := by
  cases m <;> exact ⟨_, fun S => rfl⟩
theorem lparts_ok (m : Mk) (k : m.ok) : g__law_parts [.p (mkP m)] S = some (.p (.lst (m.parts.map mkP)), S) := by
  refine gFn_v ?_
  unfold b__law_parts
  cases m with
  | get w =>
    have e0 : ∀ S : DH, gIx (.p (mkP (.get w))) (.p (.int 0)) S = some (.p (.str "get"), S) := fun S => rfl
    simp -dsimp [-List.map_map, e0, in_two, wd8]
    rfl
  | fn w x m =>
    have e0 : ∀ S : DH, gIx (.p (mkP (.fn w x m))) (.p (.int 0)) S = some (.p (.str "fn"), S) := fun S => rfl
    have e1 : ∀ S : DH, gIx (.p (mkP (.fn w x m))) (.p (.int (-1))) S = some (.p (mkP m), S) := fun S => rfl
    simp -dsimp [-List.map_map, e0, e1, in_two, wd8]
    rfl
  | call a b =>
    have e0 : ∀ S : DH, gIx (.p (mkP (.call a b))) (.p (.int 0)) S = some (.p (.str "call"), S) := fun S => rfl
    have e1 : ∀ S : DH, gIx (.p (mkP (.call a b))) (.p (.int 1)) S = some (.p (mkP a), S) := fun S => rfl
    have e2 : ∀ S : DH, gIx (.p (mkP (.call a b))) (.p (.int 2)) S = some (.p (mkP b), S) := fun S => rfl
    simp -dsimp [-List.map_map, e0, e1, e2, in_two, wd8]
    rfl
  | box ps =>
    have e0 : ∀ S : DH, gIx (.p (mkP (.box ps))) (.p (.int 0)) S = some (.p (.str "box"), S) := fun S => rfl
    have e1 : ∀ S : DH, gIx (.p (mkP (.box ps))) (.p (.int 1)) S = some (.p (.ftup (ps.l.map peP)), S) := fun S => by rw [mkP_box]; rfl
    have hl := k.2
    simp -dsimp [-List.map_map, e0, e1, in_two, wd8, wipeD]
    refine ok_compM (fun z : Me => D.p (peP z)) (fun z => mkP z.2.2) ps.l (by rw [List.map_map]; rfl) (by omega) trivial (fun z hz => ?_) ?_
    · have hp : peP z = .tup [.str z.1, mkP z.2.2] := rfl
      simp -dsimp [-List.map_map, hp, atI_1, atI_2]
    · have : ps.l.map (fun z : Me => mkP z.2.2) = (ps.l.map (·.2.2)).map mkP := by rw [List.map_map]; rfl
      rw [this]
      simp -dsimp [-List.map_map]
      rfl
  | part m w =>
    have e0 : ∀ S : DH, gIx (.p (mkP (.part m w))) (.p (.int 0)) S = some (.p (.str "part"), S) := fun S => rfl
    have e1 : ∀ S : DH, gIx (.p (mkP (.part m w))) (.p (.int 1)) S = some (.p (mkP m), S) := fun S => rfl
    simp -dsimp [-List.map_map, e0, e1, in_two, wd8]
    rfl
  | pick w m =>
    have e0 : ∀ S : DH, gIx (.p (mkP (.pick w m))) (.p (.int 0)) S = some (.p (.str "pick"), S) := fun S => rfl
    have e1 : ∀ S : DH, gIx (.p (mkP (.pick w m))) (.p (.int (-1))) S = some (.p (mkP m), S) := fun S => rfl
    simp -dsimp [-List.map_map, e0, e1, in_two, wd8]
    rfl
  | split m cs =>
    have e0 : ∀ S : DH, gIx (.p (mkP (.split m cs))) (.p (.int 0)) S = some (.p (.str "split"), S) := fun S => rfl
    have e1 : ∀ S : DH, gIx (.p (mkP (.split m cs))) (.p (.int 1)) S = some (.p (mkP m), S) := fun S => rfl
    have e2 : ∀ S : DH, gIx (.p (mkP (.split m cs))) (.p (.int 2)) S = some (.p (.ftup (cs.l.map ceP)), S) := fun S => by rw [mkP_split]; rfl
    have hl := k.2.2
    simp -dsimp [-List.map_map, e0, e1, e2, in_two, wd8, wipeD]
    refine ok_compM (fun z : Me => D.p (ceP z)) (fun z => mkP z.2.2) cs.l (by rw [List.map_map]; rfl) (by omega) trivial (fun z hz => ?_) ?_
    · have hp : ceP z = .tup [.str z.1, .str z.2.1, mkP z.2.2] := rfl
      simp -dsimp [-List.map_map, hp, atI_1, atI_2]
    · have : cs.l.map (fun z : Me => mkP z.2.2) = (cs.l.map (·.2.2)).map mkP := by rw [List.map_map]; rfl
      have ga : ∀ S : DH, gAdd (.p (.lst [mkP m])) (.p (.lst ((cs.l.map (·.2.2)).map mkP))) S = some (.p (.lst (mkP m :: (cs.l.map (·.2.2)).map mkP)), S) := fun S => by
        rw [gAdd_lst (by simp; omega)]; rfl
      rw [this]
      simp -dsimp [-List.map_map, ga]
      rfl
  | hold m x =>
    have e0 : ∀ S : DH, gIx (.p (mkP (.hold m x))) (.p (.int 0)) S = some (.p (.str "hold"), S) := fun S => rfl
    have e1 : ∀ S : DH, gIx (.p (mkP (.hold m x))) (.p (.int 1)) S = some (.p (mkP m), S) := fun S => rfl
    simp -dsimp [-List.map_map, e0, e1, in_two, wd8]
    rfl
theorem within_ok (m : Mk) (k : m.ok) : g_within_of [.p (mkP m)] S = some (.p (.lst (m.parts.map mkP)), S) := by
  refine gFn_v ?_
  unfold b_within_of
  cases m with
  | get w =>
    have e0 : ∀ S : DH, gIx (.p (mkP (.get w))) (.p (.int 0)) S = some (.p (.str "get"), S) := fun S => rfl
    simp -dsimp [-List.map_map, e0, wd8]
    rfl
  | fn w x m =>
    have e0 : ∀ S : DH, gIx (.p (mkP (.fn w x m))) (.p (.int 0)) S = some (.p (.str "fn"), S) := fun S => rfl
    have e1 : ∀ S : DH, gIx (.p (mkP (.fn w x m))) (.p (.int 3)) S = some (.p (mkP m), S) := fun S => rfl
    simp -dsimp [-List.map_map, e0, e1, wd8]
    rfl
  | call a b =>
    have e0 : ∀ S : DH, gIx (.p (mkP (.call a b))) (.p (.int 0)) S = some (.p (.str "call"), S) := fun S => rfl
    have e1 : ∀ S : DH, gIx (.p (mkP (.call a b))) (.p (.int 1)) S = some (.p (mkP a), S) := fun S => rfl
    have e2 : ∀ S : DH, gIx (.p (mkP (.call a b))) (.p (.int 2)) S = some (.p (mkP b), S) := fun S => rfl
    simp -dsimp [-List.map_map, e0, e1, e2, wd8]
    rfl
  | box ps =>
    have e0 : ∀ S : DH, gIx (.p (mkP (.box ps))) (.p (.int 0)) S = some (.p (.str "box"), S) := fun S => rfl
    have e1 : ∀ S : DH, gIx (.p (mkP (.box ps))) (.p (.int 1)) S = some (.p (.ftup (ps.l.map peP)), S) := fun S => by rw [mkP_box]; rfl
    have hl := k.2
    simp -dsimp [-List.map_map, e0, e1, wd8, wipeD]
    refine ok_compM (fun z : Me => D.p (peP z)) (fun z => mkP z.2.2) ps.l (by rw [List.map_map]; rfl) (by omega) trivial (fun z hz => ?_) ?_
    · have hp : peP z = .tup [.str z.1, mkP z.2.2] := rfl
      simp -dsimp [-List.map_map, hp, atI_1, atI_2]
    · have : ps.l.map (fun z : Me => mkP z.2.2) = (ps.l.map (·.2.2)).map mkP := by rw [List.map_map]; rfl
      rw [this]
      simp -dsimp [-List.map_map]
      rfl
  | part m w =>
    have e0 : ∀ S : DH, gIx (.p (mkP (.part m w))) (.p (.int 0)) S = some (.p (.str "part"), S) := fun S => rfl
    have e1 : ∀ S : DH, gIx (.p (mkP (.part m w))) (.p (.int 1)) S = some (.p (mkP m), S) := fun S => rfl
    simp -dsimp [-List.map_map, e0, e1, wd8]
    rfl
  | pick w m =>
    have e0 : ∀ S : DH, gIx (.p (mkP (.pick w m))) (.p (.int 0)) S = some (.p (.str "pick"), S) := fun S => rfl
    have e1 : ∀ S : DH, gIx (.p (mkP (.pick w m))) (.p (.int 2)) S = some (.p (mkP m), S) := fun S => rfl
    simp -dsimp [-List.map_map, e0, e1, wd8]
    rfl
  | split m cs =>
    have e0 : ∀ S : DH, gIx (.p (mkP (.split m cs))) (.p (.int 0)) S = some (.p (.str "split"), S) := fun S => rfl
    have e1 : ∀ S : DH, gIx (.p (mkP (.split m cs))) (.p (.int 1)) S = some (.p (mkP m), S) := fun S => rfl
    have e2 : ∀ S : DH, gIx (.p (mkP (.split m cs))) (.p (.int 2)) S = some (.p (.ftup (cs.l.map ceP)), S) := fun S => by rw [mkP_split]; rfl
    have hl := k.2.2
    simp -dsimp [-List.map_map, e0, e1, e2, wd8, wipeD]
    refine ok_compM (fun z : Me => D.p (ceP z)) (fun z => mkP z.2.2) cs.l (by rw [List.map_map]; rfl) (by omega) trivial (fun z hz => ?_) ?_
    · have hp : ceP z = .tup [.str z.1, .str z.2.1, mkP z.2.2] := rfl
      simp -dsimp [-List.map_map, hp, atI_1, atI_2]
    · have : cs.l.map (fun z : Me => mkP z.2.2) = (cs.l.map (·.2.2)).map mkP := by rw [List.map_map]; rfl
      have ga : ∀ S : DH, gAdd (.p (.lst [mkP m])) (.p (.lst ((cs.l.map (·.2.2)).map mkP))) S = some (.p (.lst (mkP m :: (cs.l.map (·.2.2)).map mkP)), S) := fun S => by
        rw [gAdd_lst (by simp; omega)]; rfl
      rw [this]
      simp -dsimp [-List.map_map, ga]
      rfl
  | hold m x =>
    have e0 : ∀ S : DH, gIx (.p (mkP (.hold m x))) (.p (.int 0)) S = some (.p (.str "hold"), S) := fun S => rfl
    have e1 : ∀ S : DH, gIx (.p (mkP (.hold m x))) (.p (.int 1)) S = some (.p (mkP m), S) := fun S => rfl
    simp -dsimp [-List.map_map, e0, e1, wd8]
    rfl
theorem lmany_ok : ∀ (n : Nat) (m : Mk) (S : DH), m.ok → m.dep ≤ n → r__law_many n [.p (mkP m)] S = some (.p (.int m.size), S)
  | 0, m, _, _, h => absurd h (by have := m.dep1; omega)
  | n + 1, m, S, k, h => by
    have e := fun S => lparts_ok (S := S) m k
    have hl := Mk.parts_len k
    have hr : ∀ p ∈ m.parts, ∀ S : DH, r__law_many n [.p (mkP p)] S = some (.p (.int p.size), S) := fun p hp S => lmany_ok n p S (Mk.parts_ok k hp) (by have := Mk.parts_dep hp; omega)
    show gFn 2 false (b__law_many (r__law_many n)) _ S = _
    refine gFn_v ?_
    unfold b__law_many
    simp -dsimp [-List.map_map, e, wipeD]
    refine ok_compM (fun p : Mk => D.p (mkP p)) (fun p => .int p.size) m.parts (by rw [List.map_map]; rfl) (by omega) trivial (fun p hp => ?_) ?_
    · simp -dsimp [-List.map_map, hr p hp]
    · have h1 : m.parts.map (fun p => P.int (p.size : Nat)) = (m.parts.map fun p => (p.size : Int)).map P.int := by rw [List.map_map]; rfl
      have h2 : (m.parts.map fun p => (p.size : Int)).sum = ((m.parts.map Mk.size).sum : Nat) := by
        generalize m.parts = l
        induction l with
        | nil => rfl
        | cons a l ih => rw [List.map_cons, List.map_cons, List.sum_cons, List.sum_cons, ih]; omega
      rw [h1]
      have h3 := fun S => gSum_int (l := m.parts.map fun p => (p.size : Int)) (S := S)
      rw [h2] at h3
      have h4 := m.size_parts
      generalize (m.parts.map fun p => (p.size : Int)).map P.int = LL at *
      simp -dsimp [-List.map_map, h3]
      rw [h4]; omega
end
end CKP
/-! L76: k76. -/
namespace CKP
open PySem PySem.Spec PyProof.Rows L2 CK

/-- a def that gives a list of its own -/
theorem gFn_lq {nN : Nat} {fb : FS} {xs : List D} {S : DH} {Q : List P → Prop} (h : Ok (fb (xs.map some ++ List.replicate (nN - xs.length) none) S) fun r S' => Hold (∃ (k : Nat) (Y : DH) (l : List P), r = .rt (.ref (S.length + k)) ∧ S' = S ++ Y ∧ Y[k]? = some (.lst (l.map .p)) ∧ Q l)) : ∃ l, gFn nN false fb xs S = some (.p (.lst l), S) ∧ Q l := by
  obtain ⟨r, S', e, k, Y, l, rfl, rfl, hy, q⟩ := ok_ex h
  have hget : (S ++ Y)[S.length + k]? = some (.lst (l.map .p)) := by
    rw [List.getElem?_append_right (Nat.le_add_right _ _), Nat.add_sub_cancel_left]; exact hy
  refine ⟨l, ?_, q⟩
  rw [gFn_rt e, leave_lst hget (by omega) Safe.app, List.take_left]
section
variable {S0 S X : DH} {i : Nat} {ns : List Int} {T : Tel}
theorem rr_ok (hi : i < S0.length) (tT : Tld T) : ∀ m d, (3 * d + 1 ≤ m → MkOk (rr__law_split_over m 1) T S0 i ns d (4 + 3 * d)) ∧ (3 * d + 2 ≤ m → 1 ≤ d → MkOk (rr__law_split_over m 0) T S0 i ns d (6 + 3 * d)) ∧ (3 * d + 3 ≤ m → MkOk (rr__law_split_over m 2) T S0 i ns d (6 + 3 * d))
  | 0, d => ⟨fun h => by omega, fun h => by omega, fun h => by omega⟩
  | m + 1, d => by
    have ih := rr_ok hi tT m
    refine ⟨fun h => ?_, fun h h1 => ?_, fun h => ?_⟩
    · exact for_step hi tT (fun e he => (ih e).1 (by omega)) fun e he => (ih e).2.2 (by omega)
    · obtain ⟨e, rfl⟩ : ∃ e, d = e + 1 := ⟨d - 1, by omega⟩
      exact over_step rfl hi tT ((ih (e + 1)).1 (by omega)) ((ih e).1 (by omega))
    · exact wrapped_step hi tT ((ih d).1 (by omega)) (fun e he => (ih e).1 (by omega)) fun e he => (ih d).2.1 (by omega) (by omega)
theorem small_ok (h : QI S0 i ns S) (hi : i < S0.length) (tT : Tld T) {x : Str} (hx : x ∈ names T) : ∃ (m : Mk) (S' : DH), g__law_small_maker [.ref i, .p (telP T), .p (.str x)] (S ++ X) = some (.p (mkP m), S' ++ X) ∧ Made T [] x m ∧ m.dep ≤ 15 ∧ m.size ≤ 30 ∧ m.ok ∧ QI S0 i ns S' := by
  have go : Ok (g__law_small_maker [.ref i, .p (telP T), .p (.str x)] (S ++ X)) fun dd S1 => ∃ (m : Mk) (S' : DH), dd = .p (mkP m) ∧ S1 = S' ++ X ∧ Made T [] x m ∧ m.dep ≤ 15 ∧ m.size ≤ 30 ∧ m.ok ∧ QI S0 i ns S' := by
    refine gFn_w ?_
    unfold b__law_small_maker
    have fin : ∀ {m : Mk} {S' : DH}, Made T [] x m → m.dep ≤ 15 → m.size ≤ 30 → m.ok → QI S0 i ns S' → Hold (∃ z T' Y, Fl.rt (.p (mkP m)) = .rt (.p z) ∧ S' ++ X = T' ++ Y ∧ (T'.length = (S ++ X).length ∧ Safe (S ++ X) T') ∧ ∃ (m : Mk) (S'' : DH), D.p z = .p (mkP m) ∧ T' = S'' ++ X ∧ Made T [] x m ∧ m.dep ≤ 15 ∧ m.size ≤ 30 ∧ m.ok ∧ QI S0 i ns S'') := fun {m S'} o dd sz k q =>
      hold ⟨_, S' ++ X, [], rfl, by simp, h.ls q, m, S', rfl, rfl, o, dd, sz, k, q⟩
    simp -dsimp [-List.map_map]
    refine ok_forL0 (fun d : Nat => D.p (.int d)) [3, 2, 1] (fun _ ds S' => ∃ (S1 : DH) (c3 c4 : Option D), S' = S1 ++ X ∧ QI S0 i ns S1 ∧ ds = [some (.ref i), some (.p (telP T)), some (.p (.str x)), c3, c4]) rfl ⟨S, none, none, rfl, h, rfl⟩ (fun _ _ _ _ => trivial) ?_ ?_
    · rintro pr d po ds _ hp ⟨S1, c3, c4, rfl, q1, rfl⟩
      have hd : d ≤ 3 := by
        have : d ∈ ([3, 2, 1] : List Nat) := by rw [hp]; simp
        simp only [List.mem_cons, List.not_mem_nil, or_false] at this
        omega
      obtain ⟨m, S2, e, made, dep, ok, q2⟩ := (rr_ok (S0 := S0) (ns := ns) hi tT 20 d).2.2 (by omega) [] (.p (.dK [])) x S1 X q1 (.inl rfl) GaOk.nil hx
      have e : g__law_wrapped [.ref i, .p (telP T), .p (.str x), .p (.dK []), .p (.int d)] (S1 ++ X) = some (.p (mkP m), S2 ++ X) := e
      have e2 := fun S => lmany_ok 20 m S ok (by omega)
      simp -dsimp [-List.map_map, e, e2]
      refine ifK_dec (fun hs => ?_) fun hs => ?_
      · simp -dsimp [-List.map_map]
        exact fin made (by omega) (by omega) ok q2
      · exact hold ⟨S2, _, _, rfl, q2, rfl⟩
    · rintro ds _ ⟨S1, c3, c4, rfl, q1, rfl⟩
      simp -dsimp [-List.map_map, endless_ok]
      exact fin .less (by rw [endless_dep]; decide) (by decide) endless_k q1
  obtain ⟨dd, S1, e, m, S', rfl, rfl, h1, h2, h3, h4, h5⟩ := ok_ex go
  exact ⟨m, S', e, h1, h2, h3, h4, h5⟩
/-- what stands at a place -/
def Mk.at : Mk → List Nat → Option Mk
  | m, [] => some m
  | m, k :: p => m.parts[k]?.bind fun q => q.at p
theorem at_app : ∀ (m : Mk) (p : List Nat) {q r : Mk} {k : Nat}, m.at p = some q → q.parts[k]? = some r → m.at (p ++ [k]) = some r
  | m, [], q, r, k, h, hr => by
    cases h
    show (m.parts[k]?.bind fun q => q.at []) = _
    rw [hr]; rfl
  | m, j :: p, q, r, k, h, hr => by
    have h : (m.parts[j]?.bind fun q => q.at p) = some q := h
    show (m.parts[j]?.bind fun q => q.at (p ++ [k])) = _
    cases hj : m.parts[j]? with
    | none => rw [hj] at h; cases h
    | some s =>
      rw [hj] at h
      exact at_app s p h hr
def plP (z : List Nat × Mk) : P := .tup [.tup (z.1.map fun n : Nat => P.int n), mkP z.2]
theorem at_ok : ∀ (p : List Nat) {m q : Mk} (S : DH), m.ok → m.at p = some q → g_maker_at [.p (mkP m), .p (.tup (p.map fun n : Nat => P.int n))] S = some (.p (mkP q), S) := by
  intro p m q S k h
  refine gFn_v ?_
  unfold b_maker_at
  simp -dsimp [-List.map_map]
  refine ok_forL0 (fun n : Nat => D.p (.int n)) p (fun pre ds S' => ∃ (r : Mk) (c2 : Option D), S = S' ∧ r.ok ∧ m.at pre = some r ∧ ds = [some (.p (mkP r)), some (.p (.tup (p.map fun n : Nat => P.int n))), c2]) (by rw [List.map_map]; rfl) ⟨m, none, rfl, k, rfl, rfl⟩ (fun _ _ _ _ => trivial) ?_ ?_
  · rintro pr n po ds S' hp ⟨r, c2, rfl, kr, hr, rfl⟩
    have hex : ∃ s, r.parts[n]? = some s ∧ m.at (pr ++ [n]) = some s := by
      have key : ∀ (m r : Mk) (pr : List Nat), m.at pr = some r → m.at (pr ++ n :: po) = some q → ∃ s, r.parts[n]? = some s := by
        intro m r pr
        induction pr generalizing m with
        | nil =>
          intro h1 h2
          have e9 : m = r := Option.some.inj h1
          rw [← e9]
          have h2 : (m.parts[n]?.bind fun q => q.at po) = some q := h2
          cases hn : m.parts[n]? with
          | none => rw [hn] at h2; cases h2
          | some s => exact ⟨s, rfl⟩
        | cons j pr ih =>
          intro h1 h2
          have h1 : (m.parts[j]?.bind fun q => q.at pr) = some r := h1
          have h2 : (m.parts[j]?.bind fun s => s.at (pr ++ n :: po)) = some q := h2
          cases hj : m.parts[j]? with
          | none => rw [hj] at h1; cases h1
          | some s =>
            rw [hj] at h1 h2
            exact ih s h1 h2
      obtain ⟨s, hs⟩ := key m r pr hr (by rw [← hp]; exact h)
      exact ⟨s, hs, at_app m pr hr hs⟩
    obtain ⟨s, hs, hs2⟩ := hex
    have e1 := fun S => within_ok (S := S) r kr
    have e2 : ∀ S : DH, gIx (.p (.lst (r.parts.map mkP))) (.p (.int n)) S = some (.p (mkP s), S) := fun S => by
      have : atI (r.parts.map mkP) (n : Int) = some (mkP s) := atI_ok (n := n) (by rw [List.getElem?_map, hs]; rfl) rfl
      rw [gIx_lst, this]; rfl
    simp -dsimp [-List.map_map, e1, e2]
    exact hold ⟨s, _, rfl, Mk.parts_ok kr (List.mem_of_getElem? hs), hs2, rfl⟩
  · rintro ds S' ⟨r, c2, rfl, kr, hr, rfl⟩
    rw [h] at hr
    cases hr
    simp -dsimp
theorem places_ok {m0 : Mk} : ∀ (n : Nat) (m : Mk) (p : List Nat) (S : DH), m.ok → m.dep ≤ n → m.size ≤ 1000 → p.length + m.dep ≤ 1000 → m0.at p = some m → ∃ L : List (List Nat × Mk), r__law_places n [.p (mkP m), .p (.tup (p.map fun n : Nat => P.int n))] S = some (.p (.lst (L.map plP)), S) ∧ L.length = m.size ∧ ∀ z ∈ L, m0.at z.1 = some z.2 ∧ z.2.ok ∧ z.2.dep ≤ m.dep
  | 0, m, _, _, _, h, _, _, _ => absurd h (by have := m.dep1; omega)
  | n + 1, m, p, S, k, h, hsz, hpl, hat => by
    have e := fun S => lparts_ok (S := S) m k
    have hl := Mk.parts_len k
    have h4 := m.size_parts
    show ∃ L : List (List Nat × Mk), gFn 5 false (b__law_places (r__law_places n)) _ S = _ ∧ _
    have key : ∃ l : List P, gFn 5 false (b__law_places (r__law_places n)) [.p (mkP m), .p (.tup (p.map fun n : Nat => P.int n))] S = some (.p (.lst l), S) ∧ ∃ L : List (List Nat × Mk), l = L.map plP ∧ L.length = m.size ∧ ∀ z ∈ L, m0.at z.1 = some z.2 ∧ z.2.ok ∧ z.2.dep ≤ m.dep := by
      refine gFn_lq ?_
      unfold b__law_places
      have hpl0 : P.tup [.tup (p.map fun n : Nat => P.int n), mkP m] = plP (p, m) := rfl
      simp -dsimp [-List.map_map, e, hpl0]
      refine ok_forL0 (fun q : Mk => D.p (mkP q)) m.parts (fun pre ds S' => ∃ (L : List (List Nat × Mk)) (c4 : Option D), S' = S ++ [.lst ((L.map plP).map .p)] ∧ L.length = 1 + (pre.map Mk.size).sum ∧ (∀ z ∈ L, m0.at z.1 = some z.2 ∧ z.2.ok ∧ z.2.dep ≤ m.dep) ∧ ds = [some (.p (mkP m)), some (.p (.tup (p.map fun n : Nat => P.int n))), some (.ref S.length), some (.p (.int pre.length)), c4]) (by rw [List.map_map]; rfl) ⟨[(p, m)], none, rfl, rfl, fun z hz => by rw [List.mem_singleton.mp hz]; exact ⟨hat, k, Nat.le_refl _⟩, rfl⟩ (fun _ _ _ _ => trivial) ?_ ?_
      · rintro pr q po ds _ hp ⟨L, c4, rfl, hL, hz, rfl⟩
        have hqm : q ∈ m.parts := by rw [hp]; simp
        have hq : m.parts[pr.length]? = some q := by rw [hp]; simp
        have hd := Mk.parts_dep hqm
        have hsum : (pr.map Mk.size).sum + q.size ≤ (m.parts.map Mk.size).sum := by
          rw [hp, List.map_append, List.sum_append, List.map_cons, List.sum_cons]; omega
        obtain ⟨L2, f1, f2, f3⟩ := places_ok (m0 := m0) n q (p ++ [pr.length]) (S ++ [.lst ((L.map plP).map .p)]) (Mk.parts_ok k hqm) (by omega) (by omega) (by rw [List.length_append]; simp; omega) (at_app m0 p hat hq)
        have ha : ∀ S : DH, gAdd (.p (.tup (p.map fun n : Nat => P.int n))) (.p (.tup [.int (pr.length : Nat)])) S = some (.p (.tup ((p ++ [pr.length]).map fun n : Nat => P.int n)), S) := fun S => by
          rw [gAdd_tup (by simp; omega), List.map_append]; rfl
        have ex : gExtend (.ref S.length) [.p (.lst (L2.map plP))] (S ++ [.lst ((L.map plP).map .p)]) = some (.p .non, S ++ [.lst (((L ++ L2).map plP).map .p)]) := by
          have h : (S ++ [DO.lst ((L.map plP).map .p)])[S.length]? = some (.lst ((L.map plP).map .p)) := by simp
          have hl2 : L.length + L2.length ≤ 16777216 := by omega
          simp [gExtend, h, lstE, hl2, D.below]
        have il : isTy "list" (.ref S.length) (S ++ [.lst ((L.map plP).map .p)]) = true := isl_0 (Y := [])
        have hcast : ((pr.length : Nat) : Int) + 1 = ((pr ++ [q]).length : Nat) := by rw [List.length_append]; rfl
        simp -dsimp [-List.map_map, -List.map_append, -List.length_append, ha, f1, ex, il]
        rw [hcast]
        refine hold ⟨L ++ L2, _, rfl, by rw [List.length_append, hL, f2, List.map_append, List.sum_append]; simp; omega, fun z h => ?_, rfl⟩
        rcases List.mem_append.mp h with h | h
        · exact hz z h
        · obtain ⟨g1, g2, g3⟩ := f3 z h
          exact ⟨g1, g2, by omega⟩
      · rintro ds _ ⟨L, c4, rfl, hL, hz, rfl⟩
        simp -dsimp [-List.map_map]
        exact hold ⟨0, _, L.map plP, rfl, rfl, rfl, L, rfl, by omega, hz⟩
    obtain ⟨l, e1, L, rfl, e2, e3⟩ := key
    exact ⟨L, e1, e2, e3⟩
/-- a telling with the rows for makers -/
def nnR : Str × Hd := ("nn", .none)
def dnR : Str × Hd := ("dn", .way "dn" "nn")
theorem mtel_tld (t : Told T) (h5 : T.length ≤ 8) : Tld (T ++ [nnR, dnR]) := by
  have hn8 : ("nn" : Str) ∉ eight ∧ ("dn" : Str) ∉ eight ∧ ("nn" : Str) ≠ "dn" := by and_intros <;> decide +kernel
  have hnt : ∀ n ∈ names T, n ≠ "nn" ∧ n ≠ "dn" := fun n hn => ⟨fun e => hn8.1 (by rw [← e]; exact t.nm n hn), fun e => hn8.2.1 (by rw [← e]; exact t.nm n hn)⟩
  have hnm : names (T ++ [nnR, dnR]) = names T ++ [("nn" : Str), ("dn" : Str)] := by unfold names; rw [List.map_append]; rfl
  obtain ⟨ρ, r1, r2⟩ := t.wf.rk
  have rk : ∃ ρ : Str → Nat, (∀ r ∈ T ++ [nnR, dnR], ρ r.1 < (T ++ [nnR, dnR]).length) ∧ ∀ r ∈ T ++ [nnR, dnR], ∀ a, r.2 = .as_ a → ρ a < ρ r.1 := by
    refine ⟨fun n => if n = "nn" ∨ n = "dn" then 0 else ρ n, fun r hr => ?_, fun r hr a e => ?_⟩
    · rw [List.length_append]
      rcases List.mem_append.mp hr with hr | hr
      · have := hnt r.1 (List.mem_map.mpr ⟨r, hr, rfl⟩)
        dsimp only
        rw [if_neg (by rintro (h | h); exact this.1 h; exact this.2 h)]
        have := r1 r hr; omega
      · simp only [List.mem_cons, List.not_mem_nil, or_false] at hr
        rcases hr with rfl | rfl
        · dsimp only [nnR]
          rw [if_pos (.inl rfl)]; simp
        · dsimp only [dnR]
          rw [if_pos (.inr rfl)]; simp
    · rcases List.mem_append.mp hr with hr | hr
      · have h1 := hnt r.1 (List.mem_map.mpr ⟨r, hr, rfl⟩)
        have h2 := hnt a (t.wf.cl r hr a (by rw [e]; exact List.mem_cons_self))
        dsimp only
        rw [if_neg (by rintro (h | h); exact h2.1 h; exact h2.2 h), if_neg (by rintro (h | h); exact h1.1 h; exact h1.2 h)]
        exact r2 r hr a e
      · simp only [List.mem_cons, List.not_mem_nil, or_false] at hr
        rcases hr with rfl | rfl <;> cases e
  have hok2 : PyData.strOk "nn" = true ∧ PyData.strOk "dn" = true := by decide +kernel
  refine ⟨⟨?_, fun r hr n hn => ?_, rk, fun r hr => ?_, fun r hr => ?_, by rw [List.length_append]; simp; omega⟩, by simp, by rw [List.length_append]; simp; omega, fun n hn => ?_, fun r hr => ?_⟩
  · rw [hnm, List.nodup_append]
    refine ⟨t.wf.nd, by simp [hn8.2.2], fun a ha b hb e => ?_⟩
    simp only [List.mem_cons, List.not_mem_nil, or_false] at hb
    have := hnt a ha
    rcases hb with rfl | rfl
    · exact this.1 e
    · exact this.2 e
  · rw [hnm]
    rcases List.mem_append.mp hr with hr | hr
    · exact List.mem_append_left _ (t.wf.cl r hr n hn)
    · simp only [List.mem_cons, List.not_mem_nil, or_false] at hr
      rcases hr with rfl | rfl
      · cases hn
      · refine List.mem_append_right _ ?_
        rcases List.mem_cons.mp (show n ∈ [("dn" : Str), "nn"] from hn) with rfl | hn
        · exact List.mem_cons_of_mem _ List.mem_cons_self
        · rw [List.mem_singleton.mp hn]; exact List.mem_cons_self
  · rcases List.mem_append.mp hr with hr | hr
    · exact t.wf.ok r hr
    · simp only [List.mem_cons, List.not_mem_nil, or_false] at hr
      rcases hr with rfl | rfl
      · exact ⟨hok2.1, fun w hw => nomatch hw⟩
      · exact ⟨hok2.2, fun w hw => nomatch hw⟩
  · rcases List.mem_append.mp hr with hr | hr
    · exact t.wf.wd r hr
    · simp only [List.mem_cons, List.not_mem_nil, or_false] at hr
      rcases hr with rfl | rfl <;> exact Nat.zero_le _
  · rw [hnm] at hn
    rcases List.mem_append.mp hn with hn | hn
    · exact t.tld.nl n hn
    · simp only [List.mem_cons, List.not_mem_nil, or_false] at hn
      rcases hn with rfl | rfl <;> decide +kernel
  · rcases List.mem_append.mp hr with hr | hr
    · exact t.wd r hr
    · simp only [List.mem_cons, List.not_mem_nil, or_false] at hr
      rcases hr with rfl | rfl <;> exact ow_nil
theorem mtelling_ok (h : QI S0 i ns S) (hi : i < S0.length) : ∃ (T : Tel) (S' : DH), g__law_maker_telling [.ref i, .p (.int 5)] (S ++ X) = some (.p (telP (T ++ [nnR, dnR])), S' ++ X) ∧ Told T ∧ T.length ≤ 5 ∧ QI S0 i ns S' := by
  obtain ⟨T, S1, e, told, h5, q1⟩ := telling_ok (X := X) (most := 5) h hi (by decide) (by decide)
  have ga : ∀ S : DH, gAddF (.p (telP T)) (.p (.ftup [rowP nnR, rowP dnR])) S = some (.p (telP (T ++ [nnR, dnR])), S) := fun S => by
    unfold telP
    rw [gAddF_eq (by rw [List.length_map]; simp; omega), List.map_append]; rfl
  have ga : ∀ S : DH, gAddF (.p (telP T)) (.p (.ftup [.tup [.str "nn", .tup [.str "none"]], .tup [.str "dn", .tup [.str "way", .str "dn", .str "nn"]]])) S = some (.p (telP (T ++ [nnR, dnR])), S) := ga
  have go : Ok (g__law_maker_telling [.ref i, .p (.int 5)] (S ++ X)) fun d T' => d = .p (telP (T ++ [nnR, dnR])) ∧ T' = S1 ++ X := by
    refine gFn_w ?_
    unfold b__law_maker_telling
    simp -dsimp [-List.map_map, e, ga]
    exact hold ⟨_, S1 ++ X, [], rfl, by simp, h.ls q1, rfl, rfl⟩
  exact ⟨T, S1, eq_ok go, told, by omega, q1⟩
end
theorem law_true (ns : List Int) (h : ns.length ≤ 63) : ∃ S', g_law [.p (.flst (ns.map .int))] [] = some (.p (.bl true), S') := by
  refine law_of ?_
  unfold b_law
  generalize hx0 : D.p (P.flst (ns.map .int)) = x0
  have q0 : QI [penO ns 0 0] 0 ns [penO ns 0 0] := ⟨0, 0, rfl, by decide⟩
  have hi0 : 0 < ([penO ns 0 0] : DH).length := Nat.succ_pos 0
  have hp : (DO.lst [x0, .p (.int 0), .p (.int 0)]) = penO ns 0 0 := by subst hx0; rfl
  have hw : inW 3 = true := inW_of (by decide) (by decide)
  simp -dsimp [-List.map_map, hw, hp]
  refine ok_forN 3 0 (fun _ ds S => ∃ (S' : DH) (a b c d e : Option D), S = S' ∧ QI [penO ns 0 0] 0 ns S' ∧ ds = [some x0, some (.ref 0), a, b, c, d, e]) ⟨_, none, none, none, none, none, rfl, q0, rfl⟩ ?_ ?_
  · rintro k ds S hk ⟨S1, a, b, c, d, e, rfl, q, rfl⟩
    obtain ⟨T0, S2, e1, told, h5, q1⟩ := mtelling_ok (X := []) q hi0
    have tT := mtel_tld told (by omega)
    generalize T0 ++ [nnR, dnR] = T at *
    obtain ⟨x, S3, e2, hx, q2⟩ := any2_ok (X := []) q1 hi0 tT
    obtain ⟨m, S4, e3, made, dep, sz, ok, q3⟩ := small_ok (X := []) q2 hi0 tT hx
    obtain ⟨L, e4, e5, e6⟩ := places_ok (m0 := m) 20 m [] S4 ok (by omega) (by omega) (by simp; omega) rfl
    simp only [List.append_nil] at e1 e2 e3
    have e4 : g__law_places [.p (mkP m), .p (.tup [])] S4 = some (.p (.lst (L.map plP)), S4) := e4
    simp -dsimp [-List.map_map, e1, e2, e3, e4]
    refine ok_forL0 (fun z : List Nat × Mk => D.p (plP z)) L (fun _ ds S' => ∃ (d e : Option D), S' = S4 ∧ ds = [some x0, some (.ref 0), some (.p (.int (k : Int))), some (.p (telP T)), some (.p (mkP m)), d, e]) (by rw [List.map_map]; rfl) ⟨d, e, rfl, by simp⟩ (fun _ _ _ _ => trivial) ?_ ?_
    · rintro pr z po ds S' hz ⟨d, e, rfl, rfl⟩
      obtain ⟨g1, g2, g3⟩ := e6 z (by rw [hz]; simp)
      have f1 := fun S => at_ok z.1 (m := m) (q := z.2) S ok g1
      have hpl : plP z = .tup [.tup (z.1.map fun n : Nat => P.int n), mkP z.2] := rfl
      have f2 : ∀ S : DH, gNe (.p (mkP z.2)) (.p (mkP z.2)) S = some (.p (.bl false), S) := fun S => by
        obtain ⟨c1, c2⟩ := mk_clean z.2 g2
        exact gNe_cu (b := true) c1 c1 (by omega) (by omega) ⟨fun _ => rfl, fun _ => rfl⟩
      simp -dsimp [-List.map_map, hpl, f1, f2]
      exact hold ⟨_, _, rfl, rfl⟩
    · rintro ds S' ⟨d, e, rfl, rfl⟩
      exact hold ⟨_, _, _, _, _, _, rfl, q3, rfl⟩
  · rintro ds S ⟨S1, a, b, c, d, e, rfl, q, rfl⟩
    simp -dsimp
    exact hold rfl
end CKP
namespace CKP
open PySem PySem.Spec PyProof.Rows L2 CK
section
theorem all_mk {l : PySem.W.OpenLaw} {w : World} {K : PySem.W.Frag} {h : Heap} {mg : Str → Option Value} {fa : Addr} (X : K.In h) (G : h.Ns mainGlobals mg) (hfa : mg "law" = some (.ref fa))
    {f0 : Addr} {od0 an0 : Option Addr} {sl0 : Array (Option Value)} {oc0 kV0 dc0 pm0 cd0 ct0 : Value} {f1 : Addr} {od1 an1 : Option Addr} {sl1 : Array (Option Value)} {oc1 kV1 dc1 pm1 cd1 ct1 : Value} {f2 : Addr} {od2 an2 : Option Addr} {sl2 : Array (Option Value)} {oc2 kV2 dc2 pm2 cd2 ct2 : Value} {f3 : Addr} {od3 an3 : Option Addr} {sl3 : Array (Option Value)} {oc3 kV3 dc3 pm3 cd3 ct3 : Value} {f4 : Addr} {od4 an4 : Option Addr} {sl4 : Array (Option Value)} {oc4 kV4 dc4 pm4 cd4 ct4 : Value} {f5 : Addr} {od5 an5 : Option Addr} {sl5 : Array (Option Value)} {oc5 kV5 dc5 pm5 cd5 ct5 : Value} {f6 : Addr} {od6 an6 : Option Addr} {sl6 : Array (Option Value)} {oc6 kV6 dc6 pm6 cd6 ct6 : Value} {f7 : Addr} {od7 an7 : Option Addr} {sl7 : Array (Option Value)} {oc7 kV7 dc7 pm7 cd7 ct7 : Value} {f8 : Addr} {od8 an8 : Option Addr} {sl8 : Array (Option Value)} {oc8 kV8 dc8 pm8 cd8 ct8 : Value} {f9 : Addr} {od9 an9 : Option Addr} {sl9 : Array (Option Value)} {oc9 kV9 dc9 pm9 cd9 ct9 : Value} {f10 : Addr} {od10 an10 : Option Addr} {sl10 : Array (Option Value)} {oc10 kV10 dc10 pm10 cd10 ct10 : Value} {f11 : Addr} {od11 an11 : Option Addr} {sl11 : Array (Option Value)} {oc11 kV11 dc11 pm11 cd11 ct11 : Value} {f12 : Addr} {od12 an12 : Option Addr} {sl12 : Array (Option Value)} {oc12 kV12 dc12 pm12 cd12 ct12 : Value} {f13 : Addr} {od13 an13 : Option Addr} {sl13 : Array (Option Value)} {oc13 kV13 dc13 pm13 cd13 ct13 : Value} {f14 : Addr} {od14 an14 : Option Addr} {sl14 : Array (Option Value)} {oc14 kV14 dc14 pm14 cd14 ct14 : Value} {f15 : Addr} {od15 an15 : Option Addr} {sl15 : Array (Option Value)} {oc15 kV15 dc15 pm15 cd15 ct15 : Value} {f16 : Addr} {od16 an16 : Option Addr} {sl16 : Array (Option Value)} {oc16 kV16 dc16 pm16 cd16 ct16 : Value} {f17 : Addr} {od17 an17 : Option Addr} {sl17 : Array (Option Value)} {oc17 kV17 dc17 pm17 cd17 ct17 : Value} {f18 : Addr} {od18 an18 : Option Addr} {sl18 : Array (Option Value)} {oc18 kV18 dc18 pm18 cd18 ct18 : Value} {f19 : Addr} {od19 an19 : Option Addr} {sl19 : Array (Option Value)} {oc19 kV19 dc19 pm19 cd19 ct19 : Value} {f20 : Addr} {od20 an20 : Option Addr} {sl20 : Array (Option Value)} {oc20 kV20 dc20 pm20 cd20 ct20 : Value} {f21 : Addr} {od21 an21 : Option Addr} {sl21 : Array (Option Value)} {oc21 kV21 dc21 pm21 cd21 ct21 : Value}
    (a0 : PySem.W.nsIn K mainGlobals "_law_fill" = some (some (.ref f0))) (l0 : K.lookup f0 = some ⟨oc0, od0, .func (PySem.W.fnOf "_law_fill" "_law_fill" (defArgs s__law_fill) (defBody s__law_fill) (defScope s__law_fill) .none kV0 dc0 pm0 an0 cd0 ct0), sl0⟩) (c0 : PySem.W.codeIn K cd0 "_law_fill" = true) (k0 : PySem.W.keepIn K (.ref f0) = true)
    (a1 : PySem.W.nsIn K mainGlobals "_law_next" = some (some (.ref f1))) (l1 : K.lookup f1 = some ⟨oc1, od1, .func (PySem.W.fnOf "_law_next" "_law_next" (defArgs s__law_next) (defBody s__law_next) (defScope s__law_next) .none kV1 dc1 pm1 an1 cd1 ct1), sl1⟩) (c1 : PySem.W.codeIn K cd1 "_law_next" = true) (k1 : PySem.W.keepIn K (.ref f1) = true)
    (a2 : PySem.W.nsIn K mainGlobals "_law_turned" = some (some (.ref f2))) (l2 : K.lookup f2 = some ⟨oc2, od2, .func (PySem.W.fnOf "_law_turned" "_law_turned" (defArgs s__law_turned) (defBody s__law_turned) (defScope s__law_turned) .none kV2 dc2 pm2 an2 cd2 ct2), sl2⟩) (c2 : PySem.W.codeIn K cd2 "_law_turned" = true) (k2 : PySem.W.keepIn K (.ref f2) = true)
    (a3 : PySem.W.nsIn K mainGlobals "_law_words" = some (some (.ref f3))) (l3 : K.lookup f3 = some ⟨oc3, od3, .func (PySem.W.fnOf "_law_words" "_law_words" (defArgs s__law_words) (defBody s__law_words) (defScope s__law_words) .none kV3 dc3 pm3 an3 cd3 ct3), sl3⟩) (c3 : PySem.W.codeIn K cd3 "_law_words" = true) (k3 : PySem.W.keepIn K (.ref f3) = true)
    (a4 : PySem.W.nsIn K mainGlobals "_law_head" = some (some (.ref f4))) (l4 : K.lookup f4 = some ⟨oc4, od4, .func (PySem.W.fnOf "_law_head" "_law_head" (defArgs s__law_head) (defBody s__law_head) (defScope s__law_head) .none kV4 dc4 pm4 an4 cd4 ct4), sl4⟩) (c4 : PySem.W.codeIn K cd4 "_law_head" = true) (k4 : PySem.W.keepIn K (.ref f4) = true)
    (a5 : PySem.W.nsIn K mainGlobals "_law_telling" = some (some (.ref f5))) (l5 : K.lookup f5 = some ⟨oc5, od5, .func (PySem.W.fnOf "_law_telling" "_law_telling" (defArgs s__law_telling) (defBody s__law_telling) (defScope s__law_telling) .none kV5 dc5 pm5 an5 cd5 ct5), sl5⟩) (c5 : PySem.W.codeIn K cd5 "_law_telling" = true) (k5 : PySem.W.keepIn K (.ref f5) = true)
    (a6 : PySem.W.nsIn K mainGlobals "_law_maker_telling" = some (some (.ref f6))) (l6 : K.lookup f6 = some ⟨oc6, od6, .func (PySem.W.fnOf "_law_maker_telling" "_law_maker_telling" (defArgs s__law_maker_telling) (defBody s__law_maker_telling) (defScope s__law_maker_telling) .none kV6 dc6 pm6 an6 cd6 ct6), sl6⟩) (c6 : PySem.W.codeIn K cd6 "_law_maker_telling" = true) (k6 : PySem.W.keepIn K (.ref f6) = true)
    (a7 : PySem.W.nsIn K mainGlobals "_law_endless" = some (some (.ref f7))) (l7 : K.lookup f7 = some ⟨oc7, od7, .func (PySem.W.fnOf "_law_endless" "_law_endless" (defArgs s__law_endless) (defBody s__law_endless) (defScope s__law_endless) .none kV7 dc7 pm7 an7 cd7 ct7), sl7⟩) (c7 : PySem.W.codeIn K cd7 "_law_endless" = true) (k7 : PySem.W.keepIn K (.ref f7) = true)
    (a8 : PySem.W.nsIn K mainGlobals "_law_any" = some (some (.ref f8))) (l8 : K.lookup f8 = some ⟨oc8, od8, .func (PySem.W.fnOf "_law_any" "_law_any" (defArgs s__law_any) (defBody s__law_any) (defScope s__law_any) .none kV8 dc8 pm8 an8 cd8 ct8), sl8⟩) (c8 : PySem.W.codeIn K cd8 "_law_any" = true) (k8 : PySem.W.keepIn K (.ref f8) = true)
    (a9 : PySem.W.nsIn K mainGlobals "_law_name_bound" = some (some (.ref f9))) (l9 : K.lookup f9 = some ⟨oc9, od9, .func (PySem.W.fnOf "_law_name_bound" "_law_name_bound" (defArgs s__law_name_bound) (defBody s__law_name_bound) (defScope s__law_name_bound) .none kV9 dc9 pm9 an9 cd9 ct9), sl9⟩) (c9 : PySem.W.codeIn K cd9 "_law_name_bound" = true) (k9 : PySem.W.keepIn K (.ref f9) = true)
    (a10 : PySem.W.nsIn K mainGlobals "_law_row_here" = some (some (.ref f10))) (l10 : K.lookup f10 = some ⟨oc10, od10, .func (PySem.W.fnOf "_law_row_here" "_law_row_here" (defArgs s__law_row_here) (defBody s__law_row_here) (defScope s__law_row_here) .none kV10 dc10 pm10 an10 cd10 ct10), sl10⟩) (c10 : PySem.W.codeIn K cd10 "_law_row_here" = true) (k10 : PySem.W.keepIn K (.ref f10) = true)
    (a11 : PySem.W.nsIn K mainGlobals "_law_head_here" = some (some (.ref f11))) (l11 : K.lookup f11 = some ⟨oc11, od11, .func (PySem.W.fnOf "_law_head_here" "_law_head_here" (defArgs s__law_head_here) (defBody s__law_head_here) (defScope s__law_head_here) .none kV11 dc11 pm11 an11 cd11 ct11), sl11⟩) (c11 : PySem.W.codeIn K cd11 "_law_head_here" = true) (k11 : PySem.W.keepIn K (.ref f11) = true)
    (a12 : PySem.W.nsIn K mainGlobals "_law_split_over" = some (some (.ref f12))) (l12 : K.lookup f12 = some ⟨oc12, od12, .func (PySem.W.fnOf "_law_split_over" "_law_split_over" (defArgs s__law_split_over) (defBody s__law_split_over) (defScope s__law_split_over) .none kV12 dc12 pm12 an12 cd12 ct12), sl12⟩) (c12 : PySem.W.codeIn K cd12 "_law_split_over" = true) (k12 : PySem.W.keepIn K (.ref f12) = true)
    (a13 : PySem.W.nsIn K mainGlobals "_law_for" = some (some (.ref f13))) (l13 : K.lookup f13 = some ⟨oc13, od13, .func (PySem.W.fnOf "_law_for" "_law_for" (defArgs s__law_for) (defBody s__law_for) (defScope s__law_for) .none kV13 dc13 pm13 an13 cd13 ct13), sl13⟩) (c13 : PySem.W.codeIn K cd13 "_law_for" = true) (k13 : PySem.W.keepIn K (.ref f13) = true)
    (a14 : PySem.W.nsIn K mainGlobals "_law_wrapped" = some (some (.ref f14))) (l14 : K.lookup f14 = some ⟨oc14, od14, .func (PySem.W.fnOf "_law_wrapped" "_law_wrapped" (defArgs s__law_wrapped) (defBody s__law_wrapped) (defScope s__law_wrapped) .none kV14 dc14 pm14 an14 cd14 ct14), sl14⟩) (c14 : PySem.W.codeIn K cd14 "_law_wrapped" = true) (k14 : PySem.W.keepIn K (.ref f14) = true)
    (a15 : PySem.W.nsIn K mainGlobals "_law_parts" = some (some (.ref f15))) (l15 : K.lookup f15 = some ⟨oc15, od15, .func (PySem.W.fnOf "_law_parts" "_law_parts" (defArgs s__law_parts) (defBody s__law_parts) (defScope s__law_parts) .none kV15 dc15 pm15 an15 cd15 ct15), sl15⟩) (c15 : PySem.W.codeIn K cd15 "_law_parts" = true) (k15 : PySem.W.keepIn K (.ref f15) = true)
    (a16 : PySem.W.nsIn K mainGlobals "_law_many" = some (some (.ref f16))) (l16 : K.lookup f16 = some ⟨oc16, od16, .func (PySem.W.fnOf "_law_many" "_law_many" (defArgs s__law_many) (defBody s__law_many) (defScope s__law_many) .none kV16 dc16 pm16 an16 cd16 ct16), sl16⟩) (c16 : PySem.W.codeIn K cd16 "_law_many" = true) (k16 : PySem.W.keepIn K (.ref f16) = true)
    (a17 : PySem.W.nsIn K mainGlobals "_law_small_maker" = some (some (.ref f17))) (l17 : K.lookup f17 = some ⟨oc17, od17, .func (PySem.W.fnOf "_law_small_maker" "_law_small_maker" (defArgs s__law_small_maker) (defBody s__law_small_maker) (defScope s__law_small_maker) .none kV17 dc17 pm17 an17 cd17 ct17), sl17⟩) (c17 : PySem.W.codeIn K cd17 "_law_small_maker" = true) (k17 : PySem.W.keepIn K (.ref f17) = true)
    (a18 : PySem.W.nsIn K mainGlobals "_law_places" = some (some (.ref f18))) (l18 : K.lookup f18 = some ⟨oc18, od18, .func (PySem.W.fnOf "_law_places" "_law_places" (defArgs s__law_places) (defBody s__law_places) (defScope s__law_places) .none kV18 dc18 pm18 an18 cd18 ct18), sl18⟩) (c18 : PySem.W.codeIn K cd18 "_law_places" = true) (k18 : PySem.W.keepIn K (.ref f18) = true)
    (a19 : PySem.W.nsIn K mainGlobals "within_of" = some (some (.ref f19))) (l19 : K.lookup f19 = some ⟨oc19, od19, .func (PySem.W.fnOf "within_of" "within_of" (defArgs s_within_of) (defBody s_within_of) (defScope s_within_of) .none kV19 dc19 pm19 an19 cd19 ct19), sl19⟩) (c19 : PySem.W.codeIn K cd19 "within_of" = true) (k19 : PySem.W.keepIn K (.ref f19) = true)
    (a20 : PySem.W.nsIn K mainGlobals "maker_at" = some (some (.ref f20))) (l20 : K.lookup f20 = some ⟨oc20, od20, .func (PySem.W.fnOf "maker_at" "maker_at" (defArgs s_maker_at) (defBody s_maker_at) (defScope s_maker_at) .none kV20 dc20 pm20 an20 cd20 ct20), sl20⟩) (c20 : PySem.W.codeIn K cd20 "maker_at" = true) (k20 : PySem.W.keepIn K (.ref f20) = true)
    (a21 : PySem.W.nsIn K mainGlobals "law" = some (some (.ref f21))) (l21 : K.lookup f21 = some ⟨oc21, od21, .func (PySem.W.fnOf "law" "law" (defArgs s_law) (defBody s_law) (defScope s_law) .none kV21 dc21 pm21 an21 cd21 ct21), sl21⟩) (c21 : PySem.W.codeIn K cd21 "law" = true) (k21 : PySem.W.keepIn K (.ref f21) = true)
    (z_len : PySem.W.nsIn K mainGlobals "len" = some none)
    (z_list : PySem.W.nsIn K mainGlobals "list" = some none)
    (z_tuple : PySem.W.nsIn K mainGlobals "tuple" = some none)
    (z_range : PySem.W.nsIn K mainGlobals "range" = some none)
    (z_dict : PySem.W.nsIn K mainGlobals "dict" = some none)
    (z_sorted : PySem.W.nsIn K mainGlobals "sorted" = some none)
    (z_sum : PySem.W.nsIn K mainGlobals "sum" = some none) :
    ∃ fd : FuncData, (∀ (s : Shared) (v : Value), BindsTo s fd ⟨[v], []⟩ [("script", v)]) ∧ ∀ base : Heap, K.In base → base.Ns mainGlobals mg → FnOk l.prog w K mg base CX0 80 fa fd ["script"] (spLaw K) := by
  have e := hfa.symm.trans (PySem.W.mg_of X G a21)
  cases e
  have z_len := PySem.W.mg_none_of X G z_len
  have z_list := PySem.W.mg_none_of X G z_list
  have z_tuple := PySem.W.mg_none_of X G z_tuple
  have z_range := PySem.W.mg_none_of X G z_range
  have z_dict := PySem.W.mg_none_of X G z_dict
  have z_sorted := PySem.W.mg_none_of X G z_sorted
  have z_sum := PySem.W.mg_none_of X G z_sum
  refine ⟨PySem.W.fnOf "law" "law" (defArgs s_law) (defBody s_law) (defScope s_law) .none kV21 dc21 pm21 an21 cd21 ct21, fun s v => .of_eq rfl, fun base _ _ => ?_⟩
  have C__law_fill := ok__law_fill (Pg := l.prog) (w := w) (base := base) (fun_mk (st := s__law_fill) l0 c0 k0) (PySem.W.mg_of X G a0) 
  have C__law_next := ok__law_next (Pg := l.prog) (w := w) (base := base) (fun_mk (st := s__law_next) l1 c1 k1) (PySem.W.mg_of X G a1) C__law_fill z_len
  have C__law_turned := ok__law_turned (Pg := l.prog) (w := w) (base := base) (fun_mk (st := s__law_turned) l2 c2 k2) (PySem.W.mg_of X G a2) C__law_next z_list z_len
  have C__law_words := ok__law_words (Pg := l.prog) (w := w) (base := base) (fun_mk (st := s__law_words) l3 c3 k3) (PySem.W.mg_of X G a3) C__law_next
  have C__law_head := ok__law_head (Pg := l.prog) (w := w) (base := base) (fun_mk (st := s__law_head) l4 c4 k4) (PySem.W.mg_of X G a4) C__law_next C__law_words z_len z_tuple
  have C__law_telling := ok__law_telling (Pg := l.prog) (w := w) (base := base) (fun_mk (st := s__law_telling) l5 c5 k5) (PySem.W.mg_of X G a5) C__law_next C__law_turned C__law_head z_range z_tuple
  have C__law_maker_telling := ok__law_maker_telling (Pg := l.prog) (w := w) (base := base) (fun_mk (st := s__law_maker_telling) l6 c6 k6) (PySem.W.mg_of X G a6) C__law_telling
  have C__law_endless := ok__law_endless (Pg := l.prog) (w := w) (base := base) (fun_mk (st := s__law_endless) l7 c7 k7) (PySem.W.mg_of X G a7) 
  have C__law_any := ok__law_any (Pg := l.prog) (w := w) (base := base) (fun_mk (st := s__law_any) l8 c8 k8) (PySem.W.mg_of X G a8) C__law_next z_len
  have C__law_name_bound := ok__law_name_bound (Pg := l.prog) (w := w) (base := base) (fun_mk (st := s__law_name_bound) l9 c9 k9) (PySem.W.mg_of X G a9) C__law_next
  have C__law_row_here := ok__law_row_here (Pg := l.prog) (w := w) (base := base) (fun_mk (st := s__law_row_here) l10 c10 k10) (PySem.W.mg_of X G a10) z_dict
  have C__law_head_here := ok__law_head_here (Pg := l.prog) (w := w) (base := base) (fun_mk (st := s__law_head_here) l11 c11 k11) (PySem.W.mg_of X G a11) C__law_row_here z_dict
  have C__law_split_over := ok__law_split_over (Pg := l.prog) (w := w) (base := base) (fun_mk (st := s__law_split_over) l12 c12 k12) (PySem.W.mg_of X G a12) (fun_mk (st := s__law_for) l13 c13 k13) (PySem.W.mg_of X G a13) (fun_mk (st := s__law_wrapped) l14 c14 k14) (PySem.W.mg_of X G a14) C__law_next C__law_name_bound C__law_row_here C__law_head_here C__law_endless C__law_any z_len z_dict z_tuple z_sorted
  have C__law_for := ok__law_for (Pg := l.prog) (w := w) (base := base) (fun_mk (st := s__law_split_over) l12 c12 k12) (PySem.W.mg_of X G a12) (fun_mk (st := s__law_for) l13 c13 k13) (PySem.W.mg_of X G a13) (fun_mk (st := s__law_wrapped) l14 c14 k14) (PySem.W.mg_of X G a14) C__law_next C__law_name_bound C__law_row_here C__law_head_here C__law_endless C__law_any z_len z_dict z_tuple z_sorted
  have C__law_wrapped := ok__law_wrapped (Pg := l.prog) (w := w) (base := base) (fun_mk (st := s__law_split_over) l12 c12 k12) (PySem.W.mg_of X G a12) (fun_mk (st := s__law_for) l13 c13 k13) (PySem.W.mg_of X G a13) (fun_mk (st := s__law_wrapped) l14 c14 k14) (PySem.W.mg_of X G a14) C__law_next C__law_name_bound C__law_row_here C__law_head_here C__law_endless C__law_any z_len z_dict z_tuple z_sorted
  have C__law_parts := ok__law_parts (Pg := l.prog) (w := w) (base := base) (fun_mk (st := s__law_parts) l15 c15 k15) (PySem.W.mg_of X G a15) 
  have C__law_many := ok__law_many (Pg := l.prog) (w := w) (base := base) (fun_mk (st := s__law_many) l16 c16 k16) (PySem.W.mg_of X G a16) C__law_parts z_sum
  have C__law_small_maker := ok__law_small_maker (Pg := l.prog) (w := w) (base := base) (fun_mk (st := s__law_small_maker) l17 c17 k17) (PySem.W.mg_of X G a17) C__law_wrapped C__law_many C__law_endless
  have C__law_places := ok__law_places (Pg := l.prog) (w := w) (base := base) (fun_mk (st := s__law_places) l18 c18 k18) (PySem.W.mg_of X G a18) C__law_parts
  have C_within_of := ok_within_of (Pg := l.prog) (w := w) (base := base) (fun_mk (st := s_within_of) l19 c19 k19) (PySem.W.mg_of X G a19) 
  have C_maker_at := ok_maker_at (Pg := l.prog) (w := w) (base := base) (fun_mk (st := s_maker_at) l20 c20 k20) (PySem.W.mg_of X G a20) C_within_of
  exact law_imp (ok_law (fun_mk (st := s_law) l21 c21 k21) C__law_maker_telling C__law_any C__law_small_maker C__law_places C_maker_at z_range) law_true
theorem walk {l : PySem.W.OpenLaw} {q : Program} {loose : List Str} {XP : (Str → Option Value) → Heap → Prop} {YP : World → Heap → Prop} {d : DefRec} {K : Params → PySem.W.Frag} (hn : l.most = some 63) (hdf : d.params.defaults = [])
    (hY : ∀ (w : World) (h : Heap), YP w h → (K w.params).In h)
    (F : ∀ (w : World) (mg : Str → Option Value) (fa : Addr) (h : Heap), (K w.params).In h → h.Ns mainGlobals mg → mg d.name = some (.ref fa) →
      ∃ fd : FuncData, (∀ (s : Shared) (u : Value), BindsTo s fd ⟨[u], []⟩ [("script", u)]) ∧ ∀ base : Heap, (K w.params).In base → base.Ns mainGlobals mg → FnOk l.prog w (K w.params) mg base CX0 80 fa fd ["script"] (spLaw (K w.params))) :
    PySem.W.WalkO q loose XP YP l.row.toRowW d [] (fun f vs => PySem.call f vs) :=
  L2.walk_of (n := 63) (k := 80) (x := "script") (CX := fun _ => CX0) (sp := fun w => spLaw (K w.params)) hn (by decide) hdf ⟨rfl, by decide, by decide⟩ hY F (fun _ _ a ns hl hO hS => ⟨a, ns, rfl, hO, hS, hl, fun _ => rfl⟩) fun _ _ _ _ _ z => z
end
end CKP
open PySem PySem.W PyProof.Rows
set_option maxRecDepth 100000 in
set_option maxHeartbeats 0 in
theorem PySem.Challenge.cw_coilkind_k76_makers_at_places_holds : PySem.Challenge.rw_coilkind_k76_makers_at_places.Holds := by
  w_on; o_law; k_head; (case hw => w_witness2)
  k_fill
  refine CKP.walk (l := PySem.Challenge.rw_coilkind_k76_makers_at_places) rfl rfl (fun w h Y => PySem.W.kIn_of Y) ?F
  case F =>
    intro w mg fa h KX G hmg
    refine' CKP.all_mk KX G hmg ?a0 ?l0 ?c0 ?k0 ?a1 ?l1 ?c1 ?k1 ?a2 ?l2 ?c2 ?k2 ?a3 ?l3 ?c3 ?k3 ?a4 ?l4 ?c4 ?k4 ?a5 ?l5 ?c5 ?k5 ?a6 ?l6 ?c6 ?k6 ?a7 ?l7 ?c7 ?k7 ?a8 ?l8 ?c8 ?k8 ?a9 ?l9 ?c9 ?k9 ?a10 ?l10 ?c10 ?k10 ?a11 ?l11 ?c11 ?k11 ?a12 ?l12 ?c12 ?k12 ?a13 ?l13 ?c13 ?k13 ?a14 ?l14 ?c14 ?k14 ?a15 ?l15 ?c15 ?k15 ?a16 ?l16 ?c16 ?k16 ?a17 ?l17 ?c17 ?k17 ?a18 ?l18 ?c18 ?k18 ?a19 ?l19 ?c19 ?k19 ?a20 ?l20 ?c20 ?k20 ?a21 ?l21 ?c21 ?k21 ?z_len ?z_list ?z_tuple ?z_range ?z_dict ?z_sorted ?z_sum
    (case a0 => k_is)
    (case l0 => k_is)
    (case c0 => k_is)
    (case k0 => k_is)
    (case a1 => k_is)
    (case l1 => k_is)
    (case c1 => k_is)
    (case k1 => k_is)
    (case a2 => k_is)
    (case l2 => k_is)
    (case c2 => k_is)
    (case k2 => k_is)
    (case a3 => k_is)
    (case l3 => k_is)
    (case c3 => k_is)
    (case k3 => k_is)
    (case a4 => k_is)
    (case l4 => k_is)
    (case c4 => k_is)
    (case k4 => k_is)
    (case a5 => k_is)
    (case l5 => k_is)
    (case c5 => k_is)
    (case k5 => k_is)
    (case a6 => k_is)
    (case l6 => k_is)
    (case c6 => k_is)
    (case k6 => k_is)
    (case a7 => k_is)
    (case l7 => k_is)
    (case c7 => k_is)
    (case k7 => k_is)
    (case a8 => k_is)
    (case l8 => k_is)
    (case c8 => k_is)
    (case k8 => k_is)
    (case a9 => k_is)
    (case l9 => k_is)
    (case c9 => k_is)
    (case k9 => k_is)
    (case a10 => k_is)
    (case l10 => k_is)
    (case c10 => k_is)
    (case k10 => k_is)
    (case a11 => k_is)
    (case l11 => k_is)
    (case c11 => k_is)
    (case k11 => k_is)
    (case a12 => k_is)
    (case l12 => k_is)
    (case c12 => k_is)
    (case k12 => k_is)
    (case a13 => k_is)
    (case l13 => k_is)
    (case c13 => k_is)
    (case k13 => k_is)
    (case a14 => k_is)
    (case l14 => k_is)
    (case c14 => k_is)
    (case k14 => k_is)
    (case a15 => k_is)
    (case l15 => k_is)
    (case c15 => k_is)
    (case k15 => k_is)
    (case a16 => k_is)
    (case l16 => k_is)
    (case c16 => k_is)
    (case k16 => k_is)
    (case a17 => k_is)
    (case l17 => k_is)
    (case c17 => k_is)
    (case k17 => k_is)
    (case a18 => k_is)
    (case l18 => k_is)
    (case c18 => k_is)
    (case k18 => k_is)
    (case a19 => k_is)
    (case l19 => k_is)
    (case c19 => k_is)
    (case k19 => k_is)
    (case a20 => k_is)
    (case l20 => k_is)
    (case c20 => k_is)
    (case k20 => k_is)
    (case a21 => k_is)
    (case l21 => k_is)
    (case c21 => k_is)
    (case k21 => k_is)
    (case z_len => k_is)
    (case z_list => k_is)
    (case z_tuple => k_is)
    (case z_range => k_is)
    (case z_dict => k_is)
    (case z_sorted => k_is)
    (case z_sum => k_is)
#print axioms PySem.Challenge.cw_coilkind_k76_makers_at_places_holds
