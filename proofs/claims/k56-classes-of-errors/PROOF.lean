import PyProof.Rows.All
import Wide.All
import OpenK.AllK
import Wide.FinOn
import HandS.ForMost
import HandS.ForExc
import HandS.WordsExc
import HandS.Defaults
import HandS.Nested
import KE.KDictKeyed
import HandS.ExcInit
import HandS.HeadHook1
import HandS.HeadHook2
import HandS.TupAny
import HandS.TupMul
import HandS.TupLe
import HandS.Deep
import HandS.Flow
import HandS.WideMore
import HandS.Style
import HandS.CallSlots
import HandS.Property
import HandS.Walk
import HandS.Zip
import HandS.IsInst
import HandS.SortInts
import HandS.ClsMeth
import HandS.TryOnly
import KE.KExcInit
import HandS.ExcField
import HandS.ExcIs
import KE.KExcIs
import HandS.Wide
import KE.KStateDown
import HandS.Head0
import HandS.Head1
import HandS.Head2
import HandS.HeadEnd
import HandS.HeadWalk
import PySem.Challenge.RW_windowkin_k56_classes_of_errors
set_option Elab.async false
set_option linter.all false
set_option maxRecDepth 100000
/-! values, the small language, its runs -/
namespace WK
noncomputable section
open PySem

inductive MV where
  | non | bl (b : Bool) | int (i : Int) | str (x : Str)
  | tup (xs : List MV) | lst (xs : List MV)
  | dct (k : Bool) (kvs : List (MV × MV))
  | ins (c : Nat) (fs : List (Nat × MV))
  | exc (c : Nat) (fs : List (Nat × MV))
  | ref (l : Nat)
  | ati (l : Nat) | ats (l : Nat)
instance : Inhabited MV := ⟨.non⟩

/-- what stands at a label -/
inductive MO where
  | lst (xs : List MV) | dct (k : Bool) (kvs : List (MV × MV)) | ins (c : Nat) (fs : List (Nat × MV)) | bag
/-- the things that may change, by labels; nxt: the next label -/
structure MH where
  nxt : Nat
  es : List (Nat × MO)
def getL (l : Nat) : List (Nat × MO) → Option MO
  | [] => none
  | (k, o) :: r => match Nat.beq l k with
    | true => some o
    | false => getL l r
def setL (l : Nat) (o : MO) : List (Nat × MO) → List (Nat × MO)
  | [] => []
  | (k, u) :: r => match Nat.beq l k with
    | true => (k, o) :: r
    | false => (k, u) :: setL l o r
def delL (l : Nat) : List (Nat × MO) → List (Nat × MO)
  | [] => []
  | (k, u) :: r => match Nat.beq l k with
    | true => delL l r
    | false => (k, u) :: delL l r
def MH.get (h : MH) (l : Nat) : Option MO := getL l h.es
def MH.put (h : MH) (l : Nat) (o : MO) : MH := ⟨h.nxt, setL l o h.es⟩
def MH.del (h : MH) (l : Nat) : MH := ⟨h.nxt, delL l h.es⟩
def MH.new (h : MH) (o : MO) : MH := ⟨h.nxt + 1, (h.nxt, o) :: h.es⟩
abbrev MS := List (Option MV)

/-- draws are asked for -/
inductive Tr (α : Type) where
  | ret (a : α) | ask (n : Int) (k : Int → Tr α) | bad
def Tr.bind {α β : Type} (t : Tr α) (f : α → Tr β) : Tr β := Tr.rec (motive := fun _ => Tr β) f (fun n _ ih => .ask n ih) .bad t
def Tr.wp {α : Type} : Tr α → (α → Prop) → Prop
  | .ret a, Q => Q a
  | .ask n k, Q => ∀ r : Int, 0 ≤ r → r < n → (k r).wp Q
  | .bad, _ => False
theorem Tr.wp_bind {α β : Type} (t : Tr α) (f : α → Tr β) (Q : β → Prop) : (t.bind f).wp Q ↔ t.wp fun a => (f a).wp Q := by
  induction t with
  | ret a => exact Iff.rfl
  | ask n k ih => exact ⟨fun h r h0 h1 => (ih r).mp (h r h0 h1), fun h r h0 h1 => (ih r).mpr (h r h0 h1)⟩
  | bad => exact Iff.rfl
theorem Tr.wp_mono {α : Type} {t : Tr α} {Q Q' : α → Prop} (h : t.wp Q) (hq : ∀ a, Q a → Q' a) : t.wp Q' := by
  induction t with
  | ret a => exact hq a h
  | ask n k ih => exact fun r h0 h1 => ih r (h r h0 h1)
  | bad => exact h
/-- all draws below n, one by one -/
def allB (n : Nat) (f : Int → Bool) : Bool := Nat.rec (motive := fun _ => Bool) true (fun m ih => ih && f (m : Int)) n
theorem allB_ok {f : Int → Bool} : ∀ {n : Nat}, allB n f = true → ∀ r : Int, 0 ≤ r → r < n → f r = true
  | 0, _, r, h0, h1 => absurd h1 (by simp; omega)
  | n + 1, h, r, h0, h1 => by
    have h2 : (allB n f && f (n : Int)) = true := h
    obtain ⟨ha, hb⟩ := Bool.and_eq_true_iff.mp h2
    by_cases e : r = (n : Int)
    · rw [e]; exact hb
    · exact allB_ok ha r h0 (by omega)
def Tr.chk {α : Type} (p : α → Bool) : Tr α → Bool
  | .ret a => p a
  | .ask n k => decide (n ≤ 1000) && allB n.toNat fun r => (k r).chk p
  | .bad => false
theorem Tr.chk_ok {α : Type} {p : α → Bool} : ∀ {t : Tr α}, t.chk p = true → t.wp fun a => p a = true
  | .ret a, h => h
  | .ask n k, h => fun r h0 h1 => by
    obtain ⟨_, hb⟩ := Bool.and_eq_true_iff.mp (show (decide (n ≤ 1000) && allB n.toNat fun r => (k r).chk p) = true from h)
    exact Tr.chk_ok (allB_ok hb r h0 (by omega))
  | .bad, h => by cases h

/-- an expression's end -/
inductive ER where
  | ok (v : MV) (h : MH) | ex (x : MV) (h : MH)
/-- a list of expressions' end -/
inductive EL where
  | ok (vs : List MV) (h : MH) | ex (x : MV) (h : MH)
/-- a statement's end -/
inductive SR where
  | nx (σ : MS) (h : MH) | bk (σ : MS) (h : MH) | ct (σ : MS) (h : MH) | rt (v : MV) (h : MH) | ex (x : MV) (σ : MS) (h : MH)
def Tr.be {α : Type} (t : Tr ER) (f : MV → MH → Tr α) (g : MV → MH → Tr α) : Tr α := t.bind fun r => ER.rec (motive := fun _ => Tr α) f g r
def exE (x : MV) (h : MH) : Tr ER := .ret (.ex x h)
def exL (x : MV) (h : MH) : Tr EL := .ret (.ex x h)
def okE (v : MV) (h : MH) : Tr ER := .ret (.ok v h)

/-! ### the text's tables -/
structure ClsRec where
  name : Str
  meths : List (Nat × Nat) := []
  props : List (Nat × Nat) := []
  cons : List (Nat × MV) := []
  sup : List Nat := []
structure Dat where
  nm : List Str                   -- attributes' names
  cls : List ClsRec

/-! ### values' own reckoning -/
def lk (f : Nat) : List (Nat × MV) → Option MV
  | [] => none
  | (k, v) :: r => match Nat.beq f k with
    | true => some v
    | false => lk f r
def put (f : Nat) (v : MV) : List (Nat × MV) → List (Nat × MV)
  | [] => [(f, v)]
  | (k, u) :: r => match Nat.beq f k with
    | true => (k, v) :: r
    | false => (k, u) :: put f v r
def asc {α : Type} (k : Nat) : List (Nat × α) → Option α
  | [] => none
  | (j, v) :: r => match Nat.beq k j with
    | true => some v
    | false => asc k r
/-- a list's items -/
def asL (h : MH) : MV → Option (List MV)
  | .lst xs => some xs
  | .ref l => match h.get l with
    | some (.lst xs) => some xs
    | _ => none
  | _ => none
/-- a list's or a tuple's items -/
def asQ (h : MH) : MV → Option (List MV)
  | .tup xs => some xs
  | v => asL h v
def asD (h : MH) : MV → Option (Bool × List (MV × MV))
  | .dct k kvs => some (k, kvs)
  | .ref l => match h.get l with
    | some (.dct k kvs) => some (k, kvs)
    | _ => none
  | _ => none
mutual
def keyOf : MV → Option NestedKey
  | .non => some .none
  | .int i => some (.num i)
  | .str x => some (.text x)
  | .tup xs => match keysOf xs with
    | some ks => some (.tup ks)
    | none => none
  | _ => none
def keysOf : List MV → Option (List NestedKey)
  | [] => some []
  | x :: r => match keyOf x with
    | some k => match keysOf r with
      | some ks => some (k :: ks)
      | none => none
    | none => none
end
/-- a tuple as a dict's key, not too deep -/
def keyN (x : MV) : Option NestedKey := match keyOf x with
  | some k => match Nat.ble k.depth 8 with
    | true => some k
    | false => none
  | none => none
def asI (h : MH) : MV → Option (Nat × List (Nat × MV))
  | .ins c fs => some (c, fs)
  | .ref l => match h.get l with
    | some (.ins c fs) => some (c, fs)
    | _ => none
  | _ => none
def nIx (n : Nat) (i : Int) : Option Nat := match i with
  | .ofNat j => match Nat.ble (j + 1) n with
    | true => some j
    | false => none
  | .negSucc j => match Nat.ble (j + 1) n with
    | true => some (n - (j + 1))
    | false => none
def nth : List MV → Nat → Option MV
  | [], _ => none
  | x :: _, 0 => some x
  | _ :: r, n + 1 => nth r n
mutual
def eqV : MV → MV → Bool
  | .non, .non => true
  | .bl a, .bl b => a == b
  | .int a, .int b => decide (a = b)
  | .str a, .str b => decide (a = b)
  | .tup xs, .tup ys => eqVs xs ys
  | .lst xs, .lst ys => eqVs xs ys
  | .ati a, .ati b => Nat.beq a b
  | .ats a, .ats b => Nat.beq a b
  | _, _ => false
def eqVs : List MV → List MV → Bool
  | [], [] => true
  | x :: xs, y :: ys => eqV x y && eqVs xs ys
  | _, _ => false
end
def okO (o : Option MV) (h : MH) : Tr ER := match o with
  | some v => okE v h
  | none => .bad
def Tr.bl {α : Type} (t : Tr EL) (f : List MV → MH → Tr α) (g : MV → MH → Tr α) : Tr α := t.bind fun r => EL.rec (motive := fun _ => Tr α) f g r
end
end WK
set_option Elab.async false
set_option linter.all false
set_option maxRecDepth 100000
/-! how the small language's values stand in the layer's heap -/
namespace WK
noncomputable section
open PySem L2
open NdefX (NTab TabN TabsN)

/-- where the labels stand; amb: what callers may change -/
structure Rho where
  at_ : Nat → Option Addr
  amb : Addr → Prop
  sv : Nat → Option V
/-- the text's tables, the program, the world, the tables of code objects -/
structure Tb extends Dat where
  P : Program
  w : World
  tabs : List NTab
  nd : nm.Nodup
def isTbl : HO → Bool
  | .tbl _ => true
  | _ => false
/-- the addresses of the things that may change here -/
def Own (ρ : Rho) (h : MH) (a : Addr) : Prop := ∃ l o, h.get l = some o ∧ ρ.at_ l = some a
def Mu (ρ : Rho) (h : MH) (a : Addr) : Prop := ρ.amb a ∨ Own ρ h a

section
variable (T : Tb) (K : PySem.W.Frag)
def cAd (c : Nat) : Addr := match T.cls[c]? with
  | some r => He.ga K r.name
  | none => 0
def nmS (f : Nat) : Str := T.nm.getD f ""
end

/-- at d stands a dict with keys that are tuples: the keys, their tuples' places, the values -/
def dictX (P : Program) (w : World) (d : Addr) (ps : List (NestedKey × Addr × V)) : Heap → Prop := fun h =>
  ∃ xs : List (NestedKey × Addr × Value), Paired (fun (p : NestedKey × Addr × V) (q : NestedKey × Addr × Value) => p.1 = q.1 ∧ p.2.1 = q.2.1 ∧ RelV p.2.2 q.2.2) ps xs ∧
    ∃ o es ep, h.get? d = some o ∧ o.ExactDict ∧ o.data = .dict es ep ∧ es.toList = xs.map (entryOfKey (nestedKind P w)) ∧ (xs.map (·.1)).Nodup
def dictH (P : Program) (w : World) (d : Addr) (ps : List (NestedKey × Addr × V)) : HO := .ext (dictX P w d ps)
mutual
inductive Den (T : Tb) (K : PySem.W.Frag) (ρ : Rho) (M : Addr → Prop) (H : Hp) : MV → V → Prop
  | non : Den T K ρ M H .non .non
  | bl (b : Bool) : Den T K ρ M H (.bl b) (.bl b)
  | int (i : Int) : Den T K ρ M H (.int i) (.int i)
  | str (x : Str) : Den T K ρ M H (.str x) (.str x)
  | tup {xs : List MV} {vs : List V} {a : Addr} : ¬ M a → H a = some (.tup vs) → DenL T K ρ M H xs vs → Den T K ρ M H (.tup xs) (.ref a)
  | tupK {xs : List MV} {vs : List V} {a : Addr} : (∀ H, SqT K H a vs) → DenL T K ρ M H xs vs → Den T K ρ M H (.tup xs) (.ref a)
  | lst {xs : List MV} {vs : List V} {a : Addr} : ¬ M a → H a = some (.lst vs) → DenL T K ρ M H xs vs → Den T K ρ M H (.lst xs) (.ref a)
  | ins {c : Nat} {fs : List (Nat × MV)} {gs : List (Str × V)} {a dx : Addr} : ¬ M a → H a = some (.ins (cAd T K c) dx gs) → DenF T K ρ M H fs gs → Den T K ρ M H (.ins c fs) (.ref a)
  | exc {c : Nat} {fs : List (Nat × MV)} {gs : List (Str × V)} {a d : Addr} : ¬ M a → H a = some (exo a (cAd T K c) (some d)) → ¬ M d → H d = some (exd d gs) → DenF T K ρ M H fs gs → Den T K ρ M H (.exc c fs) (.ref a)
  | ref {l : Nat} {a : Addr} : ρ.at_ l = some a → Den T K ρ M H (.ref l) (.ref a)
  | ati {l : Nat} {i : Int} : ρ.sv l = some (.int i) → Den T K ρ M H (.ati l) (.int i)
  | ats {l : Nat} {x : Str} : ρ.sv l = some (.str x) → x.length ≤ 64 → Den T K ρ M H (.ats l) (.str x)
  | dK {kvs : List (MV × MV)} {ps : List (Key × V)} {a : Addr} : ¬ M a → H a = some (.dK ps) → DenK T K ρ M H kvs ps → Den T K ρ M H (.dct true kvs) (.ref a)
  | dN {kvs : List (MV × MV)} {ps : List (NestedKey × Addr × V)} {a : Addr} : ¬ M a → H a = some (dictH T.P T.w a ps) → (a == sysModules) = false → DenN T K ρ M H kvs ps → Den T K ρ M H (.dct false kvs) (.ref a)
inductive DenL (T : Tb) (K : PySem.W.Frag) (ρ : Rho) (M : Addr → Prop) (H : Hp) : List MV → List V → Prop
  | nil : DenL T K ρ M H [] []
  | cons {x : MV} {v : V} {xs : List MV} {vs : List V} : Den T K ρ M H x v → DenL T K ρ M H xs vs → DenL T K ρ M H (x :: xs) (v :: vs)
inductive DenF (T : Tb) (K : PySem.W.Frag) (ρ : Rho) (M : Addr → Prop) (H : Hp) : List (Nat × MV) → List (Str × V) → Prop
  | nil : DenF T K ρ M H [] []
  | cons {f : Nat} {x : MV} {v : V} {fs : List (Nat × MV)} {gs : List (Str × V)} : f < T.nm.length → Den T K ρ M H x v → DenF T K ρ M H fs gs → DenF T K ρ M H ((f, x) :: fs) ((nmS T f, v) :: gs)
inductive DenK (T : Tb) (K : PySem.W.Frag) (ρ : Rho) (M : Addr → Prop) (H : Hp) : List (MV × MV) → List (Key × V) → Prop
  | nil : DenK T K ρ M H [] []
  | consI {i : Int} {x : MV} {v : V} {r : List (MV × MV)} {r' : List (Key × V)} : Den T K ρ M H x v → DenK T K ρ M H r r' → DenK T K ρ M H ((.int i, x) :: r) ((.inl i, v) :: r')
  | consS {z : Str} {x : MV} {v : V} {r : List (MV × MV)} {r' : List (Key × V)} : Den T K ρ M H x v → DenK T K ρ M H r r' → DenK T K ρ M H ((.str z, x) :: r) ((.inr z, v) :: r')
inductive DenN (T : Tb) (K : PySem.W.Frag) (ρ : Rho) (M : Addr → Prop) (H : Hp) : List (MV × MV) → List (NestedKey × Addr × V) → Prop
  | nil : DenN T K ρ M H [] []
  | cons {k x : MV} {nk : NestedKey} {a : Addr} {v : V} {r : List (MV × MV)} {r' : List (NestedKey × Addr × V)} : keyN k = some nk → Den T K ρ M H k (.ref a) → Den T K ρ M H x v → DenN T K ρ M H r r' → DenN T K ρ M H ((k, x) :: r) ((nk, a, v) :: r')
end

/-- an object at a label -/
def ObR (T : Tb) (K : PySem.W.Frag) (ρ : Rho) (M : Addr → Prop) (H : Hp) (a : Addr) : MO → Prop
  | .lst xs => ∃ vs, H a = some (.lst vs) ∧ DenL T K ρ M H xs vs
  | .ins c fs => ∃ dx gs, H a = some (.ins (cAd T K c) dx gs) ∧ DenF T K ρ M H fs gs
  | .dct true kvs => ∃ ps, H a = some (.dK ps) ∧ DenK T K ρ M H kvs ps
  | .dct false kvs => ∃ ps, H a = some (dictH T.P T.w a ps) ∧ (a == sysModules) = false ∧ DenN T K ρ M H kvs ps
  | .bag => ∃ (b : Addr) (i z q : Int) (ns : List Int), H a = some (.lst [.ref b, .int i, .int z, .int q]) ∧ ¬ M b ∧ H b = some (.lst (ns.map V.int)) ∧ 0 ≤ i ∧ 0 ≤ z ∧ 0 ≤ q ∧ q < 2147483563
/-- the tables of code objects; what they tell stays as it is -/
def TabsW (T : Tb) (ρ : Rho) (h : MH) (H : Hp) : Prop := ∀ p ∈ T.tabs, ∃ ps : Array Value, H p.1 = some (.tbl ps) ∧ TriplesOk ps.toList ∧ ∀ (pos : Pos) (cv : Value), codeAmong pos ps.toList = some cv → ∃ c, cv = .ref c ∧ H c = some (LamX.CodeO c (p.2 pos.line pos.col)) ∧ ¬ Mu ρ h c
theorem TabsW.n {T : Tb} {ρ : Rho} {h : MH} {H : Hp} (t : TabsW T ρ h H) : TabsN T.tabs H := fun p hp => let ⟨ps, e1, e2, e3⟩ := t p hp; ⟨ps, e1, e2, fun pos cv z => let ⟨c, q1, q2, _⟩ := e3 pos cv z; ⟨c, q1, q2⟩⟩
theorem TabsW.mv {T : Tb} {ρ ρ' : Rho} {h h' : MH} {H H' : Hp} (t : TabsW T ρ h H) (e : ∀ b o, H b = some o → ¬ Mu ρ h b → H' b = some o) (tb : ∀ b ps, H b = some (.tbl ps) → H' b = some (.tbl ps)) (n : ∀ b o, H b = some o → ¬ Mu ρ h b → ¬ Mu ρ' h' b) : TabsW T ρ' h' H' := fun p hp =>
  let ⟨ps, e1, e2, e3⟩ := t p hp; ⟨ps, tb _ _ e1, e2, fun pos cv z => let ⟨c, q1, q2, q3⟩ := e3 pos cv z; ⟨c, q1, e _ _ q2 q3, n _ _ q2 q3⟩⟩
structure SimH (T : Tb) (K : PySem.W.Frag) (ρ : Rho) (h : MH) (H : Hp) : Prop where
  lt : ∀ l a, ρ.at_ l = some a → l < h.nxt
  ltv : ∀ l v, ρ.sv l = some v → l < h.nxt
  tb : TabsW T ρ h H
  inj : ∀ l l' o o' a, h.get l = some o → h.get l' = some o' → ρ.at_ l = some a → ρ.at_ l' = some a → l = l'
  ob : ∀ l o, h.get l = some o → ∃ a, ρ.at_ l = some a ∧ ObR T K ρ (Mu ρ h) H a o
  am : ∀ a, ρ.amb a → ∃ o, H a = some o
  dis : ∀ a, Own ρ h a → ¬ ρ.amb a
/-- the slots -/
structure SimS (T : Tb) (K : PySem.W.Frag) (ρ : Rho) (M : Addr → Prop) (H : Hp) (m : MS) (σ : St) : Prop where
  len : m.length = σ.length
  at_ : ∀ (i : Nat) (x : MV), m[i]? = some (some x) → ∃ v, σ[i]? = some (some v) ∧ Den T K ρ M H x v
/-- what goes on: labels stay, what can't change stays -/
structure Le (ρ : Rho) (h : MH) (H : Hp) (ρ' : Rho) (h' : MH) (H' : Hp) : Prop where
  ext : ∀ l a, ρ.at_ l = some a → ρ'.at_ l = some a
  exv : ∀ l v, ρ.sv l = some v → ρ'.sv l = some v
  nxt : h.nxt ≤ h'.nxt
  amb : ∀ a, ρ.amb a → ρ'.amb a
  amb2 : ∀ a, ρ'.amb a → ρ.amb a ∨ H a = none
  own : ∀ a, Own ρ' h' a → Own ρ h a ∨ H a = none
  keep : ∀ a o, H a = some o → ¬ Own ρ h a → isTbl o = false → H' a = some o
  live : ∀ a o, H a = some o → ∃ u, H' a = some u
section
variable {T : Tb} {K : PySem.W.Frag} {ρ ρ' ρ'' : Rho} {h h' h'' : MH} {H H' H'' : Hp} {x : MV} {v : V}
theorem Le.refl : Le ρ h H ρ h H := ⟨fun _ _ e => e, fun _ _ e => e, Nat.le_refl _, fun _ m => m, fun _ m => .inl m, fun _ m => .inl m, fun _ _ e _ _ => e, fun _ o e => ⟨o, e⟩⟩
theorem Le.nown (e : Le ρ h H ρ' h' H') {a : Addr} {o : HO} (ha : H a = some o) (n : ¬ Own ρ h a) : ¬ Own ρ' h' a := fun m => by
  rcases e.own a m with q | q
  · exact n q
  · rw [ha] at q; cases q
theorem Le.nomu (e : Le ρ h H ρ' h' H') {a : Addr} {o : HO} (ha : H a = some o) (n : ¬ Mu ρ h a) : ¬ Mu ρ' h' a := fun m => by
  rcases m with m | m
  · rcases e.amb2 a m with q | q
    · exact n (.inl q)
    · rw [ha] at q; cases q
  · exact e.nown ha (fun q => n (.inr q)) m
theorem Le.kp (e : Le ρ h H ρ' h' H') {a : Addr} {o : HO} (ha : H a = some o) (n : ¬ Mu ρ h a) (t : isTbl o = false) : H' a = some o := e.keep a o ha (fun q => n (.inr q)) t
theorem Le.trans (a : Le ρ h H ρ' h' H') (b : Le ρ' h' H' ρ'' h'' H'') : Le ρ h H ρ'' h'' H'' where
  ext := fun l x e => b.ext l x (a.ext l x e)
  exv := fun l x e => b.exv l x (a.exv l x e)
  nxt := Nat.le_trans a.nxt b.nxt
  amb := fun x m => b.amb x (a.amb x m)
  amb2 := fun x m => by
    cases q : H x with
    | none => exact .inr rfl
    | some o =>
      obtain ⟨u, q'⟩ := a.live x o q
      rcases b.amb2 x m with z | z
      · rcases a.amb2 x z with y | y
        · exact .inl y
        · rw [q] at y; cases y
      · rw [q'] at z; cases z
  own := fun x m => by
    cases q : H x with
    | none => exact .inr rfl
    | some o =>
      obtain ⟨u, q'⟩ := a.live x o q
      rcases b.own x m with z | z
      · rcases a.own x z with y | y
        · exact .inl y
        · rw [q] at y; cases y
      · rw [q'] at z; cases z
  keep := fun x o e n t => b.keep x o (a.keep x o e n t) (a.nown e n) t
  live := fun x o e => let ⟨u, e1⟩ := a.live x o e; b.live x u e1
mutual
theorem Den.le (e : Le ρ h H ρ' h' H') : ∀ {x : MV} {v : V}, Den T K ρ (Mu ρ h) H x v → Den T K ρ' (Mu ρ' h') H' x v
  | _, _, .non => .non
  | _, _, .bl b => .bl b
  | _, _, .int i => .int i
  | _, _, .str x => .str x
  | _, _, .tup n r d => .tup (e.nomu r n) (e.kp r n rfl) (DenL.le e d)
  | _, _, .tupK s d => .tupK s (DenL.le e d)
  | _, _, .lst n r d => .lst (e.nomu r n) (e.kp r n rfl) (DenL.le e d)
  | _, _, .ins n r d => .ins (e.nomu r n) (e.kp r n rfl) (DenF.le e d)
  | _, _, .exc n r n2 r2 d => .exc (e.nomu r n) (e.kp r n rfl) (e.nomu r2 n2) (e.kp r2 n2 rfl) (DenF.le e d)
  | _, _, .ref r => .ref (e.ext _ _ r)
  | _, _, .ati r => .ati (e.exv _ _ r)
  | _, _, .ats r l => .ats (e.exv _ _ r) l
  | _, _, .dK n r d => .dK (e.nomu r n) (e.kp r n rfl) (DenK.le e d)
  | _, _, .dN n r y d => .dN (e.nomu r n) (e.kp r n rfl) y (DenN.le e d)
theorem DenL.le (e : Le ρ h H ρ' h' H') : ∀ {xs : List MV} {vs : List V}, DenL T K ρ (Mu ρ h) H xs vs → DenL T K ρ' (Mu ρ' h') H' xs vs
  | _, _, .nil => .nil
  | _, _, .cons d r => .cons (Den.le e d) (DenL.le e r)
theorem DenF.le (e : Le ρ h H ρ' h' H') : ∀ {xs : List (Nat × MV)} {vs : List (Str × V)}, DenF T K ρ (Mu ρ h) H xs vs → DenF T K ρ' (Mu ρ' h') H' xs vs
  | _, _, .nil => .nil
  | _, _, .cons f d r => .cons f (Den.le e d) (DenF.le e r)
theorem DenK.le (e : Le ρ h H ρ' h' H') : ∀ {xs : List (MV × MV)} {vs : List (Key × V)}, DenK T K ρ (Mu ρ h) H xs vs → DenK T K ρ' (Mu ρ' h') H' xs vs
  | _, _, .nil => .nil
  | _, _, .consI d r => .consI (Den.le e d) (DenK.le e r)
  | _, _, .consS d r => .consS (Den.le e d) (DenK.le e r)
theorem DenN.le (e : Le ρ h H ρ' h' H') : ∀ {xs : List (MV × MV)} {vs : List (NestedKey × Addr × V)}, DenN T K ρ (Mu ρ h) H xs vs → DenN T K ρ' (Mu ρ' h') H' xs vs
  | _, _, .nil => .nil
  | _, _, .cons k d1 d r => .cons k (Den.le e d1) (Den.le e d) (DenN.le e r)
end
theorem SimS.le {m : MS} {σ : St} (e : Le ρ h H ρ' h' H') (s : SimS T K ρ (Mu ρ h) H m σ) : SimS T K ρ' (Mu ρ' h') H' m σ :=
  ⟨s.len, fun i x q => let ⟨v, a, b⟩ := s.at_ i x q; ⟨v, a, b.le e⟩⟩
end

/-! ### readings -/
/-- what is wanted of an exception -/
abbrev XW := MV → MS → Rho → MH → Hp → Prop
/-- an exception that may come -/
def exP (T : Tb) (K : PySem.W.Frag) (E : XW) (m : MS) (ρ : Rho) (h : MH) (H : Hp) (x : MV) (h' : MH) : Prop := ∀ ρ' H', Le ρ h H ρ' h' H' → SimH T K ρ' h' H' → E x m ρ' h' H'
theorem exP.le {T : Tb} {K : PySem.W.Frag} {E : XW} {m : MS} {ρ ρ' : Rho} {h h' : MH} {H H' : Hp} (l : Le ρ h H ρ' h' H') {x : MV} {h2 : MH} (w : exP T K E m ρ h H x h2) : exP T K E m ρ' h' H' x h2 := fun ρ2 H2 l2 s => w ρ2 H2 (l.trans l2) s
abbrev RunE := MS → MH → Tr ER
def postE (T : Tb) (K : PySem.W.Frag) (E : XW) (m : MS) (ρ : Rho) (h : MH) (H : Hp) (Q : VK) : ER → Prop
  | .ok x h' => ∀ ρ' H' v, Le ρ h H ρ' h' H' → SimH T K ρ' h' H' → Den T K ρ' (Mu ρ' h') H' x v → Q v H'
  | .ex x h' => exP T K E m ρ h H x h'
def tE (T : Tb) (K : PySem.W.Frag) (E : XW) (f : RunE) : TE := fun σ H Q => ∃ ρ m h, SimH T K ρ h H ∧ SimS T K ρ (Mu ρ h) H m σ ∧ (f m h).wp (postE T K E m ρ h H Q)
theorem peI {X : Cx} {e : Expr} {t t' : TE} (p : PE X e t) (h : ∀ σ H Q, t' σ H Q → t σ H Q) : PE X e t' := ⟨fun pins s σ H Q I q => p.run pins s σ H Q I (h σ H Q q)⟩
theorem psI {X : Cx} {e : Stmt} {t t' : TS} (p : PS X e t) (h : ∀ D σ H, t' D σ H → t D σ H) : PS X e t' := ⟨fun pins s σ H Q I q => p.run pins s σ H Q I (h Q σ H q)⟩
theorem pssI {X : Cx} {e : List Stmt} {t t' : TS} (p : PSs X e t) (h : ∀ D σ H, t' D σ H → t D σ H) : PSs X e t' := ⟨fun pins s σ H Q I q => p.run pins s σ H Q I (h Q σ H q)⟩

section
variable {T : Tb} {X : Cx} {E : XW}
/-- a value that is known without a look at the heap -/
theorem e_con {e : Expr} {x : MV} {v : V} (p : PE X e (tC v)) (d : ∀ ρ M H, Den T X.K ρ M H x v) : PE X e (tE T X.K E fun _ h => okE x h) := peI p fun σ H Q ⟨ρ, m, h, s1, s2, w⟩ => w ρ H v Le.refl s1 (d _ _ _)
def getS (m : MS) (i : Nat) : Option MV := List.rec (motive := fun _ => Nat → Option MV) (fun _ => none) (fun x _ ih i => Nat.rec (motive := fun _ => Option MV) x (fun j _ => ih j) i) m i
theorem getS_ok : ∀ {m : MS} {i : Nat} {v : MV}, getS m i = some v → m[i]? = some (some v)
  | [], _, _, e => by cases e
  | x :: r, 0, v, e => by
    have e' : x = some v := e
    rw [e']; rfl
  | x :: r, i + 1, v, e => by
    have e' : getS r i = some v := e
    simpa using getS_ok e'
def runVar (i : Nat) : RunE := fun m h => Option.rec (motive := fun _ => Tr ER) .bad (fun v => okE v h) (getS m i)
theorem e_var {i : Nat} {x : Str} {pos : Pos} (hN : X.N[i]? = some x) (hv : Vis X.env.scope x) (hd : (x == ("__debug__" : Str)) = false) (hcd : (x == ("__classdict__" : Str)) = false) : PE X (.Name x pos) (tE T X.K E (runVar i)) :=
  peI (pe_var hN hv hd hcd) fun σ H Q ⟨ρ, m, h, s1, s2, w⟩ => by
    unfold runVar at w
    cases e : getS m i with
    | none => rw [e] at w; exact w.elim
    | some y =>
      rw [e] at w
      obtain ⟨v, e2, d⟩ := s2.at_ i y (getS_ok e)
      exact ⟨v, e2, w ρ H v Le.refl s1 d⟩
/-- one after another -/
theorem Tr.wp_be {α : Type} {t : Tr ER} {f g : MV → MH → Tr α} {Q : α → Prop} (h : (t.be f g).wp Q) : t.wp fun r => match r with
    | .ok v h => (f v h).wp Q
    | .ex x h => (g x h).wp Q := by
  refine Tr.wp_mono ((Tr.wp_bind _ _ _).mp h) fun r q => ?_
  cases r <;> exact q
def run2 (f g : RunE) (op : MV → MV → MH → Tr ER) : RunE := fun m h => (f m h).be (fun x h1 => (g m h1).be (fun y h2 => op x y h2) exE) exE
/-- what an operation by values must do -/
def OpS (T : Tb) (X : Cx) (r : R2) (op : MV → MV → MH → Tr ER) : Prop := ∀ ρ h H x y v u E m Q, SimH T X.K ρ h H → Den T X.K ρ (Mu ρ h) H x v → Den T X.K ρ (Mu ρ h) H y u → (op x y h).wp (postE T X.K E m ρ h H Q) → r v u H Q
theorem postE.le {K : PySem.W.Frag} {m : MS} {ρ ρ' : Rho} {h h' : MH} {H H' : Hp} {Q : VK} (l : Le ρ h H ρ' h' H') : ∀ r, postE T K E m ρ h H Q r → postE T K E m ρ' h' H' Q r
  | .ok _ _, w => fun ρ2 H2 v l2 s d => w ρ2 H2 v (l.trans l2) s d
  | .ex _ _, w => exP.le l w
theorem t_run2 {f g : RunE} {op : MV → MV → MH → Tr ER} {r : R2} (ho : OpS T X r op) (σ : St) (H : Hp) (Q : VK) (w : tE T X.K E (run2 f g op) σ H Q) : tOp r (tE T X.K E f) (tE T X.K E g) σ H Q := by
  obtain ⟨ρ, m, h, s1, s2, w⟩ := w
  refine ⟨ρ, m, h, s1, s2, Tr.wp_mono (Tr.wp_be w) fun q w1 => ?_⟩
  cases q with
  | ex x h1 => exact w1
  | ok x h1 =>
    intro ρ1 H1 v l1 s1' d1
    refine ⟨ρ1, m, h1, s1', s2.le l1, Tr.wp_mono (Tr.wp_be w1) fun q w2 => ?_⟩
    cases q with
    | ex x h2 => exact exP.le l1 w2
    | ok y h2 =>
      intro ρ2 H2 u l2 s2' d2
      exact ho ρ2 h2 H2 x y v u E m Q s2' (d1.le l2) d2 (Tr.wp_mono w2 (postE.le (l1.trans l2)))
theorem e_bin {op : Operator} {a b : Expr} {pos : Pos} {f g : RunE} {o : MV → MV → MH → Tr ER} {r : R2} (hr : OpR X (binaryOp op) r) (ho : OpS T X r o) (ha : PE X a (tE T X.K E f)) (hb : PE X b (tE T X.K E g)) :
    PE X (.BinOp a op b pos) (tE T X.K E (run2 f g o)) := peI (pe_op hr ha hb) (t_run2 ho)

/-! ### new things -/
section
variable {T : Tb} {K : PySem.W.Frag} {ρ : Rho} {h : MH} {H : Hp}
theorem ObR.at {M : Addr → Prop} {a : Addr} {o : MO} (q : ObR T K ρ M H a o) : ∃ u, H a = some u := by
  cases o with
  | lst xs => obtain ⟨vs, e, _⟩ := q; exact ⟨_, e⟩
  | ins c fs => obtain ⟨dx, gs, e, _⟩ := q; exact ⟨_, e⟩
  | dct k kvs =>
    cases k with
    | true => obtain ⟨ps, e, _⟩ := q; exact ⟨_, e⟩
    | false => obtain ⟨ps, e, _⟩ := q; exact ⟨_, e⟩
  | bag => obtain ⟨b, i, z, c, ns, e, _⟩ := q; exact ⟨_, e⟩
theorem SimH.atO (s : SimH T K ρ h H) {a : Addr} (m : Own ρ h a) : ∃ o, H a = some o := by
  obtain ⟨l, o, e, r⟩ := m
  obtain ⟨b, r', q⟩ := s.ob l o e
  rw [r] at r'; cases r'
  exact q.at
theorem SimH.at (s : SimH T K ρ h H) {a : Addr} (m : Mu ρ h a) : ∃ o, H a = some o := by
  rcases m with m | m
  · exact s.am a m
  · exact s.atO m
theorem SimH.nomu (s : SimH T K ρ h H) {a : Addr} (n : H a = none) : ¬ Mu ρ h a := fun m => by
  obtain ⟨o, e⟩ := s.at m
  rw [n] at e; cases e
theorem Le.neu {p : Addr} {o : HO} (n : H p = none) : Le ρ h H ρ h (upd H p o) :=
  ⟨fun _ _ e => e, fun _ _ e => e, Nat.le_refl _, fun _ m => m, fun _ m => .inl m, fun _ m => .inl m, fun a u e _ _ => by rw [upd_ne (ne_of_none e n)]; exact e, fun a o e => ⟨o, by rw [upd_ne (ne_of_none e n)]; exact e⟩⟩
theorem ObR.le {ρ' : Rho} {h' : MH} {H' : Hp} {a : Addr} {o : MO} (l : Le ρ h H ρ' h' H') (k : ∀ u, isTbl u = false → H a = some u → H' a = some u) (q : ObR T K ρ (Mu ρ h) H a o) : ObR T K ρ' (Mu ρ' h') H' a o := by
  cases o with
  | lst xs => obtain ⟨vs, e, d⟩ := q; exact ⟨vs, k _ rfl e, d.le l⟩
  | ins c fs => obtain ⟨dx, gs, e, d⟩ := q; exact ⟨dx, gs, k _ rfl e, d.le l⟩
  | dct kk kvs =>
    cases kk with
    | true => obtain ⟨ps, e, d⟩ := q; exact ⟨ps, k _ rfl e, d.le l⟩
    | false => obtain ⟨ps, e, y, d⟩ := q; exact ⟨ps, k _ rfl e, y, d.le l⟩
  | bag =>
    obtain ⟨b, i, z, c, ns, e, n, sq, r⟩ := q
    exact ⟨b, i, z, c, ns, k _ rfl e, l.nomu sq n, l.kp sq n rfl, r⟩
/-- a new thing that stays as it is -/
theorem SimH.neu (s : SimH T K ρ h H) {p : Addr} {o : HO} (n : H p = none) : SimH T K ρ h (upd H p o) :=
  ⟨s.lt, s.ltv, s.tb.mv (fun b u e _ => by rw [upd_ne (ne_of_none e n)]; exact e) (fun b u e => by rw [upd_ne (ne_of_none e n)]; exact e) (fun _ _ _ m => m), s.inj, fun l u e => by
    obtain ⟨a, r, q⟩ := s.ob l u e
    exact ⟨a, r, q.le (Le.neu n) fun v _ z => by rw [upd_ne (ne_of_none z n)]; exact z⟩, fun a q => by
    obtain ⟨u, z⟩ := s.am a q
    exact ⟨u, by rw [upd_ne (ne_of_none z n)]; exact z⟩, s.dis⟩
/-- a new thing that may change -/
def rhoN (ρ : Rho) (l : Nat) (p : Addr) : Rho := ⟨fun k => if k = l then some p else ρ.at_ k, ρ.amb, ρ.sv⟩
theorem rhoN_at {ρ : Rho} {l : Nat} {p : Addr} : (rhoN ρ l p).at_ l = some p := if_pos rfl
theorem rhoN_ne {ρ : Rho} {l k : Nat} {p : Addr} (n : k ≠ l) : (rhoN ρ l p).at_ k = ρ.at_ k := if_neg n
theorem beq_self (n : Nat) : Nat.beq n n = true := by simp
theorem beq_ne {l k : Nat} (e : l ≠ k) : Nat.beq l k = false := by
  cases z : Nat.beq l k with
  | false => rfl
  | true => exact absurd (Nat.eq_of_beq_eq_true z) e
theorem getL_cons (l k : Nat) (o : MO) (r : List (Nat × MO)) : getL l ((k, o) :: r) = if l = k then some o else getL l r := by
  by_cases e : l = k
  · subst e
    rw [if_pos rfl]
    show (match Nat.beq l l with | true => some o | false => getL l r) = _
    rw [beq_self]
  · rw [if_neg e]
    show (match Nat.beq l k with | true => some o | false => getL l r) = _
    rw [beq_ne e]
theorem getL_new (h : MH) (o : MO) (l : Nat) : (h.new o).get l = if l = h.nxt then some o else h.get l := getL_cons l h.nxt o h.es
theorem SimH.get_lt (s : SimH T K ρ h H) {l : Nat} {o : MO} (e : h.get l = some o) : l < h.nxt := by
  obtain ⟨a, r, _⟩ := s.ob l o e
  exact s.lt l a r
theorem SimH.own_new (s : SimH T K ρ h H) {p : Addr} {o : MO} {a : Addr} (m : Own (rhoN ρ h.nxt p) (h.new o) a) : a = p ∨ Own ρ h a := by
  obtain ⟨l, u, e, r⟩ := m
  rw [getL_new] at e
  by_cases q : l = h.nxt
  · subst q
    rw [rhoN_at] at r; cases r; exact .inl rfl
  · rw [rhoN_ne q] at r
    rw [if_neg q] at e
    exact .inr ⟨l, u, e, r⟩
theorem SimH.le_lab (s : SimH T K ρ h H) {p : Addr} {o : HO} {u : MO} (n : H p = none) : Le ρ h H (rhoN ρ h.nxt p) (h.new u) (upd H p o) where
  ext := fun l a e => by
    rw [rhoN_ne (Nat.ne_of_lt (s.lt l a e))]; exact e
  exv := fun _ _ e => e
  nxt := Nat.le_succ _
  amb := fun _ m => m
  amb2 := fun _ m => .inl m
  own := fun a m => by
    rcases s.own_new m with q | q
    · rw [q]; exact .inr n
    · exact .inl q
  keep := fun a v e _ _ => by rw [upd_ne (ne_of_none e n)]; exact e
  live := fun a o e => ⟨o, by rw [upd_ne (ne_of_none e n)]; exact e⟩
theorem SimH.lab (s : SimH T K ρ h H) {p : Addr} {o : HO} {u : MO} (n : H p = none) (q : ObR T K (rhoN ρ h.nxt p) (Mu (rhoN ρ h.nxt p) (h.new u)) (upd H p o) p u) : SimH T K (rhoN ρ h.nxt p) (h.new u) (upd H p o) where
  lt := fun l a e => by
    show l < h.nxt + 1
    by_cases z : l = h.nxt
    · omega
    · rw [rhoN_ne z] at e
      have := s.lt l a e
      omega
  ltv := fun l v e => Nat.lt_succ_of_lt (s.ltv l v e)
  tb := s.tb.mv (fun b u e _ => by rw [upd_ne (ne_of_none e n)]; exact e) (fun b u e => by rw [upd_ne (ne_of_none e n)]; exact e) (fun b u e m => (s.le_lab (o := o) n).nomu e m)
  inj := fun l l' w w' a e e' r r' => by
    rw [getL_new] at e e'
    have old : ∀ {k : Nat} {w : MO}, h.get k = some w → ρ.at_ k = some p → False := fun {k w} e r => by
      obtain ⟨v, z⟩ := s.atO ⟨k, w, e, r⟩
      rw [n] at z; cases z
    by_cases z : l = h.nxt <;> by_cases z' : l' = h.nxt
    · omega
    · subst z
      rw [rhoN_at] at r; cases r
      rw [if_neg z'] at e'
      rw [rhoN_ne z'] at r'
      exact (old e' r').elim
    · subst z'
      rw [rhoN_at] at r'; cases r'
      rw [if_neg z] at e
      rw [rhoN_ne z] at r
      exact (old e r).elim
    · rw [if_neg z] at e
      rw [rhoN_ne z] at r
      rw [if_neg z'] at e'
      rw [rhoN_ne z'] at r'
      exact s.inj l l' w w' a e e' r r'
  ob := fun l w e => by
    rw [getL_new] at e
    by_cases z : l = h.nxt
    · rw [if_pos z] at e; cases e
      subst z
      exact ⟨p, rhoN_at, q⟩
    · rw [if_neg z] at e
      obtain ⟨a, r, x⟩ := s.ob l w e
      exact ⟨a, by rw [rhoN_ne z]; exact r, x.le (s.le_lab n) fun v _ y => by rw [upd_ne (ne_of_none y n)]; exact y⟩
  am := fun a q => by
    obtain ⟨u, z⟩ := s.am a q
    exact ⟨u, by rw [upd_ne (ne_of_none z n)]; exact z⟩
  dis := fun a m q => by
    rcases s.own_new m with z | z
    · obtain ⟨u, y⟩ := s.am a q
      rw [z, n] at y; cases y
    · exact s.dis a z q
/-! ### what stands at a value -/
theorem den_asL {x : MV} {xs : List MV} {v : V} (s : SimH T K ρ h H) (e : asL h x = some xs) (d : Den T K ρ (Mu ρ h) H x v) : ∃ a vs, v = .ref a ∧ H a = some (.lst vs) ∧ DenL T K ρ (Mu ρ h) H xs vs := by
  cases x with
  | lst ys =>
    cases e
    cases d with
    | lst n r d => exact ⟨_, _, rfl, r, d⟩
  | ref l =>
    have e1 : (match h.get l with
      | some (.lst xs) => some xs
      | _ => none) = some xs := e
    cases q : h.get l with
    | none => rw [q] at e1; cases e1
    | some o =>
      rw [q] at e1
      cases o with
      | lst ys =>
        cases e1
        cases d with
        | ref r =>
          obtain ⟨a, r', vs, z, dd⟩ := s.ob l _ q
          rw [r] at r'; cases r'
          exact ⟨_, vs, rfl, z, dd⟩
      | _ => cases e1
  | _ => cases e
theorem den_asQ {x : MV} {xs : List MV} {v : V} (s : SimH T K ρ h H) (e : asQ h x = some xs) (d : Den T K ρ (Mu ρ h) H x v) : ∃ a vs, v = .ref a ∧ (SqL K H a vs ∨ SqT K H a vs) ∧ DenL T K ρ (Mu ρ h) H xs vs := by
  unfold asQ at e
  split at e
  · cases e
    cases d with
    | tup n r d => exact ⟨_, _, rfl, .inr (SqT.of r), d⟩
    | tupK r d => exact ⟨_, _, rfl, .inr (r _), d⟩
  · obtain ⟨a, vs, e1, e2, e3⟩ := den_asL s e d
    exact ⟨a, vs, e1, .inl (SqL.of e2), e3⟩
theorem DenL.length {M : Addr → Prop} : ∀ {xs : List MV} {vs : List V}, DenL T K ρ M H xs vs → xs.length = vs.length
  | _, _, .nil => rfl
  | _, _, .cons _ d => congrArg (· + 1) d.length
theorem DenL.nth {M : Addr → Prop} : ∀ {xs : List MV} {vs : List V} {i : Nat} {x : MV}, DenL T K ρ M H xs vs → nth xs i = some x → ∃ v, vs[i]? = some v ∧ Den T K ρ M H x v
  | _, _, _, _, .nil, e => by cases e
  | _, _, 0, _, .cons d r, e => by cases e; exact ⟨_, rfl, d⟩
  | _, _, i + 1, _, .cons d r, e => by
    obtain ⟨v, e1, e2⟩ := DenL.nth (i := i) r e
    exact ⟨v, by simpa using e1, e2⟩
theorem DenL.app {M : Addr → Prop} : ∀ {xs : List MV} {vs : List V} {ys : List MV} {ws : List V}, DenL T K ρ M H xs vs → DenL T K ρ M H ys ws → DenL T K ρ M H (xs ++ ys) (vs ++ ws)
  | _, _, _, _, .nil, e => e
  | _, _, _, _, .cons d r, e => .cons d (DenL.app r e)
/-- a new tuple, a new list of known things -/
theorem post_tup {E : XW} {m : MS} {Q : VK} {xs : List MV} {vs : List V} (s : SimH T K ρ h H) (d : DenL T K ρ (Mu ρ h) H xs vs) (w : postE T K E m ρ h H Q (.ok (.tup xs) h)) : ∀ p, H p = none → Q (.ref p) (upd H p (.tup vs)) := fun p n =>
  w ρ _ _ (Le.neu n) (s.neu n) (.tup (s.nomu n) upd_same (d.le (Le.neu n)))
theorem post_lst {E : XW} {m : MS} {Q : VK} {xs : List MV} {vs : List V} (s : SimH T K ρ h H) (d : DenL T K ρ (Mu ρ h) H xs vs) (w : postE T K E m ρ h H Q (.ok (.lst xs) h)) : ∀ p, H p = none → Q (.ref p) (upd H p (.lst vs)) := fun p n =>
  w ρ _ _ (Le.neu n) (s.neu n) (.lst (s.nomu n) upd_same (d.le (Le.neu n)))
theorem post_lab {E : XW} {m : MS} {Q : VK} {xs : List MV} {vs : List V} (s : SimH T K ρ h H) (d : DenL T K ρ (Mu ρ h) H xs vs) (w : postE T K E m ρ h H Q (.ok (.ref h.nxt) (h.new (.lst xs)))) : ∀ p, H p = none → Q (.ref p) (upd H p (.lst vs)) := fun p n =>
  w _ _ _ (s.le_lab n) (s.lab n ⟨vs, upd_same, d.le (s.le_lab n)⟩) (.ref rhoN_at)
end
end
end
end WK
set_option Elab.async false
set_option linter.all false
set_option maxRecDepth 100000
/-! operations by values -/
namespace WK
noncomputable section
open PySem L2
section
variable {T : Tb} {X : Cx} {E : XW}
def leB (n : Nat) (m : Nat) : Bool := Nat.ble n m
theorem leB_ok {n m : Nat} (h : leB n m = true) : n ≤ m := Nat.le_of_ble_eq_true h
def ifT {α : Type} (b : Bool) (t : Tr α) : Tr α := Bool.rec (motive := fun _ => Tr α) .bad t b
theorem ifT_wp {α : Type} {b : Bool} {t : Tr α} {Q : α → Prop} (h : (ifT b t).wp Q) : b = true ∧ t.wp Q := by
  cases b with
  | true => exact ⟨rfl, h⟩
  | false => exact h.elim
/-- a new list: one that stays as it is, or one that may change -/
def newL (m : Bool) (xs : List MV) (h : MH) : Tr ER := match m with
  | true => okE (.ref h.nxt) (h.new (.lst xs))
  | false => okE (.lst xs) h
theorem newL_ok {m : Bool} {K : PySem.W.Frag} {ρ : Rho} {h : MH} {H : Hp} {ms : MS} {Q : VK} {xs : List MV} {vs : List V} (s : SimH T K ρ h H) (d : DenL T K ρ (Mu ρ h) H xs vs) (w : (newL m xs h).wp (postE T K E ms ρ h H Q)) : ∀ p, H p = none → Q (.ref p) (upd H p (.lst vs)) := by
  cases m with
  | true => exact post_lab s d w
  | false => exact post_lst s d w
def ok1 (v : MV) (h : MH) : Tr ER := okE v h
theorem post_int {K : PySem.W.Frag} {ρ : Rho} {h : MH} {H : Hp} {m : MS} {Q : VK} {i : Int} (s : SimH T K ρ h H) (w : postE T K E m ρ h H Q (.ok (.int i) h)) : Q (.int i) H := w ρ H _ Le.refl s (.int _)
theorem post_bl {K : PySem.W.Frag} {ρ : Rho} {h : MH} {H : Hp} {m : MS} {Q : VK} {i : Bool} (s : SimH T K ρ h H) (w : postE T K E m ρ h H Q (.ok (.bl i) h)) : Q (.bl i) H := w ρ H _ Le.refl s (.bl _)
theorem post_str {K : PySem.W.Frag} {ρ : Rho} {h : MH} {H : Hp} {m : MS} {Q : VK} {i : Str} (s : SimH T K ρ h H) (w : postE T K E m ρ h H Q (.ok (.str i) h)) : Q (.str i) H := w ρ H _ Le.refl s (.str _)
theorem post_den {K : PySem.W.Frag} {ρ : Rho} {h : MH} {H : Hp} {m : MS} {Q : VK} {x : MV} {v : V} (s : SimH T K ρ h H) (d : Den T K ρ (Mu ρ h) H x v) (w : postE T K E m ρ h H Q (.ok x h)) : Q v H := w ρ H _ Le.refl s d

/-! ### + - * // % ** -/
def opAdd (m : Bool) (x y : MV) (h : MH) : Tr ER := match x, y with
  | .int i, .int j => okE (.int (i + j)) h
  | .str a, .str b => ifT (leB (a.length + b.length) sizeLine) (okE (.str (a ++ b)) h)
  | .tup xs, .tup ys => ifT (leB (xs.length + ys.length) sizeLine) (okE (.tup (xs ++ ys)) h)
  | x, y => match asL h x, asL h y with
    | some xs, some ys => ifT (leB (xs.length + ys.length) sizeLine) (newL m (xs ++ ys) h)
    | _, _ => .bad
def rAddA (K : PySem.W.Frag) : R2 := fun x y H Q => rI0 (fun i j => .int (i + j)) x y H Q ∨ (∃ i j, x = .str i ∧ y = .str j ∧ i.length + j.length ≤ sizeLine ∧ Q (.str (i ++ j)) H) ∨ rCatA K x y H Q ∨ rCat x y H Q
theorem op_addA : OpR X (binaryOp .Add) (rAddA X.K) := op_add.or (op_add_str.or (op_catA.or op_cat))
theorem den_tup {K : PySem.W.Frag} {ρ : Rho} {M : Addr → Prop} {H : Hp} {xs : List MV} {v : V} (d : Den T K ρ M H (.tup xs) v) : ∃ a vs, v = .ref a ∧ SqT K H a vs ∧ DenL T K ρ M H xs vs := by
  cases d with
  | tup n r d => exact ⟨_, _, rfl, SqT.of r, d⟩
  | tupK r d => exact ⟨_, _, rfl, r _, d⟩
theorem DenL.nilV {K : PySem.W.Frag} {ρ : Rho} {M : Addr → Prop} {H : Hp} {xs : List MV} {vs : List V} (d : DenL T K ρ M H xs vs) : vs = [] ↔ xs = [] := by
  cases d <;> simp
theorem opAdd_ok (m : Bool) : OpS T X (rAddA X.K) (opAdd m) := fun ρ h H x y v u E ms Q s dx dy w => by
  unfold opAdd at w
  split at w
  · cases dx; cases dy
    exact .inl ⟨_, _, rfl, rfl, post_int s w⟩
  · obtain ⟨c, w⟩ := ifT_wp w
    cases dx; cases dy
    exact .inr (.inl ⟨_, _, rfl, rfl, leB_ok c, post_str s w⟩)
  · obtain ⟨c, w⟩ := ifT_wp w
    have dx' := dx
    have dy' := dy
    obtain ⟨a, vs, rfl, e1, d1⟩ := den_tup dx
    obtain ⟨b, ws, rfl, e2, d2⟩ := den_tup dy
    refine .inr (.inr (.inl ⟨a, b, vs, ws, rfl, rfl, e1, e2, by rw [← d1.length, ← d2.length]; exact leB_ok c, fun z => ?_, fun _ z => ?_, fun _ _ => ?_⟩))
    · have z' := d1.nilV.mp z
      subst z'
      exact post_den s dy' w
    · have z' := d2.nilV.mp z
      subst z'
      rw [List.append_nil] at w
      exact post_den s dx' w
    · exact post_tup s (d1.app d2) w
  · split at w
    · rename_i e1 e2
      obtain ⟨c, w⟩ := ifT_wp w
      obtain ⟨a, vs, rfl, r1, d1⟩ := den_asL s e1 dx
      obtain ⟨b, ws, rfl, r2, d2⟩ := den_asL s e2 dy
      exact .inr (.inr (.inr ⟨a, b, vs, ws, rfl, rfl, r1, r2, by rw [← d1.length, ← d2.length]; exact leB_ok c, newL_ok s (d1.app d2) w⟩))
    · exact w.elim
def opSub (x y : MV) (h : MH) : Tr ER := match x, y with
  | .int i, .int j => okE (.int (i - j)) h
  | _, _ => .bad
theorem opSub_ok : OpS T X (rI0 fun i j => .int (i - j)) opSub := fun ρ h H x y v u E ms Q s dx dy w => by
  unfold opSub at w
  split at w
  · cases dx; cases dy
    exact ⟨_, _, rfl, rfl, post_int s w⟩
  · exact w.elim
/-- within -2^64 .. 2^64 -/
def smI (i : Int) : Bool := Nat.ble i.natAbs 18446744073709551615
theorem smI_ok {i : Int} (h : smI i = true) : -(2 ^ 64) < i ∧ i < 2 ^ 64 := by
  have h2 := Nat.le_of_ble_eq_true h
  constructor <;> omega
def repV (k : Nat) (xs : List MV) : List MV := (List.replicate k xs).flatten
def opMul (m : Bool) (x y : MV) (h : MH) : Tr ER := match x, y with
  | .int i, .int j => ifT (smI i || smI j) (okE (.int (i * j)) h)
  | .tup xs, .int k => ifT (leB 1 xs.length && leB xs.length 1000 && decide (2 ≤ k) && decide (k ≤ 1000)) (okE (.tup (repV k.toNat xs)) h)
  | x, .int k => match asL h x with
    | some xs => ifT (decide (-(2 ^ 63) ≤ k) && decide (k < 2 ^ 63) && leB (xs.length * k.toNat) sizeLine) (newL m (repV k.toNat xs) h)
    | none => .bad
  | _, _ => .bad
def rMulA (K : PySem.W.Frag) : R2 := fun x y H Q => rI CMul (fun i j => .int (i * j)) x y H Q ∨ rRepT K x y H Q ∨ rRep x y H Q
theorem op_mulA : OpR X (binaryOp .Mult) (rMulA X.K) := op_mul.or (op_repT.or op_rep)
theorem DenL.rep {K : PySem.W.Frag} {ρ : Rho} {M : Addr → Prop} {H : Hp} {xs : List MV} {vs : List V} (d : DenL T K ρ M H xs vs) : ∀ k : Nat, DenL T K ρ M H (repV k xs) (List.replicate k vs).flatten
  | 0 => .nil
  | k + 1 => by
    show DenL T K ρ M H (List.replicate (k + 1) xs).flatten _
    rw [List.replicate_succ, List.replicate_succ, List.flatten_cons, List.flatten_cons]
    exact d.app (d.rep k)
theorem opMul_ok (m : Bool) : OpS T X (rMulA X.K) (opMul m) := fun ρ h H x y v u E ms Q s dx dy w => by
  unfold opMul at w
  split at w
  · obtain ⟨c, w⟩ := ifT_wp w
    cases dx; cases dy
    refine .inl ⟨_, _, rfl, rfl, ?_, post_int s w⟩
    rw [Bool.or_eq_true] at c
    exact c.imp smI_ok smI_ok
  · obtain ⟨c, w⟩ := ifT_wp w
    obtain ⟨a, vs, rfl, e1, d1⟩ := den_tup dx
    cases dy
    simp only [Bool.and_eq_true, decide_eq_true_eq] at c
    obtain ⟨⟨⟨c1, c2⟩, c3⟩, c4⟩ := c
    have l1 := leB_ok c1
    have l2 := leB_ok c2
    rw [d1.length] at l1 l2
    refine .inr (.inl ⟨a, _, vs, rfl, rfl, e1, fun z => by rw [z] at l1; simp at l1, c3, c4, l2, post_tup s (d1.rep _) w⟩)
  · split at w
    · rename_i e1
      obtain ⟨c, w⟩ := ifT_wp w
      obtain ⟨a, vs, rfl, r1, d1⟩ := den_asL s e1 dx
      cases dy
      simp only [Bool.and_eq_true, decide_eq_true_eq] at c
      obtain ⟨⟨c1, c2⟩, c3⟩ := c
      exact .inr (.inr ⟨a, _, vs, rfl, rfl, r1, c1, c2, by rw [← d1.length]; exact leB_ok c3, newL_ok s (d1.rep _) w⟩)
    · exact w.elim
  · exact w.elim
def opFdiv (x y : MV) (h : MH) : Tr ER := match x, y with
  | .int i, .int j => ifT (decide (j ≠ 0) && decide (j.natAbs < 1073741824)) (okE (.int (i.fdiv j)) h)
  | _, _ => .bad
theorem opFdiv_ok : OpS T X (rI CDivN fun i j => .int (i.fdiv j)) opFdiv := fun ρ h H x y v u E ms Q s dx dy w => by
  unfold opFdiv at w
  split at w
  · obtain ⟨c, w⟩ := ifT_wp w
    cases dx; cases dy
    simp only [Bool.and_eq_true, decide_eq_true_eq] at c
    exact ⟨_, _, rfl, rfl, c, post_int s w⟩
  · exact w.elim
def opMod (x y : MV) (h : MH) : Tr ER := match x, y with
  | .int i, .int j => ifT (decide (j ≠ 0)) (okE (.int (i.fmod j)) h)
  | _, _ => .bad
theorem opMod_ok : OpS T X (rI (fun _ j => j ≠ 0) fun i j => .int (i.fmod j)) opMod := fun ρ h H x y v u E ms Q s dx dy w => by
  unfold opMod at w
  split at w
  · obtain ⟨c, w⟩ := ifT_wp w
    cases dx; cases dy
    exact ⟨_, _, rfl, rfl, of_decide_eq_true c, post_int s w⟩
  · exact w.elim
def opPow (x y : MV) (h : MH) : Tr ER := match x, y with
  | .int i, .int j => ifT (decide (0 ≤ j) && decide (j ≤ 1000000) && decide (i.natAbs < 2 ^ 64)) (okE (.int (i ^ j.toNat)) h)
  | _, _ => .bad
theorem opPow_ok : OpS T X (rI CPow fun i j => .int (i ^ j.toNat)) opPow := fun ρ h H x y v u E ms Q s dx dy w => by
  unfold opPow at w
  split at w
  · obtain ⟨c, w⟩ := ifT_wp w
    cases dx; cases dy
    simp only [Bool.and_eq_true, decide_eq_true_eq] at c
    exact ⟨_, _, rfl, rfl, ⟨c.1.1, c.1.2, c.2⟩, post_int s w⟩
  · exact w.elim

/-! ### comparisons -/
def scM : MV → Bool
  | .non => true | .bl _ => true | .int _ => true | .str _ => true
  | _ => false
/-- a scalar as the layer has it -/
def scV : MV → V
  | .bl b => .bl b | .int i => .int i | .str x => .str x
  | _ => .non
theorem den_sc {K : PySem.W.Frag} {ρ : Rho} {M : Addr → Prop} {H : Hp} {x : MV} {v : V} (c : scM x = true) (d : Den T K ρ M H x v) : v = scV x ∧ flatV v = true := by
  cases d <;> first | exact ⟨rfl, rfl⟩ | cases c
mutual
def toPD (h : MH) : Nat → MV → Option PyData
  | 0, _ => none
  | n + 1, x => match x with
    | .non => some .none
    | .bl b => some (.bool b)
    | .int i => some (.int i)
    | .str x => some (.str x)
    | .tup xs => (toPDs h n xs).map .tuple
    | x => match asL h x with
      | some xs => (toPDs h n xs).map .list
      | none => none
def toPDs (h : MH) : Nat → List MV → Option (List PyData)
  | 0, _ => none
  | _ + 1, [] => some []
  | n + 1, x :: r => match toPD h n x, toPDs h n r with
    | some d, some ds => some (d :: ds)
    | _, _ => none
end
mutual
theorem den_PD {K : PySem.W.Frag} {ρ : Rho} {h : MH} {H : Hp} (s : SimH T K ρ h H) : ∀ {n : Nat} {x : MV} {v : V} {d : PyData}, toPD h n x = some d → Den T K ρ (Mu ρ h) H x v → Dp K H v d
  | 0, _, _, _, e, _ => by cases e
  | n + 1, x, v, d, e, q => by
    unfold toPD at e
    split at e
    · cases e; cases q; exact .non
    · cases e; cases q; exact .bl _
    · cases e; cases q; exact .int _
    · cases e; cases q; exact .str _
    · obtain ⟨ds, e1, rfl⟩ := Option.map_eq_some_iff.mp e
      obtain ⟨a, vs, rfl, r, dd⟩ := den_tup q
      exact .tup r (den_PDs s e1 dd)
    · split at e
      · rename_i xs e0
        obtain ⟨ds, e1, rfl⟩ := Option.map_eq_some_iff.mp e
        obtain ⟨a, vs, rfl, r, dd⟩ := den_asL s e0 q
        exact .lst (SqL.of r) (den_PDs s e1 dd)
      · cases e
theorem den_PDs {K : PySem.W.Frag} {ρ : Rho} {h : MH} {H : Hp} (s : SimH T K ρ h H) : ∀ {n : Nat} {x : List MV} {v : List V} {d : List PyData}, toPDs h n x = some d → DenL T K ρ (Mu ρ h) H x v → DpAll K H v d
  | 0, _, _, _, e, _ => by cases e
  | n + 1, [], v, d, e, q => by
    cases e; cases q; exact .nil
  | n + 1, x :: r, v, d, e, q => by
    unfold toPDs at e
    cases q with
    | cons q1 q2 =>
      split at e
      · rename_i e1 e2
        cases e
        exact .cons (den_PD s e1 q1) (den_PDs s e2 q2)
      · cases e
end
def pdN : Nat := 100000
def shB (d : PyData) : Bool := SeqAt.shaped d
/-- == of data -/
def eqD (h : MH) (x y : MV) : Option Bool := match x, y with
  | .int i, .int j => some (decide (i = j))
  | .str a, .str b => some (decide (a = b))
  | .ati a, .ati b => match Nat.beq a b with
    | true => some true
    | false => none
  | .ats a, .ats b => match Nat.beq a b with
    | true => some true
    | false => none
  | x, y => match toPD h pdN x, toPD h pdN y with
    | some d, some e => match shB d && shB e with
      | true => some (PyData.eqv d e)
      | false => none
    | _, _ => none
def bO (o : Option Bool) (h : MH) : Tr ER := match o with
  | some b => okE (.bl b) h
  | none => .bad
theorem bO_wp {o : Option Bool} {h : MH} {Q : ER → Prop} (w : (bO o h).wp Q) : ∃ b, o = some b ∧ Q (.ok (.bl b) h) := by
  cases o with
  | some b => exact ⟨b, rfl, w⟩
  | none => exact w.elim
abbrev CF := MV → MV → MH → Option Bool
def cOp (c : CF) (x y : MV) (h : MH) : Tr ER := bO (c x y h) h
def cEq : CF := fun x y h => eqD h x y
def cNe : CF := fun x y h => (eqD h x y).map not
def rEqA (K : PySem.W.Frag) : R2 := fun x y H Q => rEq x y H Q ∨ rEqD K x y H Q
def rNeA (K : PySem.W.Frag) : R2 := fun x y H Q => rNe x y H Q ∨ rNeD K x y H Q
theorem op_eqA (hu : X.A.units + 64 < cLine) : OpR X (compareOp .Eq) (rEqA X.K) := op_eq.or (op_eqD hu)
theorem op_neA (hu : X.A.units + 64 < cLine) : OpR X (compareOp .NotEq) (rNeA X.K) := op_ne.or (op_neD hu)
theorem cEq_ok : OpS T X (rEqA X.K) (cOp cEq) := fun ρ h H x y v u E ms Q s dx dy w => by
  obtain ⟨b, e, w⟩ := bO_wp w
  have w1 : Q (.bl b) H := post_bl s w
  unfold cEq eqD at e
  split at e
  · cases e; cases dx; cases dy
    refine .inl ⟨rfl, ?_⟩
    simpa using w1
  · cases e; cases dx; cases dy
    refine .inl ⟨rfl, ?_⟩
    simpa using w1
  · split at e
    · rename_i c
      have c' := Nat.eq_of_beq_eq_true c
      subst c'
      cases e; cases dx; cases dy
      rename_i r1 _ r2
      rw [r1] at r2; cases r2
      exact .inl ⟨rfl, by simpa using w1⟩
    · cases e
  · split at e
    · rename_i c
      have c' := Nat.eq_of_beq_eq_true c
      subst c'
      cases e; cases dx; cases dy
      rename_i r1 _ _ r2
      rw [r1] at r2; cases r2
      exact .inl ⟨rfl, by simpa using w1⟩
    · cases e
  · split at e
    · rename_i d1 d2 e1 e2
      split at e
      · rename_i c
        cases e
        obtain ⟨c1, c2⟩ := Bool.and_eq_true_iff.mp c
        exact .inr ⟨d1, d2, den_PD s e1 dx, den_PD s e2 dy, c1, c2, w1⟩
      · cases e
    · cases e
theorem cNe_ok : OpS T X (rNeA X.K) (cOp cNe) := fun ρ h H x y v u E ms Q s dx dy w => by
  obtain ⟨b', e, w⟩ := bO_wp w
  obtain ⟨b, e2, rfl⟩ := Option.map_eq_some_iff.mp e
  clear e
  have e := e2
  clear e2
  have w1 : Q (.bl (!b)) H := post_bl s w
  unfold eqD at e
  split at e
  · cases e; cases dx; cases dy
    refine .inl ⟨rfl, ?_⟩
    simpa using w1
  · cases e; cases dx; cases dy
    refine .inl ⟨rfl, ?_⟩
    simpa using w1
  · split at e
    · rename_i c
      have c' := Nat.eq_of_beq_eq_true c
      subst c'
      cases e; cases dx; cases dy
      rename_i r1 _ r2
      rw [r1] at r2; cases r2
      exact .inl ⟨rfl, by simpa using w1⟩
    · cases e
  · split at e
    · rename_i c
      have c' := Nat.eq_of_beq_eq_true c
      subst c'
      cases e; cases dx; cases dy
      rename_i r1 _ _ r2
      rw [r1] at r2; cases r2
      exact .inl ⟨rfl, by simpa using w1⟩
    · cases e
  · split at e
    · rename_i d1 d2 e1 e2
      split at e
      · rename_i c
        cases e
        obtain ⟨c1, c2⟩ := Bool.and_eq_true_iff.mp c
        exact .inr ⟨d1, d2, den_PD s e1 dx, den_PD s e2 dy, c1, c2, w1⟩
      · cases e
    · cases e
/-- a tuple's ints -/
def intsM : List MV → Option (List Int)
  | [] => some []
  | .int i :: r => match intsM r with
    | some is => some (i :: is)
    | none => none
  | _ => none
theorem intsM_ok {K : PySem.W.Frag} {ρ : Rho} {M : Addr → Prop} {H : Hp} : ∀ {xs : List MV} {vs : List V} {ns : List Int}, intsM xs = some ns → DenL T K ρ M H xs vs → vs = ns.map V.int
  | [], _, _, e, d => by cases e; cases d; rfl
  | .int i :: r, _, _, e, d => by
    have e1 : (match intsM r with
      | some is => some (i :: is)
      | none => none) = some _ := e
    cases q : intsM r with
    | none => rw [q] at e1; cases e1
    | some is =>
      rw [q] at e1; cases e1
      cases d with
      | cons d1 d2 => cases d1; rw [intsM_ok q d2]; rfl
def cInt (p : Int → Int → Bool) : CF := fun x y _ => match x, y with
  | .int i, .int j => some (p i j)
  | _, _ => none
theorem cInt_ok (p : Int → Int → Bool) : OpS T X (rI0 fun i j => .bl (p i j)) (cOp (cInt p)) := fun ρ h H x y v u E ms Q s dx dy w => by
  obtain ⟨b, e, w⟩ := bO_wp w
  unfold cInt at e
  split at e
  · cases e; cases dx; cases dy
    exact ⟨_, _, rfl, rfl, post_bl s w⟩
  · cases e
def cLt : CF := fun x y _ => match x, y with
  | .int i, .int j => some (decide (i < j))
  | .tup xs, .tup ys => match intsM xs, intsM ys with
    | some ns, some ms => some (HT.lexLt ns ms)
    | _, _ => none
  | _, _ => none
def rLtA (K : PySem.W.Frag) : R2 := fun x y H Q => rI0 (fun i j => .bl (decide (i < j))) x y H Q ∨ rLtT K x y H Q
theorem op_ltA (hu : X.A.units < cLine) : OpR X (compareOp .Lt) (rLtA X.K) := op_lt.or (op_ltT hu)
theorem cLt_ok : OpS T X (rLtA X.K) (cOp cLt) := fun ρ h H x y v u E ms Q s dx dy w => by
  obtain ⟨b, e, w⟩ := bO_wp w
  unfold cLt at e
  split at e
  · cases e; cases dx; cases dy
    exact .inl ⟨_, _, rfl, rfl, post_bl s w⟩
  · split at e
    · rename_i ns ms e1 e2
      cases e
      obtain ⟨a, vs, rfl, r1, d1⟩ := den_tup dx
      obtain ⟨b, ws, rfl, r2, d2⟩ := den_tup dy
      rw [intsM_ok e1 d1] at r1
      rw [intsM_ok e2 d2] at r2
      exact .inr ⟨a, b, ns, ms, rfl, rfl, r1, r2, post_bl s w⟩
    · cases e
  · cases e
/-- is None, is not None -/
def isNon : MV → Bool
  | .non => true
  | _ => false
theorem isNon_ok {K : PySem.W.Frag} {ρ : Rho} {M : Addr → Prop} {H : Hp} {x : MV} {v : V} (d : Den T K ρ M H x v) : decide (v = .non) = isNon x := by
  cases d <;> rfl
def cIsN : CF := fun x y _ => match y with
  | .non => some (isNon x)
  | _ => none
def cNotN : CF := fun x y _ => match y with
  | .non => some (!isNon x)
  | _ => none
theorem cIsN_ok : OpS T X (fun x y H Q => y = .non ∧ Q (.bl (decide (x = .non))) H) (cOp cIsN) := fun ρ h H x y v u E ms Q s dx dy w => by
  obtain ⟨b, e, w⟩ := bO_wp w
  unfold cIsN at e
  split at e
  · cases e; cases dy
    refine ⟨rfl, ?_⟩
    rw [isNon_ok dx]
    exact post_bl s w
  · cases e
theorem cNotN_ok : OpS T X (fun x y H Q => y = .non ∧ Q (.bl (!decide (x = .non))) H) (cOp cNotN) := fun ρ h H x y v u E ms Q s dx dy w => by
  obtain ⟨b, e, w⟩ := bO_wp w
  unfold cNotN at e
  split at e
  · cases e; cases dy
    refine ⟨rfl, ?_⟩
    rw [isNon_ok dx]
    exact post_bl s w
  · cases e
/-! ### in, not in -/
def inM (x : MV) (ys : List MV) : Bool := ys.any fun y => L2.eqV (scV y) (scV x)
def cIn : CF := fun x y h => match y with
  | .str z => match x with
    | .str ⟨⟨[c]⟩⟩ => some (decide (c ∈ z.cps.toList))
    | _ => none
  | y => match asQ h y with
    | none => none
    | some ys => match scM x && ys.all scM with
      | true => some (inM x ys)
      | false => match y with
        | .tup _ => none
        | y => match toPD h pdN x, toPD h pdN y with
          | some d, some (.list ds) => match shB d && shB (.list ds) with
            | true => some (ds.any fun z => PyData.eqv z d)
            | false => none
          | _, _ => none
def cNi : CF := fun x y h => (cIn x y h).map not
def rInA (K : PySem.W.Frag) : R2 := fun x y H Q => (∃ (c : Nat) (z : Str), x = .str ⟨#[c]⟩ ∧ y = .str z ∧ Q (.bl (decide (c ∈ z.cps.toList))) H) ∨ rIn K false x y H Q ∨ rInD K x y H Q
def rNiA (K : PySem.W.Frag) : R2 := fun x y H Q => (∃ (c : Nat) (z : Str), x = .str ⟨#[c]⟩ ∧ y = .str z ∧ Q (.bl (!decide (c ∈ z.cps.toList))) H) ∨ rIn K true x y H Q ∨ rNotInD K x y H Q
theorem op_inA (hu : X.A.units + 65 < cLine) : OpR X (compareOp .In) (rInA X.K) := op_in_sign.or (op_in_seq.or (op_inD hu))
theorem op_niA (hu : X.A.units + 65 < cLine) : OpR X (compareOp .NotIn) (rNiA X.K) := op_notIn_sign.or (op_notIn_seq.or (op_notInD hu))
theorem den_scs {K : PySem.W.Frag} {ρ : Rho} {M : Addr → Prop} {H : Hp} : ∀ {xs : List MV} {vs : List V}, xs.all scM = true → DenL T K ρ M H xs vs → vs = xs.map scV ∧ vs.all flatV = true
  | [], _, _, d => by cases d; exact ⟨rfl, rfl⟩
  | x :: r, _, e, d => by
    cases d with
    | cons d1 d2 =>
      obtain ⟨e1, e2⟩ := Bool.and_eq_true_iff.mp (show (scM x && r.all scM) = true from e)
      obtain ⟨q1, q2⟩ := den_sc e1 d1
      obtain ⟨q3, q4⟩ := den_scs e2 d2
      refine ⟨by rw [q1, q3]; rfl, ?_⟩
      show (flatV _ && List.all _ flatV) = true
      rw [q2, q4]; rfl
theorem inM_ok {x : MV} {ys : List MV} : inV (scV x) (ys.map scV) = inM x ys := by
  unfold inV inM
  rw [List.any_map]
  rfl
/-- what the two roads of 'in' say -/
theorem cIn_says {K : PySem.W.Frag} {ρ : Rho} {h : MH} {H : Hp} {x y : MV} {v u : V} {b : Bool} (s : SimH T K ρ h H) (dx : Den T K ρ (Mu ρ h) H x v) (dy : Den T K ρ (Mu ρ h) H y u) (e : cIn x y h = some b) :
    (∃ (c : Nat) (z : Str), v = .str ⟨#[c]⟩ ∧ u = .str z ∧ b = decide (c ∈ z.cps.toList)) ∨
    (∃ p xs, u = .ref p ∧ (SqL K H p xs ∨ SqT K H p xs) ∧ flatV v = true ∧ xs.all flatV = true ∧ b = inV v xs) ∨
    (∃ d ds, Dp K H v d ∧ Dp K H u (.list ds) ∧ SeqAt.shaped d = true ∧ SeqAt.shaped (.list ds) = true ∧ b = ds.any fun z => PyData.eqv z d) := by
  unfold cIn at e
  split at e
  · split at e
    · cases e; cases dx; cases dy
      exact .inl ⟨_, _, rfl, rfl, rfl⟩
    · cases e
  · split at e
    · cases e
    · rename_i ys e1
      obtain ⟨a, vs, rfl, r, d⟩ := den_asQ s e1 dy
      split at e
      · rename_i c
        obtain ⟨c1, c2⟩ := Bool.and_eq_true_iff.mp c
        cases e
        obtain ⟨q1, q2⟩ := den_sc c1 dx
        obtain ⟨q3, q4⟩ := den_scs c2 d
        refine .inr (.inl ⟨a, vs, rfl, r, q2, q4, ?_⟩)
        rw [q1, q3, inM_ok]
      · split at e
        · cases e
        · split at e
          · rename_i d1 ds e2 e3
            split at e
            · rename_i c
              obtain ⟨c1, c2⟩ := Bool.and_eq_true_iff.mp c
              cases e
              exact .inr (.inr ⟨d1, ds, den_PD s e2 dx, den_PD s e3 dy, c1, c2, rfl⟩)
            · cases e
          · cases e
theorem cIn_ok : OpS T X (rInA X.K) (cOp cIn) := fun ρ h H x y v u E ms Q s dx dy w => by
  obtain ⟨b, e, w⟩ := bO_wp w
  have w1 : Q (.bl b) H := post_bl s w
  rcases cIn_says s dx dy e with ⟨c, z, e1, e2, e3⟩ | ⟨p, xs, e1, e2, e3, e4, e5⟩ | ⟨d, ds, e1, e2, e3, e4, e5⟩
  · exact .inl ⟨c, z, e1, e2, by rw [← e3]; exact w1⟩
  · exact .inr (.inl ⟨p, xs, e1, e2, e3, e4, by rw [if_neg Bool.false_ne_true, ← e5]; exact w1⟩)
  · exact .inr (.inr ⟨d, ds, e1, e2, e3, e4, by rw [← e5]; exact w1⟩)
theorem cNi_ok : OpS T X (rNiA X.K) (cOp cNi) := fun ρ h H x y v u E ms Q s dx dy w => by
  obtain ⟨b', e, w⟩ := bO_wp w
  obtain ⟨b, e2, rfl⟩ := Option.map_eq_some_iff.mp e
  clear e
  have e := e2
  clear e2
  have w1 : Q (.bl (!b)) H := post_bl s w
  rcases cIn_says s dx dy e with ⟨c, z, e1, e2, e3⟩ | ⟨p, xs, e1, e2, e3, e4, e5⟩ | ⟨d, ds, e1, e2, e3, e4, e5⟩
  · exact .inl ⟨c, z, e1, e2, by rw [← e3]; exact w1⟩
  · exact .inr (.inl ⟨p, xs, e1, e2, e3, e4, by rw [if_pos rfl, ← e5]; exact w1⟩)
  · exact .inr (.inr ⟨d, ds, e1, e2, e3, e4, by rw [← e5]; exact w1⟩)
end
end
end WK
set_option Elab.async false
set_option linter.all false
set_option maxRecDepth 100000
/-! expressions -/
namespace WK
noncomputable section
open PySem L2
section
variable {T : Tb} {X : Cx} {E : XW}
/-! ### truth -/
def tru (h : MH) : MV → Option Bool
  | .non => some false
  | .bl b => some b
  | .int i => some (i != 0)
  | .str x => match leB x.length sizeLine with
    | true => some ((x.length : Int) != 0)
    | false => none
  | x => match asQ h x with
    | some xs => some (!xs.isEmpty)
    | none => none
/-- what a truth leads to -/
def br {α : Type} (h : MH) (x : MV) (t f : Tr α) : Tr α := match x with
  | .bl b => Bool.rec (motive := fun _ => Tr α) f t b
  | x => match tru h x with
    | some true => t
    | some false => f
    | none => .bad
theorem br_eq {α : Type} (h : MH) (x : MV) (t f : Tr α) : br h x t f = (match tru h x with
    | some true => t
    | some false => f
    | none => .bad) := by
  cases x <;> first | rfl | skip
  rename_i b
  cases b <;> rfl
theorem isEmpty_len {K : PySem.W.Frag} {ρ : Rho} {M : Addr → Prop} {H : Hp} {xs : List MV} {vs : List V} (d : DenL T K ρ M H xs vs) : xs.isEmpty = vs.isEmpty := by
  cases d <;> rfl
theorem tru_ok {K : PySem.W.Frag} {ρ : Rho} {h : MH} {H : Hp} {x : MV} {v : V} {b : Bool} (s : SimH T K ρ h H) (d : Den T K ρ (Mu ρ h) H x v) (e : tru h x = some b) : TruV K v H b := by
  unfold tru at e
  split at e
  · cases e; cases d; rfl
  · cases e; cases d; rfl
  · cases e; cases d; rfl
  · split at e
    · rename_i c
      cases e; cases d
      exact ⟨leB_ok c, rfl⟩
    · cases e
  · split at e
    · rename_i xs e1
      cases e
      obtain ⟨a, vs, rfl, r, d1⟩ := den_asQ s e1 d
      rw [isEmpty_len d1]
      rcases r with r | r
      · exact .inl ⟨vs, r, rfl⟩
      · exact .inr (.inl ⟨vs, r, rfl⟩)
    · cases e
def postT (T : Tb) (K : PySem.W.Frag) (E : XW) (m : MS) (ρ : Rho) (h : MH) (H : Hp) (Q : Bool → Hp → Prop) : ER → Prop
  | .ok x h' => ∃ b, tru h' x = some b ∧ ∀ ρ' H', Le ρ h H ρ' h' H' → SimH T K ρ' h' H' → Q b H'
  | .ex x h' => exP T K E m ρ h H x h'
def tT (T : Tb) (K : PySem.W.Frag) (E : XW) (f : RunE) : TT := fun σ H Q => ∃ ρ m h, SimH T K ρ h H ∧ SimS T K ρ (Mu ρ h) H m σ ∧ (f m h).wp (postT T K E m ρ h H Q)
theorem ptI {X : Cx} {e : Expr} {t t' : TT} (p : PT X e t) (h : ∀ σ H Q, t' σ H Q → t σ H Q) : PT X e t' := ⟨fun pins s σ H Q I q => p.run pins s σ H Q I (h σ H Q q)⟩
theorem pwI {X : Cx} {e : Expr} {t t' : TT} (p : PW X e t) (h : ∀ σ H Q, t' σ H Q → t σ H Q) : PW X e t' := ⟨fun wh pins s σ H Q I q => p.run wh pins s σ H Q I (h σ H Q q)⟩
/-- an expression, as a value and as a test -/
structure SE (T : Tb) (X : Cx) (E : XW) (e : Expr) (f : RunE) : Prop where
  v : PE X e (tE T X.K E f)
  t : PT X e (tT T X.K E f)
theorem postT_le {K : PySem.W.Frag} {m : MS} {ρ ρ' : Rho} {h h' : MH} {H H' : Hp} {Q : Bool → Hp → Prop} (l : Le ρ h H ρ' h' H') : ∀ r, postT T K E m ρ h H Q r → postT T K E m ρ' h' H' Q r
  | .ok _ _, ⟨b, e, w⟩ => ⟨b, e, fun ρ2 H2 l2 s => w ρ2 H2 (l.trans l2) s⟩
  | .ex _ _, w => exP.le l w
theorem SE.ofV {e : Expr} {f : RunE} (p : PE X e (tE T X.K E f)) (he : ∀ whole, isTrue e X.env whole = (do let v ← whole; standAt e.pos; holding [v] (truthy v))) : SE T X E e f := ⟨p, ptI (pt_truth p he) fun σ H Q ⟨ρ, m, h, s1, s2, w⟩ => ⟨ρ, m, h, s1, s2, Tr.wp_mono w fun r q => by
  cases r with
  | ex x h' => exact q
  | ok x h' =>
    obtain ⟨b, e, q⟩ := q
    exact fun ρ' H' v l s d => ⟨b, tru_ok s d e, q ρ' H' l s⟩⟩⟩
theorem s_con {e : Expr} {x : MV} {v : V} (p : PE X e (tC v)) (d : ∀ ρ M H, Den T X.K ρ M H x v) (he : ∀ whole, isTrue e X.env whole = (do let v ← whole; standAt e.pos; holding [v] (truthy v))) : SE T X E e fun _ h => okE x h := .ofV (e_con p d) he
theorem s_var {i : Nat} {x : Str} {pos : Pos} (hN : X.N[i]? = some x) (hv : Vis X.env.scope x) (hd : (x == ("__debug__" : Str)) = false) (hcd : (x == ("__classdict__" : Str)) = false) : SE T X E (.Name x pos) (runVar i) := .ofV (e_var hN hv hd hcd) fun _ => rfl
theorem s_bin {op : Operator} {a b : Expr} {pos : Pos} {f g : RunE} {o : MV → MV → MH → Tr ER} {r : R2} (hr : OpR X (binaryOp op) r) (ho : OpS T X r o) (ha : SE T X E a f) (hb : SE T X E b g) : SE T X E (.BinOp a op b pos) (run2 f g o) := .ofV (e_bin hr ho ha.v hb.v) fun _ => rfl

/-! ### comparisons -/
/-- a run that gives True or False -/
def IsB (f : RunE) : Prop := ∀ (m : MS) (h : MH) (Q : ER → Prop), (f m h).wp Q → (f m h).wp fun r => Q r ∧ ∀ x h', r = .ok x h' → ∃ b, x = .bl b
theorem t_ofB {f : RunE} {t : TE} (hb : IsB f) (ht : ∀ σ H Q, tE T X.K E f σ H Q → t σ H Q) (σ : St) (H : Hp) (Q : Bool → Hp → Prop) (w : tT T X.K E f σ H Q) : tTest t σ H Q := by
  obtain ⟨ρ, m, h, s1, s2, w⟩ := w
  refine ht σ H _ ⟨ρ, m, h, s1, s2, Tr.wp_mono (hb m h _ w) fun r q => ?_⟩
  obtain ⟨q, q2⟩ := q
  cases r with
  | ex x h' => exact q
  | ok x h' =>
    obtain ⟨b, rfl⟩ := q2 x h' rfl
    obtain ⟨b', e, w3⟩ := q
    cases e
    intro ρ' H' v l s d
    cases d
    exact ⟨b, rfl, w3 ρ' H' l s⟩
theorem isB_bO (o : Option Bool) (h : MH) (Q : ER → Prop) (w : (bO o h).wp Q) : (bO o h).wp fun r => Q r ∧ ∀ x h', r = .ok x h' → ∃ b, x = .bl b := by
  cases o with
  | none => exact w
  | some b => exact ⟨w, fun x h' e => by cases e; exact ⟨b, rfl⟩⟩
theorem isB_ok (b : Bool) (h : MH) (Q : ER → Prop) (w : (okE (.bl b) h).wp Q) : (okE (.bl b) h).wp fun r => Q r ∧ ∀ x h', r = .ok x h' → ∃ b, x = .bl b := ⟨w, fun x h' e => by cases e; exact ⟨b, rfl⟩⟩
theorem isB_ex (x : MV) (h : MH) (Q : ER → Prop) (w : (exE x h).wp Q) : (exE x h).wp fun r => Q r ∧ ∀ x h', r = .ok x h' → ∃ b, x = .bl b := ⟨w, fun x h' e => by cases e⟩
theorem isB_be {t : Tr ER} {f : MV → MH → Tr ER} {Q : ER → Prop} {P : ER → Prop} (w : (t.be f exE).wp Q) (hP : ∀ x h, P (.ex x h)) (hf : ∀ v h, (f v h).wp Q → (f v h).wp fun r => Q r ∧ P r) : (t.be f exE).wp fun r => Q r ∧ P r := by
  refine (Tr.wp_bind _ _ _).mpr (Tr.wp_mono ((Tr.wp_bind _ _ _).mp w) fun r q => ?_)
  cases r with
  | ok v h => exact hf v h q
  | ex x h => exact ⟨q, hP x h⟩
theorem isB_run2 {f g : RunE} {c : CF} : IsB (run2 f g (cOp c)) := fun m h Q w =>
  isB_be w (fun _ _ _ _ e => by cases e) fun x h1 w1 => isB_be w1 (fun _ _ _ _ e => by cases e) fun y h2 w2 => isB_bO _ _ _ w2
theorem s_cmp {op : CmpOp} {a b : Expr} {pos : Pos} {f g : RunE} {c : CF} {r : R2} (hr : OpR X (compareOp op) r) (ho : OpS T X r (cOp c)) (ha : SE T X E a f) (hb : SE T X E b g) (hm : behindInMarks op b = false) : SE T X E (.Compare a [op] [b] pos) (run2 f g (cOp c)) :=
  ⟨peI (pe_cmpR hr ha.v hb.v hm) (t_run2 ho), ptI (pt_cmpR hr ha.v hb.v hm) (t_ofB isB_run2 (t_run2 ho))⟩
/-- a < b < c -/
def runChain (f g k : RunE) (c c' : CF) : RunE := fun m h => (f m h).be (fun x h1 => (g m h1).be (fun y h2 => match c x y h2 with
  | some true => (k m h2).be (fun z h3 => cOp c' y z h3) exE
  | some false => okE (.bl false) h2
  | none => .bad) exE) exE
theorem isB_chain {f g k : RunE} {c c' : CF} : IsB (runChain f g k c c') := fun m h Q w =>
  isB_be w (fun _ _ _ _ e => by cases e) fun x h1 w1 => isB_be w1 (fun _ _ _ _ e => by cases e) fun y h2 w2 => by
    cases e : c x y h2 with
    | none => simp only [e] at w2; exact w2.elim
    | some b =>
      cases b with
      | false => simp only [e] at w2 ⊢; exact isB_ok _ _ _ w2
      | true => simp only [e] at w2 ⊢; exact isB_be w2 (fun _ _ _ _ e => by cases e) fun z h3 w3 => isB_bO _ _ _ w3
theorem OpS.bl {c : CF} {r : R2} (ho : OpS T X r (cOp c)) {ρ : Rho} {h : MH} {H : Hp} {x y : MV} {v u : V} {b : Bool} {E : XW} {m : MS} {Q : VK} (s : SimH T X.K ρ h H) (dx : Den T X.K ρ (Mu ρ h) H x v) (dy : Den T X.K ρ (Mu ρ h) H y u) (e : c x y h = some b) (q : ∀ ρ' H', Le ρ h H ρ' h H' → SimH T X.K ρ' h H' → Q (.bl b) H') : r v u H Q :=
  ho ρ h H x y v u E m Q s dx dy (by
    show (bO _ _).wp _
    rw [e]
    intro ρ' H' v l s d
    cases d
    exact q ρ' H' l s)
theorem t_chain {f g k : RunE} {p p' : CF} {r r' : R2} (ho : OpS T X r (cOp p)) (ho' : OpS T X r' (cOp p')) (σ : St) (H : Hp) (Q : VK) (w : tE T X.K E (runChain f g k p p') σ H Q) : tChain r r' (tE T X.K E f) (tE T X.K E g) (tE T X.K E k) σ H Q := by
  obtain ⟨ρ, m, h, s1, s2, w⟩ := w
  refine ⟨ρ, m, h, s1, s2, Tr.wp_mono (Tr.wp_be w) fun q w1 => ?_⟩
  cases q with
  | ex x h1 => exact w1
  | ok x h1 =>
    intro ρ1 H1 v l1 s1' d1
    refine ⟨ρ1, m, h1, s1', s2.le l1, Tr.wp_mono (Tr.wp_be w1) fun q w2 => ?_⟩
    cases q with
    | ex x h2 => exact exP.le l1 w2
    | ok y h2 =>
      intro ρ2 H2 u l2 s2' d2
      cases e : p x y h2 with
      | none => simp only [e] at w2; exact w2.elim
      | some b =>
        refine ho.bl (E := E) (m := m) s2' (d1.le l2) d2 e fun ρ3 H3 l3 s3' => ⟨b, rfl, ?_⟩
        cases b with
        | false =>
          simp only [e] at w2
          rw [if_neg Bool.false_ne_true]
          exact w2 ρ3 H3 _ ((l1.trans l2).trans l3) s3' (.bl _)
        | true =>
          simp only [e] at w2
          rw [if_pos rfl]
          refine ⟨ρ3, m, h2, s3', s2.le ((l1.trans l2).trans l3), Tr.wp_mono (Tr.wp_be w2) fun q w4 => ?_⟩
          cases q with
          | ex x h3 => exact exP.le ((l1.trans l2).trans l3) w4
          | ok z h3 =>
            intro ρ4 H4 t l4 s4' d4
            exact ho' ρ4 h3 H4 y z u t E m Q s4' ((d2.le l3).le l4) d4 (Tr.wp_mono w4 (postE.le (((l1.trans l2).trans l3).trans l4)))
theorem s_chain {op op' : CmpOp} {a b c : Expr} {pos : Pos} {f g k : RunE} {p p' : CF} {r r' : R2} (hr : OpR X (compareOp op) r) (hr' : OpR X (compareOp op') r') (ho : OpS T X r (cOp p)) (ho' : OpS T X r' (cOp p')) (ha : SE T X E a f) (hb : SE T X E b g) (hc : SE T X E c k)
    (hm : behindInMarks op' c = false) : SE T X E (.Compare a [op, op'] [b, c] pos) (runChain f g k p p') :=
  have hm' : lastMarks [op, op'] [b, c] = false := by with_unfolding_all exact hm
  ⟨peI (pe_chain hr hr' ha.v hb.v hc.v hm') (t_chain ho ho'), ptI (pt_chain hr hr' ha.v hb.v hc.v hm') (t_ofB isB_chain (t_chain ho ho'))⟩

/-! ### and, or, not, if -/
def runNot (f : RunE) : RunE := fun m h => (f m h).be (fun x h1 => bO ((tru h1 x).map not) h1) exE
def runAnd (f g : RunE) : RunE := fun m h => (f m h).be (fun x h1 => br h1 x (g m h1) (okE x h1)) exE
def runOr (f g : RunE) : RunE := fun m h => (f m h).be (fun x h1 => br h1 x (okE x h1) (g m h1)) exE
def runIfE (c f g : RunE) : RunE := fun m h => (c m h).be (fun x h1 => br h1 x (f m h1) (g m h1)) exE
theorem s_not {a : Expr} {pos : Pos} {f : RunE} (ha : SE T X E a f) : SE T X E (.UnaryOp .Not a pos) (runNot f) where
  v := peI (pe_notT ha.v) fun σ H Q ⟨ρ, m, h, s1, s2, w⟩ => ⟨ρ, m, h, s1, s2, Tr.wp_mono (Tr.wp_be w) fun r q => by
    cases r with
    | ex x h1 => exact q
    | ok x h1 =>
      intro ρ1 H1 v l s d
      obtain ⟨b, e, q⟩ := bO_wp q
      obtain ⟨b, e2, rfl⟩ := Option.map_eq_some_iff.mp e
      exact ⟨b, tru_ok s d e2, q ρ1 H1 _ l s (.bl _)⟩⟩
  t := ptI (pt_not ha.t) fun σ H Q ⟨ρ, m, h, s1, s2, w⟩ => ⟨ρ, m, h, s1, s2, Tr.wp_mono (Tr.wp_be w) fun r q => by
    cases r with
    | ex x h1 => exact q
    | ok x h1 =>
      obtain ⟨b, e, b', e', q⟩ := bO_wp q
      obtain ⟨b, e2, rfl⟩ := Option.map_eq_some_iff.mp e
      cases e'
      exact ⟨b, e2, q⟩⟩
/-- a chain of 'and' or 'or' -/
structure SB (T : Tb) (X : Cx) (E : XW) (op : BoolOp) (es : List Expr) (f : RunE) : Prop where
  v : ∀ pos, PE X (.BoolOp op es pos) (tE T X.K E f)
  w : ∀ pos, PW X (.BoolOp op es pos) (tT T X.K E f)
theorem sb_and1 {a : Expr} {f : RunE} (ha : SE T X E a f) : SB T X E .And [a] f := ⟨fun _ => pe_one ha.v, fun _ => pw_and1 ha.t⟩
theorem sb_or1 {a : Expr} {f : RunE} (ha : SE T X E a f) : SB T X E .Or [a] f := ⟨fun _ => pe_one ha.v, fun _ => pw_or1 ha.t⟩
theorem sb_and {a b : Expr} {rest : List Expr} {f g : RunE} (ha : SE T X E a f) (hb : SB T X E .And (b :: rest) g) : SB T X E .And (a :: b :: rest) (runAnd f g) where
  v := fun pos => peI (pe_andT ha.v (hb.v pos)) fun σ H Q ⟨ρ, m, h, s1, s2, w⟩ => ⟨ρ, m, h, s1, s2, Tr.wp_mono (Tr.wp_be w) fun r q => by
    cases r with
    | ex x h1 => exact q
    | ok x h1 =>
      intro ρ1 H1 v l s d
      cases e : tru h1 x with
      | none => simp only [br_eq, e] at q; exact q.elim
      | some b =>
        refine ⟨b, tru_ok s d e, ?_⟩
        cases b with
        | true =>
          simp only [br_eq, e] at q
          rw [if_pos rfl]
          exact ⟨ρ1, m, h1, s, s2.le l, Tr.wp_mono q (postE.le l)⟩
        | false =>
          simp only [br_eq, e] at q
          rw [if_neg Bool.false_ne_true]
          exact q ρ1 H1 _ l s d⟩
  w := fun pos => pwI (pw_and ha.t (hb.w pos)) fun σ H Q ⟨ρ, m, h, s1, s2, w⟩ => ⟨ρ, m, h, s1, s2, Tr.wp_mono (Tr.wp_be w) fun r q => by
    cases r with
    | ex x h1 => exact q
    | ok x h1 =>
      cases e : tru h1 x with
      | none => simp only [br_eq, e] at q; exact q.elim
      | some b =>
        refine ⟨b, e, fun ρ1 H1 l s => ?_⟩
        cases b with
        | true =>
          simp only [br_eq, e] at q
          rw [if_pos rfl]
          exact ⟨ρ1, m, h1, s, s2.le l, Tr.wp_mono q (postT_le l)⟩
        | false =>
          simp only [br_eq, e] at q
          rw [if_neg Bool.false_ne_true]
          obtain ⟨b', e', q⟩ := q
          rw [e] at e'
          cases e'
          exact q ρ1 H1 l s⟩
theorem sb_or {a b : Expr} {rest : List Expr} {f g : RunE} (ha : SE T X E a f) (hb : SB T X E .Or (b :: rest) g) : SB T X E .Or (a :: b :: rest) (runOr f g) where
  v := fun pos => peI (pe_orT ha.v (hb.v pos)) fun σ H Q ⟨ρ, m, h, s1, s2, w⟩ => ⟨ρ, m, h, s1, s2, Tr.wp_mono (Tr.wp_be w) fun r q => by
    cases r with
    | ex x h1 => exact q
    | ok x h1 =>
      intro ρ1 H1 v l s d
      cases e : tru h1 x with
      | none => simp only [br_eq, e] at q; exact q.elim
      | some b =>
        refine ⟨b, tru_ok s d e, ?_⟩
        cases b with
        | true =>
          simp only [br_eq, e] at q
          rw [if_pos rfl]
          exact q ρ1 H1 _ l s d
        | false =>
          simp only [br_eq, e] at q
          rw [if_neg Bool.false_ne_true]
          exact ⟨ρ1, m, h1, s, s2.le l, Tr.wp_mono q (postE.le l)⟩⟩
  w := fun pos => pwI (pw_or ha.t (hb.w pos)) fun σ H Q ⟨ρ, m, h, s1, s2, w⟩ => ⟨ρ, m, h, s1, s2, Tr.wp_mono (Tr.wp_be w) fun r q => by
    cases r with
    | ex x h1 => exact q
    | ok x h1 =>
      cases e : tru h1 x with
      | none => simp only [br_eq, e] at q; exact q.elim
      | some b =>
        refine ⟨b, e, fun ρ1 H1 l s => ?_⟩
        cases b with
        | true =>
          simp only [br_eq, e] at q
          rw [if_pos rfl]
          obtain ⟨b', e', q⟩ := q
          rw [e] at e'
          cases e'
          exact q ρ1 H1 l s
        | false =>
          simp only [br_eq, e] at q
          rw [if_neg Bool.false_ne_true]
          exact ⟨ρ1, m, h1, s, s2.le l, Tr.wp_mono q (postT_le l)⟩⟩
theorem s_bool {op : BoolOp} {es : List Expr} {pos : Pos} {f : RunE} (h : SB T X E op es f) : SE T X E (.BoolOp op es pos) f := ⟨h.v pos, (h.w pos).pt⟩
theorem pt_ifExp {c a b : Expr} {pos : Pos} {tc ta tb : TT} (hc : PT X c tc) (ha : PT X a ta) (hb : PT X b tb) : PT X (.IfExp c a b pos) (fun σ H Q => tc σ H fun d H1 => if d = true then ta σ H1 Q else tb σ H1 Q) := by
  refine ⟨fun pins s σ H Q I h => ?_⟩
  show wpAny _ _ (isTrue c X.env (eval c X.env) >>= fun d => if d = true then isTrue a X.env (eval a X.env) else isTrue b X.env (eval b X.env)) _ _ _
  refine wpAny_bind (thn (hc.run pins s σ H _ I h) fun d s1 ⟨H1, I1, q1⟩ => ?_)
  cases d with
  | true => exact ha.run pins s1 σ H1 Q I1 q1
  | false => exact hb.run pins s1 σ H1 Q I1 q1
theorem s_ifE {c a b : Expr} {pos : Pos} {k f g : RunE} (hc : SE T X E c k) (ha : SE T X E a f) (hb : SE T X E b g) : SE T X E (.IfExp c a b pos) (runIfE k f g) where
  v := peI (pe_ifExp hc.t ha.v hb.v) fun σ H Q ⟨ρ, m, h, s1, s2, w⟩ => ⟨ρ, m, h, s1, s2, Tr.wp_mono (Tr.wp_be w) fun r q => by
    cases r with
    | ex x h1 => exact q
    | ok x h1 =>
      cases e : tru h1 x with
      | none => simp only [br_eq, e] at q; exact q.elim
      | some b =>
        refine ⟨b, e, fun ρ1 H1 l s => ?_⟩
        cases b with
        | true =>
          simp only [br_eq, e] at q
          rw [if_pos rfl]
          exact ⟨ρ1, m, h1, s, s2.le l, Tr.wp_mono q (postE.le l)⟩
        | false =>
          simp only [br_eq, e] at q
          rw [if_neg Bool.false_ne_true]
          exact ⟨ρ1, m, h1, s, s2.le l, Tr.wp_mono q (postE.le l)⟩⟩
  t := ptI (pt_ifExp hc.t ha.t hb.t) fun σ H Q ⟨ρ, m, h, s1, s2, w⟩ => ⟨ρ, m, h, s1, s2, Tr.wp_mono (Tr.wp_be w) fun r q => by
    cases r with
    | ex x h1 => exact q
    | ok x h1 =>
      cases e : tru h1 x with
      | none => simp only [br_eq, e] at q; exact q.elim
      | some b =>
        refine ⟨b, e, fun ρ1 H1 l s => ?_⟩
        cases b with
        | true =>
          simp only [br_eq, e] at q
          rw [if_pos rfl]
          exact ⟨ρ1, m, h1, s, s2.le l, Tr.wp_mono q (postT_le l)⟩
        | false =>
          simp only [br_eq, e] at q
          rw [if_neg Bool.false_ne_true]
          exact ⟨ρ1, m, h1, s, s2.le l, Tr.wp_mono q (postT_le l)⟩⟩
end
end
end WK
set_option Elab.async false
set_option linter.all false
set_option maxRecDepth 100000
/-! arguments, displays, places, slices, built-ins -/
namespace WK
noncomputable section
open PySem L2
abbrev RunL := MS → MH → Tr EL
def postL (T : Tb) (K : PySem.W.Frag) (E : XW) (m : MS) (ρ : Rho) (h : MH) (H : Hp) (Q : List V → Hp → Prop) : EL → Prop
  | .ok x h' => ∀ ρ' H' v, Le ρ h H ρ' h' H' → SimH T K ρ' h' H' → DenL T K ρ' (Mu ρ' h') H' x v → Q v H'
  | .ex x h' => exP T K E m ρ h H x h'
def tA (T : Tb) (K : PySem.W.Frag) (E : XW) (f : RunL) : TA := fun σ H Q => ∃ ρ m h, SimH T K ρ h H ∧ SimS T K ρ (Mu ρ h) H m σ ∧ (f m h).wp (postL T K E m ρ h H Q)
theorem paI {X : Cx} {e : List Expr} {t t' : TA} (p : PA X e t) (h : ∀ σ H Q, t' σ H Q → t σ H Q) : PA X e t' := ⟨fun pos pins s σ H Q I q => p.run pos pins s σ H Q I (h σ H Q q)⟩
def notStar : Expr → Bool
  | .Starred _ _ => false
  | _ => true
theorem star_cons {e : Expr} {es : List Expr} {env : Env} (h : notStar e = true) : starEach (e :: es) env = (false, eval e env) :: starEach es env := by
  cases e <;> first | rfl | cases h
theorem star_all : ∀ {es : List Expr} {env : Env}, es.all notStar = true → (starEach es env).any (·.1) = false
  | [], _, _ => rfl
  | e :: es, env, h => by
    obtain ⟨h1, h2⟩ := Bool.and_eq_true_iff.mp (show (notStar e && es.all notStar) = true from h)
    rw [star_cons h1]
    show (false || (starEach es env).any (·.1)) = false
    rw [star_all h2]; rfl
theorem backTo_any (pos : Pos) (l : List (Bool × Sem Value)) : (backTo pos l).any (·.1) = l.any (·.1) := by
  unfold backTo
  rw [List.any_map]
  rfl
section
variable {T : Tb} {X : Cx} {E : XW}
/-- a run that gives n things -/
def LenR (f : RunL) (n : Nat) : Prop := ∀ (m : MS) (h : MH) (Q : EL → Prop), (f m h).wp Q → (f m h).wp fun r => Q r ∧ ∀ xs h', r = .ok xs h' → xs.length = n
structure SA (T : Tb) (X : Cx) (E : XW) (es : List Expr) (f : RunL) : Prop where
  a : PA X es (tA T X.K E f)
  ns : es.all notStar = true
  n : LenR f es.length
def runNil : RunL := fun _ h => .ret (.ok [] h)
def runCons (f : RunE) (g : RunL) : RunL := fun m h => (f m h).be (fun v h1 => Tr.bl (g m h1) (fun vs h2 => .ret (.ok (v :: vs) h2)) exL) exL
theorem Tr.wp_bl {α : Type} {t : Tr EL} {f : List MV → MH → Tr α} {g : MV → MH → Tr α} {Q : α → Prop} (h : (Tr.bl t f g).wp Q) : t.wp fun r => match r with
    | .ok v h => (f v h).wp Q
    | .ex x h => (g x h).wp Q := by
  refine Tr.wp_mono ((Tr.wp_bind _ _ _).mp h) fun r q => ?_
  cases r <;> exact q
theorem postL_le {K : PySem.W.Frag} {m : MS} {ρ ρ' : Rho} {h h' : MH} {H H' : Hp} {Q : List V → Hp → Prop} (l : Le ρ h H ρ' h' H') : ∀ r, postL T K E m ρ h H Q r → postL T K E m ρ' h' H' Q r
  | .ok _ _, w => fun ρ2 H2 v l2 s d => w ρ2 H2 v (l.trans l2) s d
  | .ex _ _, w => exP.le l w
theorem lenR_nil : LenR runNil 0 := fun m h Q w => ⟨w, fun xs h' e => by cases e; rfl⟩
theorem lenR_cons {f : RunE} {g : RunL} {n : Nat} (hg : LenR g n) : LenR (runCons f g) (n + 1) := fun m h Q w => by
  refine (Tr.wp_bind _ _ _).mpr (Tr.wp_mono ((Tr.wp_bind _ _ _).mp w) fun r q => ?_)
  cases r with
  | ex x h1 => exact ⟨q, fun xs h' e => by cases e⟩
  | ok x h1 =>
    refine (Tr.wp_bind _ _ _).mpr (Tr.wp_mono (hg m h1 _ ((Tr.wp_bind _ _ _).mp q)) fun r q => ?_)
    obtain ⟨q, l⟩ := q
    cases r with
    | ex x h2 => exact ⟨q, fun xs h' e => by cases e⟩
    | ok xs h2 => exact ⟨q, fun ys h' e => by cases e; exact congrArg (· + 1) (l xs h2 rfl)⟩
theorem a_nil : SA T X E [] runNil := ⟨paI pa_nil fun σ H Q ⟨ρ, m, h, s1, s2, w⟩ => w ρ H [] Le.refl s1 .nil, rfl, lenR_nil⟩
theorem a_cons {e : Expr} {es : List Expr} {f : RunE} {g : RunL} (he : SE T X E e f) (hs : SA T X E es g) (hn : notStar e = true) : SA T X E (e :: es) (runCons f g) :=
  ⟨paI (pa_cons he.v hs.a (star_cons hn)) fun σ H Q ⟨ρ, m, h, s1, s2, w⟩ => ⟨ρ, m, h, s1, s2, Tr.wp_mono (Tr.wp_be w) fun r q => by
    cases r with
    | ex x h1 => exact q
    | ok x h1 =>
      intro ρ1 H1 v l s d
      refine ⟨ρ1, m, h1, s, s2.le l, Tr.wp_mono (Tr.wp_bl q) fun r q => ?_⟩
      cases r with
      | ex x h2 => exact exP.le l q
      | ok xs h2 =>
        intro ρ2 H2 vs l2 s' d2
        exact q ρ2 H2 _ (l.trans l2) s' (.cons (d.le l2) d2)⟩, by
    show (notStar e && es.all notStar) = true
    rw [hn, hs.ns]; rfl, lenR_cons hs.n⟩
/-- what follows from the arguments -/
theorem tA_then {f : RunL} {k : List MV → MH → Tr ER} {r : List V → Hp → VK → Prop} (hk : ∀ ρ h H xs vs m E Q, SimH T X.K ρ h H → DenL T X.K ρ (Mu ρ h) H xs vs → (k xs h).wp (postE T X.K E m ρ h H Q) → r vs H Q) (σ : St) (H : Hp) (Q : VK)
    (w : tE T X.K E (fun m h => Tr.bl (f m h) k exE) σ H Q) : tA T X.K E f σ H (fun vs H1 => r vs H1 Q) := by
  obtain ⟨ρ, m, h, s1, s2, w⟩ := w
  refine ⟨ρ, m, h, s1, s2, Tr.wp_mono (Tr.wp_bl w) fun q w1 => ?_⟩
  cases q with
  | ex x h1 => exact w1
  | ok xs h1 => exact fun ρ1 H1 vs l s d => hk ρ1 h1 H1 xs vs m E Q s d (Tr.wp_mono w1 (postE.le l))
def runArgs (f : RunL) (k : List MV → MH → Tr ER) : RunE := fun m h => Tr.bl (f m h) k exE
/-! ### displays -/
def kTup (xs : List MV) (h : MH) : Tr ER := okE (.tup xs) h
def kLst (m : Bool) (xs : List MV) (h : MH) : Tr ER := newL m xs h
/-- what follows from arguments of a known number -/
theorem tA_thenN {es : List Expr} {f : RunL} {k : List MV → MH → Tr ER} {r : List V → Hp → VK → Prop} (ha : SA T X E es f) (hk : ∀ ρ h H xs vs m E Q, xs.length = es.length → SimH T X.K ρ h H → DenL T X.K ρ (Mu ρ h) H xs vs → (k xs h).wp (postE T X.K E m ρ h H Q) → r vs H Q) (σ : St) (H : Hp) (Q : VK)
    (w : tE T X.K E (runArgs f k) σ H Q) : tA T X.K E f σ H (fun vs H1 => r vs H1 Q) := by
  obtain ⟨ρ, m, h, s1, s2, w⟩ := w
  refine ⟨ρ, m, h, s1, s2, Tr.wp_mono (ha.n m h _ (Tr.wp_bl w)) fun q w1 => ?_⟩
  obtain ⟨w1, hl⟩ := w1
  cases q with
  | ex x h1 => exact w1
  | ok xs h1 => exact fun ρ1 H1 vs l s d => hk ρ1 h1 H1 xs vs m E Q (hl xs h1 rfl) s d (Tr.wp_mono w1 (postE.le l))
theorem s_tup {es : List Expr} {x1 : Nat} {pos : Pos} {f : RunL} (ha : SA T X E es f) (hl : leB es.length sizeLine = true) : SE T X E (.Tuple es x1 pos) (runArgs f kTup) := .ofV (peI (pe_tup ha.a) (tA_thenN ha fun ρ h H xs vs m E Q e s d w => by
  exact ⟨by rw [← d.length, e]; exact leB_ok hl, post_tup s d w⟩)) fun _ => rfl
theorem s_lst {es : List Expr} {pos : Pos} {f : RunL} (b : Bool) (ha : SA T X E es f) (hl : leB es.length sizeLine = true) : SE T X E (.List es pos) (runArgs f (kLst b)) := .ofV (peI (pe_lst ha.a) (tA_thenN ha fun ρ h H xs vs m E Q e s d w => by
  exact ⟨by rw [← d.length, e]; exact leB_ok hl, newL_ok s d w⟩)) fun _ => rfl
/-! ### places -/
def plainS : Expr → Bool
  | .Slice _ _ _ _ => false
  | _ => true
theorem plain_ix {b : Expr} (h : plainS b = true) : PlainIx b := fun o i => by
  cases b <;> first | rfl | cases h
def nthR (xs : List MV) (i : Nat) : Option MV := List.rec (motive := fun _ => Nat → Option MV) (fun _ => none) (fun x _ ih i => Nat.rec (motive := fun _ => Option MV) (some x) (fun j _ => ih j) i) xs i
theorem nthR_eq : ∀ (xs : List MV) (i : Nat), nthR xs i = nth xs i
  | [], _ => rfl
  | _ :: _, 0 => rfl
  | _ :: r, i + 1 => nthR_eq r i
theorem nth_lt : ∀ {xs : List MV} {i : Nat} {x : MV}, nth xs i = some x → i < xs.length
  | [], _, _, e => by cases e
  | _ :: _, 0, _, _ => Nat.succ_pos _
  | _ :: r, i + 1, _, e => Nat.succ_lt_succ (nth_lt (xs := r) e)
def atM (xs : List MV) (i : Int) : Option MV := match i with
  | .ofNat j => nthR xs j
  | .negSucc j => match Nat.ble (j + 1) xs.length with
    | true => nthR xs (xs.length - (j + 1))
    | false => none
theorem atM_ix {xs : List MV} {i : Int} {x : MV} (e : atM xs i = some x) : ∃ j, ixN xs.length i = some j ∧ nth xs j = some x := by
  unfold atM at e
  unfold ixN
  split at e
  · rename_i j
    rw [nthR_eq] at e
    have h := nth_lt e
    refine ⟨j, ?_, e⟩
    rw [if_pos (by show (0 : Int) ≤ (j : Int); omega), if_pos (by show (j : Int) < _; omega)]
    rfl
  · rename_i j
    split at e
    · rename_i c
      have c := Nat.le_of_ble_eq_true c
      rw [nthR_eq] at e
      refine ⟨_, ?_, e⟩
      rw [if_neg (by omega), if_pos (by omega)]
      congr 1
      omega
    · cases e
theorem atM_ok {K : PySem.W.Frag} {ρ : Rho} {M : Addr → Prop} {H : Hp} {xs : List MV} {vs : List V} {i : Int} {x : MV} (d : DenL T K ρ M H xs vs) (e : atM xs i = some x) : ∃ v, atI vs i = some v ∧ Den T K ρ M H x v := by
  obtain ⟨j, q, e⟩ := atM_ix e
  obtain ⟨v, e1, e2⟩ := d.nth e
  refine ⟨v, ?_, e2⟩
  unfold atI
  rw [← d.length, q]
  exact e1
def opIx (x i : MV) (h : MH) : Tr ER := match i with
  | .int i => match x with
    | .str z => ifT (leB z.length sizeLine) (match atI z.cps.toList i with
      | some c => okE (.str ⟨#[c]⟩) h
      | none => .bad)
    | x => match asQ h x with
      | some xs => match atM xs i with
        | some v => okE v h
        | none => .bad
      | none => .bad
  | _ => .bad
theorem opIx_ok : OpS T X (rIx X.K) opIx := fun ρ h H x y v u E ms Q s dx dy w => by
  unfold opIx at w
  split at w
  · cases dy
    split at w
    · obtain ⟨c, w⟩ := ifT_wp w
      cases dx
      split at w
      · rename_i e
        exact .inr (.inr ⟨_, _, _, rfl, rfl, leB_ok c, e, post_str s w⟩)
      · exact w.elim
    · split at w
      · rename_i xs e1
        split at w
        · rename_i z e2
          obtain ⟨a, vs, rfl, r, d⟩ := den_asQ s e1 dx
          obtain ⟨v', e3, d3⟩ := atM_ok d e2
          rcases r with r | r
          · exact .inl ⟨a, vs, _, v', rfl, rfl, r, e3, post_den s d3 w⟩
          · exact .inr (.inl ⟨a, vs, _, v', rfl, rfl, r, e3, post_den s d3 w⟩)
        · exact w.elim
      · exact w.elim
  · exact w.elim
theorem s_ix {a b : Expr} {pos : Pos} {f g : RunE} (ha : SE T X E a f) (hb : SE T X E b g) (hp : plainS b = true) : SE T X E (.Subscript a b pos) (run2 f g opIx) := .ofV (peI (pe_ix ix_seq ha.v hb.v (plain_ix hp)) (t_run2 opIx_ok)) fun _ => rfl
/-! ### slices -/
def cutM (xs : List MV) (lo hi : Option Int) : List MV := (xs.drop (HT.sIx xs.length 0 lo)).take (HT.sIx xs.length xs.length hi - HT.sIx xs.length 0 lo)
theorem DenL.drop {K : PySem.W.Frag} {ρ : Rho} {M : Addr → Prop} {H : Hp} : ∀ {xs : List MV} {vs : List V} (n : Nat), DenL T K ρ M H xs vs → DenL T K ρ M H (xs.drop n) (vs.drop n)
  | _, _, 0, d => d
  | _, _, _ + 1, .nil => .nil
  | _, _, n + 1, .cons _ d => DenL.drop n d
theorem DenL.take {K : PySem.W.Frag} {ρ : Rho} {M : Addr → Prop} {H : Hp} : ∀ {xs : List MV} {vs : List V} (n : Nat), DenL T K ρ M H xs vs → DenL T K ρ M H (xs.take n) (vs.take n)
  | _, _, 0, _ => .nil
  | _, _, _ + 1, .nil => .nil
  | _, _, n + 1, .cons d r => .cons d (DenL.take n r)
theorem DenL.cut {K : PySem.W.Frag} {ρ : Rho} {M : Addr → Prop} {H : Hp} {xs : List MV} {vs : List V} {lo hi : Option Int} (d : DenL T K ρ M H xs vs) : DenL T K ρ M H (cutM xs lo hi) (cutV vs lo hi) := by
  unfold cutM cutV
  rw [d.length]
  exact (d.drop _).take _
def opSl (m : Bool) (x : MV) (lo hi : Option Int) (h : MH) : Tr ER := match x with
  | .tup xs => match decide (HT.sIx xs.length 0 lo = 0 ∧ HT.sIx xs.length xs.length hi = xs.length) with
    | true => okE (.tup xs) h
    | false => okE (.tup (cutM xs lo hi)) h
  | x => match asL h x with
    | some xs => newL m (cutM xs lo hi) h
    | none => .bad
def rSlB (K : PySem.W.Frag) : V → Option Int → Option Int → Hp → VK → Prop := fun x lo hi H Q => rSlA K x lo hi H Q ∨ rSlL K x lo hi H Q
theorem sl_B : SlR X (rSlB X.K) := sl_tupA.or sl_list
theorem opSl_ok (m : Bool) : ∀ ρ h H x v lo hi E ms Q, SimH T X.K ρ h H → Den T X.K ρ (Mu ρ h) H x v → (opSl m x lo hi h).wp (postE T X.K E ms ρ h H Q) → rSlB X.K v lo hi H Q := fun ρ h H x v lo hi E ms Q s dx w => by
  unfold opSl at w
  split at w
  · rename_i xs
    have dx' := dx
    obtain ⟨a, vs, rfl, r, d⟩ := den_tup dx
    have el := d.length
    split at w
    · rename_i c
      have c' := of_decide_eq_true c
      rw [el] at c'
      exact .inl ⟨a, vs, rfl, r, fun _ => post_den s dx' w, fun n => absurd c' n⟩
    · rename_i c
      have c' := of_decide_eq_false c
      rw [el] at c'
      exact .inl ⟨a, vs, rfl, r, fun n => absurd n c', fun _ => post_tup s d.cut w⟩
  · split at w
    · rename_i e1
      obtain ⟨a, vs, rfl, r, d⟩ := den_asL s e1 dx
      exact .inr ⟨a, vs, rfl, SqL.of r, newL_ok s d.cut w⟩
    · exact w.elim
/-- a slice's end -/
inductive OR where
  | ok (o : Option Int) (h : MH) | ex (x : MV) (h : MH)
abbrev RunO := MS → MH → Tr OR
def runNoP : RunO := fun _ h => .ret (.ok none h)
def runPt (f : RunE) : RunO := fun m h => (f m h).be (fun x h1 => match x with
  | .int i => .ret (.ok (some i) h1)
  | _ => .bad) fun x h1 => .ret (.ex x h1)
def postO (T : Tb) (K : PySem.W.Frag) (E : XW) (m : MS) (ρ : Rho) (h : MH) (H : Hp) (Q : Option Int → Hp → Prop) : OR → Prop
  | .ok x h' => ∀ ρ' H', Le ρ h H ρ' h' H' → SimH T K ρ' h' H' → Q x H'
  | .ex x h' => exP T K E m ρ h H x h'
def tO (T : Tb) (K : PySem.W.Frag) (E : XW) (f : RunO) : TO := fun σ H Q => ∃ ρ m h, SimH T K ρ h H ∧ SimS T K ρ (Mu ρ h) H m σ ∧ (f m h).wp (postO T K E m ρ h H Q)
def SO (T : Tb) (X : Cx) (E : XW) (e : Option Expr) (f : RunO) : Prop := PO X e (tO T X.K E f)
theorem poI {X : Cx} {e : Option Expr} {t t' : TO} (p : PO X e t) (h : ∀ σ H Q, t' σ H Q → t σ H Q) : PO X e t' := ⟨fun pins s σ H Q I q => p.run pins s σ H Q I (h σ H Q q)⟩
theorem o_none : SO T X E none runNoP := poI po_none fun σ H Q ⟨ρ, m, h, s1, s2, w⟩ => w ρ H Le.refl s1
theorem o_some {e : Expr} {f : RunE} (he : SE T X E e f) : SO T X E (some e) (runPt f) := poI (po_some he.v) fun σ H Q ⟨ρ, m, h, s1, s2, w⟩ => ⟨ρ, m, h, s1, s2, Tr.wp_mono (Tr.wp_be w) fun r q => by
  cases r with
  | ex x h1 => exact q
  | ok x h1 =>
    intro ρ1 H1 v l s d
    cases x <;> first | exact q.elim | skip
    cases d
    exact ⟨_, rfl, q ρ1 H1 l s⟩⟩
def Tr.bo {α : Type} (t : Tr OR) (f : Option Int → MH → Tr α) (g : MV → MH → Tr α) : Tr α := t.bind fun r => match r with
  | .ok v h => f v h
  | .ex x h => g x h
theorem Tr.wp_bo {α : Type} {t : Tr OR} {f : Option Int → MH → Tr α} {g : MV → MH → Tr α} {Q : α → Prop} (h : (Tr.bo t f g).wp Q) : t.wp fun r => match r with
    | .ok v h => (f v h).wp Q
    | .ex x h => (g x h).wp Q := by
  refine Tr.wp_mono ((Tr.wp_bind _ _ _).mp h) fun r q => ?_
  cases r <;> exact q
def runSl (m : Bool) (f : RunE) (lo hi : RunO) : RunE := fun ms h => (f ms h).be (fun x h1 => Tr.bo (lo ms h1) (fun l h2 => Tr.bo (hi ms h2) (fun u h3 => opSl m x l u h3) exE) exE) exE
theorem s_sl (b : Bool) {e : Expr} {lo hi : Option Expr} {pos p2 : Pos} {f : RunE} {fl fh : RunO} (he : SE T X E e f) (hl : SO T X E lo fl) (hh : SO T X E hi fh) : SE T X E (.Subscript e (.Slice lo hi none p2) pos) (runSl b f fl fh) :=
  .ofV (peI (pe_slice sl_B he.v hl hh) fun σ H Q ⟨ρ, m, h, s1, s2, w⟩ => ⟨ρ, m, h, s1, s2, Tr.wp_mono (Tr.wp_be w) fun r q => by
    cases r with
    | ex x h1 => exact q
    | ok x h1 =>
      intro ρ1 H1 v l s d
      refine ⟨ρ1, m, h1, s, s2.le l, Tr.wp_mono (Tr.wp_bo q) fun r q => ?_⟩
      cases r with
      | ex x h2 => exact exP.le l q
      | ok lo' h2 =>
        intro ρ2 H2 l2 s'
        refine ⟨ρ2, m, h2, s', s2.le (l.trans l2), Tr.wp_mono (Tr.wp_bo q) fun r q => ?_⟩
        cases r with
        | ex x h3 => exact exP.le (l.trans l2) q
        | ok hi' h3 =>
          intro ρ3 H3 l3 s''
          exact opSl_ok b ρ3 h3 H3 x v lo' hi' E m Q s'' ((d.le l2).le l3) (Tr.wp_mono q (postE.le ((l.trans l2).trans l3)))⟩) fun _ => rfl
/-- xs[::-1] -/
def opRev (m : Bool) (x : MV) (h : MH) : Tr ER := match asL h x with
  | some xs => newL m xs.reverse h
  | none => .bad
def run1 (f : RunE) (op : MV → MH → Tr ER) : RunE := fun m h => (f m h).be op exE
theorem DenL.rev {K : PySem.W.Frag} {ρ : Rho} {M : Addr → Prop} {H : Hp} : ∀ {xs : List MV} {vs : List V}, DenL T K ρ M H xs vs → DenL T K ρ M H xs.reverse vs.reverse
  | _, _, .nil => .nil
  | _, _, .cons d r => by
    rw [List.reverse_cons, List.reverse_cons]
    exact (DenL.rev r).app (.cons d .nil)
/-- one operand -/
theorem t_run1 {f : RunE} {op : MV → MH → Tr ER} {r : V → Hp → VK → Prop} (ho : ∀ ρ h H x v m E Q, SimH T X.K ρ h H → Den T X.K ρ (Mu ρ h) H x v → (op x h).wp (postE T X.K E m ρ h H Q) → r v H Q) (σ : St) (H : Hp) (Q : VK) (w : tE T X.K E (run1 f op) σ H Q) : tE T X.K E f σ H (fun v H1 => r v H1 Q) := by
  obtain ⟨ρ, m, h, s1, s2, w⟩ := w
  refine ⟨ρ, m, h, s1, s2, Tr.wp_mono (Tr.wp_be w) fun q w1 => ?_⟩
  cases q with
  | ex x h1 => exact w1
  | ok x h1 => exact fun ρ1 H1 v l s d => ho ρ1 h1 H1 x v m E Q s d (Tr.wp_mono w1 (postE.le l))
theorem s_rev (b : Bool) {e : Expr} {k : Nat} {p1 p2 p3 pos : Pos} {f : RunE} (he : SE T X E e f) : SE T X E (.Subscript e (.Slice none none (some (.UnaryOp .USub (.Constant (.int 1) k p1) p2)) p3) pos) (run1 f (opRev b)) :=
  .ofV (peI (pe_revL he.v) (t_run1 fun ρ h H x v m E Q s d w => by
    unfold opRev at w
    split at w
    · rename_i xs e1
      obtain ⟨a, vs, rfl, r, d1⟩ := den_asL s e1 d
      exact ⟨a, vs, rfl, SqL.of r, newL_ok s d1.rev w⟩
    · exact w.elim)) fun _ => rfl
/-- -a -/
def opNeg (x : MV) (h : MH) : Tr ER := match x with
  | .int i => okE (.int (-i)) h
  | _ => .bad
theorem s_neg {a : Expr} {pos : Pos} {f : RunE} (ha : SE T X E a f) : SE T X E (.UnaryOp .USub a pos) (run1 f opNeg) :=
  .ofV (peI (pe_un un_neg ha.v) (t_run1 fun ρ h H x v m E Q s d w => by
    unfold opNeg at w
    split at w
    · cases d
      exact ⟨_, rfl, post_int s w⟩
    · exact w.elim)) fun _ => rfl
end
end
end WK
set_option Elab.async false
set_option linter.all false
set_option maxRecDepth 100000
/-! calls of the text's defs, new instances, attributes -/
namespace WK
noncomputable section
open PySem L2
/-- a raised thing: its class, its own dict -/
def XDen (T : Tb) (K : PySem.W.Frag) (ρ : Rho) (M : Addr → Prop) (H : Hp) (x : MV) (cls : Value) (d : Option Addr) : Prop :=
  ∃ c fs da gs, x = .exc c fs ∧ cls = .ref (cAd T K c) ∧ d = some da ∧ ¬ M da ∧ H da = some (.xd gs) ∧ DenF T K ρ M H fs gs
/-- what is wished of a raised thing -/
def wx (T : Tb) (K : PySem.W.Frag) (E : XW) : WX := fun cls d σ H => ∃ ρ m h x, SimH T K ρ h H ∧ SimS T K ρ (Mu ρ h) H m σ ∧ XDen T K ρ (Mu ρ h) H x cls d ∧ E x m ρ h H
/-- a def's promise by its run -/
def postF (T : Tb) (K : PySem.W.Frag) (ρ : Rho) (h : MH) (H : Hp) (Q : VK) (E : XK) : ER → Prop
  | .ok x h' => ∀ ρ' H' v, Le ρ h H ρ' h' H' → SimH T K ρ' h' H' → Den T K ρ' (Mu ρ' h') H' x v → Q v H'
  | .ex x h' => ∀ ρ' H' cls d, Le ρ h H ρ' h' H' → SimH T K ρ' h' H' → XDen T K ρ' (Mu ρ' h') H' x cls d → E cls d H'
def spF (T : Tb) (K : PySem.W.Frag) (n : Nat) (run : List MV → MH → Tr ER) : Sp := fun vs H Q E => vs.length = n ∧ ∃ ρ xs h, SimH T K ρ h H ∧ DenL T K ρ (Mu ρ h) H xs vs ∧ (run xs h).wp (postF T K ρ h H Q E)
section
variable {T : Tb} {K : PySem.W.Frag} {ρ : Rho} {h : MH} {H : Hp}
theorem XDen.le {ρ' : Rho} {h' : MH} {H' : Hp} {x : MV} {cls : Value} {d : Option Addr} (l : Le ρ h H ρ' h' H') (q : XDen T K ρ (Mu ρ h) H x cls d) : XDen T K ρ' (Mu ρ' h') H' x cls d := by
  obtain ⟨c, fs, da, gs, e1, e2, e3, n, e4, e5⟩ := q
  exact ⟨c, fs, da, gs, e1, e2, e3, l.nomu e4 n, l.kp e4 n rfl, e5.le l⟩
mutual
theorem Den.sub {M M' : Addr → Prop} (k : ∀ a, M' a → M a) {ρ ρ' : Rho} (kr : ρ'.at_ = ρ.at_) (ks : ρ'.sv = ρ.sv) : ∀ {x : MV} {v : V}, Den T K ρ M H x v → Den T K ρ' M' H x v
  | _, _, .non => .non
  | _, _, .bl b => .bl b
  | _, _, .int i => .int i
  | _, _, .str x => .str x
  | _, _, .tup n r d => .tup (fun q => n (k _ q)) r (DenL.sub k kr ks d)
  | _, _, .tupK s d => .tupK s (DenL.sub k kr ks d)
  | _, _, .lst n r d => .lst (fun q => n (k _ q)) r (DenL.sub k kr ks d)
  | _, _, .ins n r d => .ins (fun q => n (k _ q)) r (DenF.sub k kr ks d)
  | _, _, .exc n r n2 r2 d => .exc (fun q => n (k _ q)) r (fun q => n2 (k _ q)) r2 (DenF.sub k kr ks d)
  | _, _, .ref r => .ref (by rw [kr]; exact r)
  | _, _, .ati r => .ati (by rw [ks]; exact r)
  | _, _, .ats r l => .ats (by rw [ks]; exact r) l
  | _, _, .dK n r d => .dK (fun q => n (k _ q)) r (DenK.sub k kr ks d)
  | _, _, .dN n r y d => .dN (fun q => n (k _ q)) r y (DenN.sub k kr ks d)
theorem DenL.sub {M M' : Addr → Prop} (k : ∀ a, M' a → M a) {ρ ρ' : Rho} (kr : ρ'.at_ = ρ.at_) (ks : ρ'.sv = ρ.sv) : ∀ {xs : List MV} {vs : List V}, DenL T K ρ M H xs vs → DenL T K ρ' M' H xs vs
  | _, _, .nil => .nil
  | _, _, .cons d r => .cons (Den.sub k kr ks d) (DenL.sub k kr ks r)
theorem DenF.sub {M M' : Addr → Prop} (k : ∀ a, M' a → M a) {ρ ρ' : Rho} (kr : ρ'.at_ = ρ.at_) (ks : ρ'.sv = ρ.sv) : ∀ {xs : List (Nat × MV)} {vs : List (Str × V)}, DenF T K ρ M H xs vs → DenF T K ρ' M' H xs vs
  | _, _, .nil => .nil
  | _, _, .cons f d r => .cons f (Den.sub k kr ks d) (DenF.sub k kr ks r)
theorem DenK.sub {M M' : Addr → Prop} (k : ∀ a, M' a → M a) {ρ ρ' : Rho} (kr : ρ'.at_ = ρ.at_) (ks : ρ'.sv = ρ.sv) : ∀ {xs : List (MV × MV)} {vs : List (Key × V)}, DenK T K ρ M H xs vs → DenK T K ρ' M' H xs vs
  | _, _, .nil => .nil
  | _, _, .consI d r => .consI (Den.sub k kr ks d) (DenK.sub k kr ks r)
  | _, _, .consS d r => .consS (Den.sub k kr ks d) (DenK.sub k kr ks r)
theorem DenN.sub {M M' : Addr → Prop} (k : ∀ a, M' a → M a) {ρ ρ' : Rho} (kr : ρ'.at_ = ρ.at_) (ks : ρ'.sv = ρ.sv) : ∀ {xs : List (MV × MV)} {vs : List (NestedKey × Addr × V)}, DenN T K ρ M H xs vs → DenN T K ρ' M' H xs vs
  | _, _, .nil => .nil
  | _, _, .cons e d1 d r => .cons e (Den.sub k kr ks d1) (Den.sub k kr ks d) (DenN.sub k kr ks r)
end
/-! ### a run in a heap of its own: nothing that may change is in its reach -/
/-- our things hidden -/
def rhoH (ρ : Rho) (h : MH) : Rho := ⟨ρ.at_, Mu ρ h, ρ.sv⟩
def emp (h : MH) : MH := ⟨h.nxt, []⟩
/-- our things back -/
def rhoB (ρ : Rho) (ρ' : Rho) : Rho := ⟨ρ'.at_, ρ.amb, ρ'.sv⟩
def bck (h h' : MH) : MH := ⟨h'.nxt, h.es⟩
theorem emp_get (h : MH) (l : Nat) : (emp h).get l = none := rfl
theorem own_emp {ρ : Rho} {a : Addr} : ¬ Own ρ (emp h) a := fun ⟨l, o, e, _⟩ => by cases e
theorem mu_hid {a : Addr} : Mu (rhoH ρ h) (emp h) a ↔ Mu ρ h a := ⟨fun m => m.elim id fun q => absurd q own_emp, .inl⟩
theorem SimH.hid (s : SimH T K ρ h H) : SimH T K (rhoH ρ h) (emp h) H :=
  ⟨s.lt, s.ltv, s.tb.mv (fun _ _ e _ => e) (fun _ _ e => e) (fun _ _ _ m q => m (mu_hid.mp q)), (fun l l' o o' a e => by cases e), (fun l o e => by cases e), fun a m => s.at m, fun a m => absurd m own_emp⟩
theorem DenL.hid {xs : List MV} {vs : List V} (d : DenL T K ρ (Mu ρ h) H xs vs) : DenL T K (rhoH ρ h) (Mu (rhoH ρ h) (emp h)) H xs vs := DenL.sub (ρ := ρ) (ρ' := rhoH ρ h) (fun a m => mu_hid.mp m) rfl rfl d
section
variable {ρ' : Rho} {h' : MH} {H' : Hp}
theorem own_bck (s : SimH T K ρ h H) (l : Le (rhoH ρ h) (emp h) H ρ' h' H') {a : Addr} (m : Own (rhoB ρ ρ') (bck h h') a) : Own ρ h a := by
  obtain ⟨k, o, e, r⟩ := m
  have e' : h.get k = some o := e
  obtain ⟨b, rb, _⟩ := s.ob k o e'
  have r2 := l.ext k b rb
  have r' : ρ'.at_ k = some a := r
  rw [r2] at r'; cases r'
  exact ⟨k, o, e', rb⟩
theorem Le.bck (s : SimH T K ρ h H) (l : Le (rhoH ρ h) (emp h) H ρ' h' H') : Le ρ h H (rhoB ρ ρ') (WK.bck h h') H' :=
  ⟨l.ext, l.exv, l.nxt, fun _ m => m, fun _ m => .inl m, fun a m => .inl (own_bck s l m), fun a o e _ t => l.keep a o e own_emp t, l.live⟩
theorem mu_bck (s : SimH T K ρ h H) (l : Le (rhoH ρ h) (emp h) H ρ' h' H') {a : Addr} (m : Mu (rhoB ρ ρ') (bck h h') a) : Mu ρ' h' a := by
  refine .inl (l.amb a ?_)
  rcases m with m | m
  · exact .inl m
  · exact .inr (own_bck s l m)
theorem SimH.bck (s : SimH T K ρ h H) (l : Le (rhoH ρ h) (emp h) H ρ' h' H') (s' : SimH T K ρ' h' H') : SimH T K (rhoB ρ ρ') (WK.bck h h') H' where
  lt := s'.lt
  ltv := s'.ltv
  tb := s'.tb.mv (fun _ _ e _ => e) (fun _ _ e => e) (fun _ _ _ m q => m (mu_bck s l q))
  inj := fun k k' o o' a e e' r r' => by
    obtain ⟨b, rb, _⟩ := s.ob k o e
    obtain ⟨b', rb', _⟩ := s.ob k' o' e'
    have q : ρ'.at_ k = some a := r
    have q' : ρ'.at_ k' = some a := r'
    rw [l.ext k b rb] at q; cases q
    rw [l.ext k' b' rb'] at q'; cases q'
    exact s.inj k k' o o' _ e e' rb rb'
  ob := fun k o e => by
    obtain ⟨a, r, q⟩ := s.ob k o e
    exact ⟨a, l.ext k a r, q.le (Le.bck s l) fun u t z => l.keep a u z own_emp t⟩
  am := fun a m => by
    obtain ⟨o, e⟩ := s.am a m
    exact l.live a o e
  dis := fun a m => s.dis a (own_bck s l m)
theorem Den.bck (s : SimH T K ρ h H) (l : Le (rhoH ρ h) (emp h) H ρ' h' H') {x : MV} {v : V} (d : Den T K ρ' (Mu ρ' h') H' x v) : Den T K (rhoB ρ ρ') (Mu (rhoB ρ ρ') (WK.bck h h')) H' x v := Den.sub (ρ := ρ') (ρ' := rhoB ρ ρ') (fun a m => mu_bck s l m) rfl rfl d
theorem XDen.bck (s : SimH T K ρ h H) (l : Le (rhoH ρ h) (emp h) H ρ' h' H') {x : MV} {cls : Value} {d : Option Addr} (q : XDen T K ρ' (Mu ρ' h') H' x cls d) : XDen T K (rhoB ρ ρ') (Mu (rhoB ρ ρ') (WK.bck h h')) H' x cls d := by
  obtain ⟨c, fs, da, gs, e1, e2, e3, n, e4, e5⟩ := q
  exact ⟨c, fs, da, gs, e1, e2, e3, fun m => n (mu_bck s l m), e4, DenF.sub (ρ := ρ') (ρ' := rhoB ρ ρ') (fun a m => mu_bck s l m) rfl rfl e5⟩
end
end
/-- a call: in a heap of its own, or in ours -/
def callP (pur : Bool) (run : List MV → MH → Tr ER) (xs : List MV) (h : MH) : Tr ER := match pur with
  | true => (run xs (emp h)).be (fun v h' => okE v (bck h h')) fun x h' => exE x (bck h h')
  | false => run xs h
section
variable {T : Tb} {X : Cx} {E : XW}
/-- the promise from what is wished here -/
theorem spF_of {n : Nat} {pur : Bool} {run : List MV → MH → Tr ER} {ρ : Rho} {m : MS} {h : MH} {H : Hp} {σ : St} {xs : List MV} {vs : List V} {Q : VK} (s : SimH T X.K ρ h H) (s2 : SimS T X.K ρ (Mu ρ h) H m σ) (d : DenL T X.K ρ (Mu ρ h) H xs vs) (hn : vs.length = n)
    (w : (callP pur run xs h).wp (postE T X.K E m ρ h H Q)) : spF T X.K n run vs H Q (fun cls d H' => wx T X.K E cls d σ H') := by
  refine ⟨hn, ?_⟩
  cases pur with
  | false =>
    refine ⟨ρ, xs, h, s, d, Tr.wp_mono w fun r q => ?_⟩
    cases r with
    | ok x h' => exact q
    | ex x h' => exact fun ρ' H' cls da l s' xd => ⟨ρ', m, h', x, s', s2.le l, xd, q ρ' H' l s'⟩
  | true =>
    refine ⟨rhoH ρ h, xs, emp h, s.hid, d.hid, Tr.wp_mono (Tr.wp_be w) fun r q => ?_⟩
    cases r with
    | ok x h' => exact fun ρ' H' v l s' dx => q _ H' v (l.bck s) (s.bck l s') (dx.bck s l)
    | ex x h' => exact fun ρ' H' cls da l s' xd => ⟨_, m, _, x, s.bck l s', s2.le (l.bck s), xd.bck s l, q _ H' (l.bck s) (s.bck l s')⟩
theorem passes_wx (tk : Takes X (wx T X.K E)) (σ : St) : PassesAt (L2.CX X.prog X.w) X σ (fun cls d H' => wx T X.K E cls d σ H') := fun pins H s e s' I c => tk e s' (XE.of_call I (fun cls d H' q => q) c)
/-- defaults -/
def runF (pur : Bool) (dfl : List MV) (run : List MV → MH → Tr ER) (xs : List MV) (h : MH) : Tr ER := callP pur run (xs ++ dfl) h
theorem denL_sc {K : PySem.W.Frag} {ρ : Rho} {M : Addr → Prop} {H : Hp} : ∀ {xs : List MV}, xs.all scM = true → DenL T K ρ M H xs (xs.map scV)
  | [], _ => .nil
  | x :: r, h => by
    obtain ⟨h1, h2⟩ := Bool.and_eq_true_iff.mp (show (scM x && r.all scM) = true from h)
    refine .cons ?_ (denL_sc h2)
    cases x <;> first | exact .non | exact .bl _ | exact .int _ | exact .str _ | cases h1
/-- f(e, ..) -/
theorem s_call {d : Nat} {f : Addr} {fd : FuncData} {ps : List Str} {run : List MV → MH → Tr ER} {ds : List Value} {dfl : List MV} {pur : Bool} {x : Str} {e : Expr} {es : List Expr} {p pos : Pos} {g : RunL} (tk : Takes X (wx T X.K E)) (F : FnOk X.prog X.w X.K X.mg X.base (L2.CX X.prog X.w) d f fd ps (spF T X.K ps.length run)) (hr : Room d X.A)
    (hg : Gl X x) (hm : X.mg x = some (.ref f)) (hk : PySem.W.keepIn X.K (.ref f) = true) (hb : Binds X.K fd ps ds) (hdf : dfl.all scM = true) (hd : Vals (dfl.map scV) ds) (ha : SA T X E (e :: es) g) (hl : (e :: es).length + dfl.length = ps.length) (hx : (x == ("__debug__" : Str)) = false) :
    SE T X E (.Call (.Name x p) (e :: es) [] pos) (runArgs g (runF pur dfl run)) := by
  have hns : notStar e = true ∧ es.all notStar = true := Bool.and_eq_true_iff.mp ha.ns
  refine .ofV (peI (pe_callSD (E := fun σ cls d H' => wx T X.K E cls d σ H') F hr hg hm hk hb hd (passes_wx tk) ha.a hx (star_cons hns.1) (by rw [backTo_any]; exact star_all hns.2)) fun σ H Q ⟨ρ, m, h, s1, s2, w⟩ => ⟨ρ, m, h, s1, s2, Tr.wp_mono (ha.n m h _ (Tr.wp_bl w)) fun r q => ?_⟩) fun _ => rfl
  obtain ⟨q, hn⟩ := q
  cases r with
  | ex x h1 => exact q
  | ok xs h1 =>
    intro ρ1 H1 vs l s dd
    refine spF_of (pur := pur) s (s2.le l) (dd.app (denL_sc hdf)) ?_ (Tr.wp_mono q (postE.le l))
    rw [List.length_append, List.length_map, ← dd.length, hn xs h1 rfl]
    exact hl
end
end
end WK
set_option Elab.async false
set_option linter.all false
set_option maxRecDepth 100000
/-! statements -/
namespace WK
noncomputable section
open PySem L2
abbrev RunS := MS → MH → Tr SR
def postS (T : Tb) (K : PySem.W.Frag) (E : XW) (ρ : Rho) (h : MH) (H : Hp) (D : Ends) : SR → Prop
  | .nx m' h' => ∀ ρ' H' σ', Le ρ h H ρ' h' H' → SimH T K ρ' h' H' → SimS T K ρ' (Mu ρ' h') H' m' σ' → D.nx σ' H'
  | .bk m' h' => ∀ ρ' H' σ', Le ρ h H ρ' h' H' → SimH T K ρ' h' H' → SimS T K ρ' (Mu ρ' h') H' m' σ' → D.bk σ' H'
  | .ct m' h' => ∀ ρ' H' σ', Le ρ h H ρ' h' H' → SimH T K ρ' h' H' → SimS T K ρ' (Mu ρ' h') H' m' σ' → D.ct σ' H'
  | .rt x h' => ∀ ρ' H' v, Le ρ h H ρ' h' H' → SimH T K ρ' h' H' → Den T K ρ' (Mu ρ' h') H' x v → D.rt v H'
  | .ex x m' h' => exP T K E m' ρ h H x h'
def tS (T : Tb) (K : PySem.W.Frag) (E : XW) (f : RunS) : TS := fun D σ H => ∃ ρ m h, SimH T K ρ h H ∧ SimS T K ρ (Mu ρ h) H m σ ∧ (f m h).wp (postS T K E ρ h H D)
theorem postS.le {T : Tb} {K : PySem.W.Frag} {E : XW} {ρ ρ' : Rho} {h h' : MH} {H H' : Hp} {D : Ends} (l : Le ρ h H ρ' h' H') : ∀ r, postS T K E ρ h H D r → postS T K E ρ' h' H' D r
  | .nx _ _, w => fun ρ2 H2 v l2 s d => w ρ2 H2 v (l.trans l2) s d
  | .bk _ _, w => fun ρ2 H2 v l2 s d => w ρ2 H2 v (l.trans l2) s d
  | .ct _ _, w => fun ρ2 H2 v l2 s d => w ρ2 H2 v (l.trans l2) s d
  | .rt _ _, w => fun ρ2 H2 v l2 s d => w ρ2 H2 v (l.trans l2) s d
  | .ex _ _ _, w => exP.le l w
def exS (m : MS) (x : MV) (h : MH) : Tr SR := .ret (.ex x m h)
def nxS (m : MS) (h : MH) : Tr SR := .ret (.nx m h)
section
variable {T : Tb} {X : Cx} {E : XW}
def SS (T : Tb) (X : Cx) (E : XW) (st : Stmt) (f : RunS) : Prop := PS X st (tS T X.K E f)
def SSs (T : Tb) (X : Cx) (E : XW) (st : List Stmt) (f : RunS) : Prop := PSs X st (tS T X.K E f)
def runSeq (f g : RunS) : RunS := fun m h => (f m h).bind fun r => SR.rec (motive := fun _ => Tr SR) (fun m1 h1 => g m1 h1) (fun m2 h2 => .ret (.bk m2 h2)) (fun m2 h2 => .ret (.ct m2 h2)) (fun v h2 => .ret (.rt v h2)) (fun x m2 h2 => .ret (.ex x m2 h2)) r
theorem ss_nil : SSs T X E [] nxS := pssI pss_nil fun D σ H ⟨ρ, m, h, s1, s2, w⟩ => w ρ H σ Le.refl s1 s2
theorem ss_cons {st : Stmt} {rest : List Stmt} {f g : RunS} (hf : SS T X E st f) (hg : SSs T X E rest g) : SSs T X E (st :: rest) (runSeq f g) :=
  pssI (pss_cons hf hg) fun D σ H ⟨ρ, m, h, s1, s2, w⟩ => ⟨ρ, m, h, s1, s2, Tr.wp_mono ((Tr.wp_bind _ _ _).mp w) fun r q => by
    cases r with
    | nx m1 h1 => exact fun ρ1 H1 σ1 l s d => ⟨ρ1, m1, h1, s, d, Tr.wp_mono q (postS.le l)⟩
    | bk _ _ => exact q
    | ct _ _ => exact q
    | rt _ _ => exact q
    | ex _ _ _ => exact q⟩
theorem ss_one {st : Stmt} {f : RunS} (hf : SS T X E st f) : SSs T X E [st] f := pss_one hf
theorem s_pass {pos : Pos} : SS T X E (.Pass pos) nxS := psI ps_pass fun D σ H ⟨ρ, m, h, s1, s2, w⟩ => w ρ H σ Le.refl s1 s2
theorem s_brk {pos : Pos} : SS T X E (.Break pos) (fun m h => .ret (.bk m h)) := psI ps_break fun D σ H ⟨ρ, m, h, s1, s2, w⟩ => w ρ H σ Le.refl s1 s2
theorem s_cont {pos : Pos} : SS T X E (.Continue pos) (fun m h => .ret (.ct m h)) := psI ps_continue fun D σ H ⟨ρ, m, h, s1, s2, w⟩ => w ρ H σ Le.refl s1 s2
theorem s_doc {x : Str} {j : Nat} {pos pos' : Pos} : SS T X E (.Expr (.Constant (.str x) j pos) pos') nxS := psI ps_doc fun D σ H ⟨ρ, m, h, s1, s2, w⟩ => w ρ H σ Le.refl s1 s2
def runDrop (f : RunE) : RunS := fun m h => (f m h).be (fun _ h1 => nxS m h1) (exS m)
theorem s_expr {e : Expr} {pos : Pos} {f : RunE} (he : SE T X E e f) (hs : swapsWith e none pos.line X.env = pure false) : SS T X E (.Expr e pos) (runDrop f) :=
  psI (ps_expr he.v hs) fun D σ H ⟨ρ, m, h, s1, s2, w⟩ => ⟨ρ, m, h, s1, s2, Tr.wp_mono (Tr.wp_be w) fun r q => by
    cases r with
    | ex x h1 => exact q
    | ok x h1 => exact fun ρ1 H1 v l s d => q ρ1 H1 σ l s (s2.le l)⟩
def runRet (f : RunE) : RunS := fun m h => (f m h).be (fun v h1 => .ret (.rt v h1)) (exS m)
theorem s_ret {e : Expr} {pos : Pos} {f : RunE} (he : SE T X E e f) : SS T X E (.Return (some e) pos) (runRet f) :=
  psI (ps_ret he.v) fun D σ H ⟨ρ, m, h, s1, s2, w⟩ => ⟨ρ, m, h, s1, s2, Tr.wp_mono (Tr.wp_be w) fun r q => by
    cases r with
    | ex x h1 => exact q
    | ok x h1 => exact fun ρ1 H1 v l s d => q ρ1 H1 v l s d⟩
theorem s_retN {pos : Pos} : SS T X E (.Return none pos) (fun _ h => .ret (.rt .non h)) := psI ps_retN fun D σ H ⟨ρ, m, h, s1, s2, w⟩ => w ρ H .non Le.refl s1 .non
def runIf (c : RunE) (f g : RunS) : RunS := fun m h => (c m h).be (fun x h1 => br h1 x (f m h1) (g m h1)) (exS m)
/-- a test's run as a reading -/
theorem t_test {c : RunE} {ρ : Rho} {m : MS} {h : MH} {H : Hp} {f : MH → Tr SR} {g : MH → Tr SR} {D : Ends} {Q : Bool → Hp → Prop}
    (w : ((c m h).be (fun x h1 => br h1 x (f h1) (g h1)) (exS m)).wp (postS T X.K E ρ h H D))
    (ht : ∀ ρ1 H1 h1, Le ρ h H ρ1 h1 H1 → SimH T X.K ρ1 h1 H1 → (f h1).wp (postS T X.K E ρ h H D) → Q true H1)
    (hf : ∀ ρ1 H1 h1, Le ρ h H ρ1 h1 H1 → SimH T X.K ρ1 h1 H1 → (g h1).wp (postS T X.K E ρ h H D) → Q false H1) : (c m h).wp (postT T X.K E m ρ h H Q) := by
  refine Tr.wp_mono (Tr.wp_be w) fun r q => ?_
  cases r with
  | ex x h1 => exact q
  | ok x h1 =>
    cases e : tru h1 x with
    | none => simp only [br_eq, e] at q; exact q.elim
    | some b =>
      refine ⟨b, e, fun ρ1 H1 l s => ?_⟩
      cases b with
      | true => simp only [br_eq, e] at q; exact ht ρ1 H1 h1 l s q
      | false => simp only [br_eq, e] at q; exact hf ρ1 H1 h1 l s q
theorem s_if {c : Expr} {a b : List Stmt} {pos : Pos} {k : RunE} {f g : RunS} (hc : SE T X E c k) (ha : SSs T X E a f) (hb : SSs T X E b g) : SS T X E (.If c a b pos) (runIf k f g) :=
  psI (ps_if hc.t ha hb) fun D σ H ⟨ρ, m, h, s1, s2, w⟩ => ⟨ρ, m, h, s1, s2, t_test (X := X) w
    (fun ρ1 H1 h1 l s q => by rw [if_pos rfl]; exact ⟨ρ1, m, h1, s, s2.le l, Tr.wp_mono q (postS.le l)⟩)
    fun ρ1 H1 h1 l s q => by rw [if_neg Bool.false_ne_true]; exact ⟨ρ1, m, h1, s, s2.le l, Tr.wp_mono q (postS.le l)⟩⟩
/-! ### targets -/
inductive GR where
  | ok (m : MS) (h : MH) | ex (x : MV) (m : MS) (h : MH)
abbrev RunG := MV → MS → MH → Tr GR
def postG (T : Tb) (K : PySem.W.Frag) (E : XW) (ρ : Rho) (h : MH) (H : Hp) (Q : St → Hp → Prop) : GR → Prop
  | .ok m' h' => ∀ ρ' H' σ', Le ρ h H ρ' h' H' → SimH T K ρ' h' H' → SimS T K ρ' (Mu ρ' h') H' m' σ' → Q σ' H'
  | .ex x m' h' => exP T K E m' ρ h H x h'
def tG (T : Tb) (K : PySem.W.Frag) (E : XW) (g : RunG) : TG := fun v σ H Q => ∃ ρ m h x, SimH T K ρ h H ∧ SimS T K ρ (Mu ρ h) H m σ ∧ Den T K ρ (Mu ρ h) H x v ∧ (g x m h).wp (postG T K E ρ h H Q)
theorem postG.le {K : PySem.W.Frag} {ρ ρ' : Rho} {h h' : MH} {H H' : Hp} {Q : St → Hp → Prop} (l : Le ρ h H ρ' h' H') : ∀ r, postG T K E ρ h H Q r → postG T K E ρ' h' H' Q r
  | .ok _ _, w => fun ρ2 H2 v l2 s d => w ρ2 H2 v (l.trans l2) s d
  | .ex _ _ _, w => exP.le l w
theorem pgI {X : Cx} {e : Expr} {t t' : TG} (p : PG X e t) (h : ∀ v σ H Q, t' v σ H Q → t v σ H Q) : PG X e t' := ⟨fun pins s σ H v u Q I r q => p.run pins s σ H v u Q I r (h v σ H Q q)⟩
def SG (T : Tb) (X : Cx) (E : XW) (e : Expr) (g : RunG) : Prop := PG X e (tG T X.K E g)
def Tr.bg {α : Type} (t : Tr GR) (f : MS → MH → Tr α) (g : MV → MS → MH → Tr α) : Tr α := t.bind fun r => GR.rec (motive := fun _ => Tr α) f g r
theorem Tr.wp_bg {α : Type} {t : Tr GR} {f : MS → MH → Tr α} {g : MV → MS → MH → Tr α} {Q : α → Prop} (h : (Tr.bg t f g).wp Q) : t.wp fun r => match r with
    | .ok m h => (f m h).wp Q
    | .ex x m h => (g x m h).wp Q := by
  refine Tr.wp_mono ((Tr.wp_bind _ _ _).mp h) fun r q => ?_
  cases r <;> exact q
def setS (m : MS) (i : Nat) (v : MV) : MS := List.rec (motive := fun _ => Nat → MS) (fun _ => []) (fun x r ih i => Nat.rec (motive := fun _ => MS) (some v :: r) (fun j _ => x :: ih j) i) m i
theorem setS_eq : ∀ (m : MS) (i : Nat) (v : MV), setS m i v = m.set i (some v)
  | [], _, _ => rfl
  | _ :: _, 0, _ => rfl
  | x :: r, i + 1, v => congrArg (x :: ·) (setS_eq r i v)
theorem SimS.set {K : PySem.W.Frag} {ρ : Rho} {M : Addr → Prop} {H : Hp} {m : MS} {σ : St} {x : MV} {v : V} (s : SimS T K ρ M H m σ) (i : Nat) (d : Den T K ρ M H x v) : SimS T K ρ M H (setS m i x) (σ.set i (some v)) where
  len := by rw [setS_eq, List.length_set, List.length_set]; exact s.len
  at_ := fun j y e => by
    rw [setS_eq] at e
    by_cases q : i = j
    · subst q
      rw [List.getElem?_set_self'] at e
      rw [List.getElem?_set_self']
      cases e1 : m[i]? with
      | none => rw [e1] at e; cases e
      | some u =>
        rw [e1] at e; cases e
        have h1 : i < m.length := (List.getElem?_eq_some_iff.mp e1).1
        have h2 : i < σ.length := s.len ▸ h1
        rw [List.getElem?_eq_getElem h2]
        exact ⟨v, rfl, d⟩
    · rw [List.getElem?_set_ne q] at e
      rw [List.getElem?_set_ne q]
      exact s.at_ j y e
def gNm (i : Nat) : RunG := fun x m h => .ret (.ok (setS m i x) h)
theorem g_name {i : Nat} {x : Str} {pos : Pos} (hN : X.N.Nodup) (hi : X.N[i]? = some x) (hx : Loc X.env.scope x) (hf : X.fn x = true ∨ X.env.scope.names.lookup x = some .local) : SG T X E (.Name x pos) (gNm i) :=
  pgI (pg_name hN hi hx hf) fun v σ H Q ⟨ρ, m, h, x, s1, s2, d, w⟩ => w ρ H _ Le.refl s1 (s2.set i d)
abbrev RunGs := List MV → MS → MH → Tr GR
def tGs (T : Tb) (K : PySem.W.Frag) (E : XW) (g : RunGs) : TGs := fun vs σ H Q => ∃ ρ m h xs, SimH T K ρ h H ∧ SimS T K ρ (Mu ρ h) H m σ ∧ DenL T K ρ (Mu ρ h) H xs vs ∧ (g xs m h).wp (postG T K E ρ h H Q)
theorem pgsI {X : Cx} {e : List Expr} {t t' : TGs} (p : PGs X e t) (h : ∀ v σ H Q, t' v σ H Q → t v σ H Q) : PGs X e t' := ⟨fun pins s σ H v u Q I r q => p.run pins s σ H v u Q I r (h v σ H Q q)⟩
def SGs (T : Tb) (X : Cx) (E : XW) (e : List Expr) (g : RunGs) : Prop := PGs X e (tGs T X.K E g)
def gsNil : RunGs := fun xs m h => match xs with
  | [] => .ret (.ok m h)
  | _ => .bad
def gsCons (f : RunG) (g : RunGs) : RunGs := fun xs m h => match xs with
  | x :: r => Tr.bg (f x m h) (fun m1 h1 => g r m1 h1) (fun x m h => .ret (.ex x m h))
  | [] => .bad
theorem gs_nil : SGs T X E [] gsNil := pgsI pgs_nil fun v σ H Q ⟨ρ, m, h, xs, s1, s2, d, w⟩ => by
  cases d with
  | nil => exact ⟨rfl, w ρ H σ Le.refl s1 s2⟩
  | cons _ _ => exact w.elim
theorem gs_cons {e : Expr} {es : List Expr} {f : RunG} {g : RunGs} (h1 : SG T X E e f) (h2 : SGs T X E es g) (hs : (assignEach (e :: es) X.env).map (·.2) = assign e X.env :: (assignEach es X.env).map (·.2)) : SGs T X E (e :: es) (gsCons f g) :=
  pgsI (pgs_cons h1 h2 hs) fun v σ H Q ⟨ρ, m, h, xs, s1, s2, d, w⟩ => by
    cases d with
    | nil => exact w.elim
    | cons d1 d2 =>
      refine ⟨_, _, rfl, ρ, m, h, _, s1, s2, d1, Tr.wp_mono (Tr.wp_bg w) fun r q => ?_⟩
      cases r with
      | ex x m1 h1 => exact q
      | ok m1 h1 => exact fun ρ1 H1 σ1 l s t => ⟨ρ1, m1, h1, _, s, t, d2.le l, Tr.wp_mono q (postG.le l)⟩
def gTp (n : Nat) (g : RunGs) : RunG := fun x m h => match x with
  | .tup xs => ifT (Nat.beq xs.length n) (g xs m h)
  | _ => .bad
theorem g_tup {es : List Expr} {k : Nat} {pos : Pos} {n : Nat} {g : RunGs} (hc : X.calm = true) (h : SGs T X E es g) (hn : (assignEach es X.env).length = n) (hst : (assignEach es X.env).findIdx? (·.1) = none) : SG T X E (.Tuple es k pos) (gTp n g) :=
  pgI (pg_tup hc h hn hst) fun v σ H Q ⟨ρ, m, h, x, s1, s2, d, w⟩ => by
    unfold gTp at w
    split at w
    · obtain ⟨c, w⟩ := ifT_wp w
      obtain ⟨a, vs, rfl, r, d1⟩ := den_tup d
      exact ⟨a, vs, rfl, r, by rw [← d1.length]; exact Nat.eq_of_beq_eq_true c, ρ, m, h, _, s1, s2, d1, w⟩
    · exact w.elim
def toS (t : Tr GR) : Tr SR := t.bind fun r => match r with
  | .ok m h => .ret (.nx m h)
  | .ex x m h => .ret (.ex x m h)
theorem toS_wp {t : Tr GR} {K : PySem.W.Frag} {ρ : Rho} {h : MH} {H : Hp} {D : Ends} (w : (toS t).wp (postS T K E ρ h H D)) : t.wp (postG T K E ρ h H D.nx) := by
  refine Tr.wp_mono ((Tr.wp_bind _ _ _).mp w) fun r q => ?_
  cases r <;> exact q
def runAsg (f : RunE) (g : RunG) : RunS := fun m h => (f m h).be (fun x h1 => toS (g x m h1)) (exS m)
theorem t_asg {f : RunE} {g : RunG} (D : Ends) (σ : St) (H : Hp) (w : tS T X.K E (runAsg f g) D σ H) : tAsg (tE T X.K E f) (tG T X.K E g) D σ H := by
  obtain ⟨ρ, m, h, s1, s2, w⟩ := w
  refine ⟨ρ, m, h, s1, s2, Tr.wp_mono (Tr.wp_be w) fun r q => ?_⟩
  cases r with
  | ex x h1 => exact q
  | ok x h1 => exact fun ρ1 H1 v l s d => ⟨ρ1, m, h1, x, s, s2.le l, d, toS_wp (Tr.wp_mono q (postS.le l))⟩
theorem s_asg {tg e : Expr} {pos : Pos} {f : RunE} {g : RunG} (he : SE T X E e f) (hg : SG T X E tg g) (hs : swapsWithSole [tg] e pos.line X.env = pure false) (hw : swappedStores [tg] e X.env = pure none)
    (h1 : (assignEach [tg] X.env).map (·.2) = [assign tg X.env]) : SS T X E (.Assign [tg] e pos) (runAsg f g) := psI (ps_asg he.v hg hs hw h1) t_asg
theorem s_set {i : Nat} {x : Str} {e : Expr} {pos pos' : Pos} {f : RunE} (hN : X.N.Nodup) (hi : X.N[i]? = some x) (hx : Loc X.env.scope x) (he : SE T X E e f) (hs : swapsWith e (some (.Name x pos')) pos.line X.env = pure false) (hf : X.fn x = true ∨ X.env.scope.names.lookup x = some .local) :
    SS T X E (.Assign [.Name x pos'] e pos) (runAsg f (gNm i)) :=
  psI (ps_set hN hi hx he.v hs hf) fun D σ H w => by
    obtain ⟨ρ, m, h, s1, s2, w⟩ := w
    refine ⟨ρ, m, h, s1, s2, Tr.wp_mono (Tr.wp_be w) fun r q => ?_⟩
    cases r with
    | ex x h1 => exact q
    | ok x h1 => exact fun ρ1 H1 v l s d => q ρ1 H1 _ l s ((s2.le l).set i d)
/-- a, b = e, e -/
def runPar (i j : Nat) (f : RunL) : RunS := fun m h => Tr.bl (f m h) (fun xs h1 => match xs with
  | [x, y] => nxS (setS (setS m i x) j y) h1
  | _ => .bad) (exS m)
theorem s_par {i j : Nat} {x y : Str} {a b : Expr} {f : RunL} {px py pt pos : Pos} {kt k2 : Nat} {pt2 : Pos} (hc : X.calm = true) (hN : X.N.Nodup) (hi : X.N[i]? = some x) (hj : X.N[j]? = some y) (hij : i ≠ j)
    (hx : X.env.scope.names.lookup x = some .local) (hy : X.env.scope.names.lookup y = some .local) (ha : SA T X E [a, b] f)
    (hw : swappedStores [.Tuple [.Name x px, .Name y py] kt pt] (.Tuple [a, b] k2 pt2) X.env = pure (some [x, y])) (hs : swapsWithSole [.Tuple [.Name x px, .Name y py] kt pt] (.Tuple [a, b] k2 pt2) pos.line X.env = pure false) :
    SS T X E (.Assign [.Tuple [.Name x px, .Name y py] kt pt] (.Tuple [a, b] k2 pt2) pos) (runPar i j f) :=
  psI (ps_par hc hN hi hj hij hx hy ha.a hw hs) fun D σ H ⟨ρ, m, h, s1, s2, w⟩ => ⟨ρ, m, h, s1, s2, Tr.wp_mono (Tr.wp_bl w) fun r q => by
    cases r with
    | ex x h1 => exact q
    | ok xs h1 =>
      intro ρ1 H1 vs l s d
      cases d with
      | nil => exact q.elim
      | cons d1 d =>
        cases d with
        | nil => exact q.elim
        | cons d2 d =>
          cases d with
          | cons _ _ => exact q.elim
          | nil => exact ⟨_, _, rfl, q ρ1 H1 _ l s (((s2.le l).set i d1).set j d2)⟩⟩
/-- name op= e -/
def runAug (i : Nat) (f : RunE) (op : MV → MV → MH → Tr ER) : RunS := fun m h => match getS m i with
  | some x => (f m h).be (fun y h1 => (op x y h1).be (fun z h2 => nxS (setS m i z) h2) (exS m)) (exS m)
  | none => .bad
def IpS (T : Tb) (X : Cx) (r : TIp) (op : MV → MV → MH → Tr ER) : Prop := ∀ ρ h H x y v u E m Q, SimH T X.K ρ h H → Den T X.K ρ (Mu ρ h) H x v → Den T X.K ρ (Mu ρ h) H y u → (op x y h).wp (postE T X.K E m ρ h H Q) → r v u H Q
theorem s_aug {i : Nat} {x : Str} {e : Expr} {op : Operator} {r : TIp} {o : MV → MV → MH → Tr ER} {pos pos' : Pos} {f : RunE} (hN : X.N.Nodup) (hi : X.N[i]? = some x) (hx : Loc X.env.scope x) (he : SE T X E e f) (ho : PIp X op r) (hr : IpS T X r o) (hf : X.fn x = true ∨ X.env.scope.names.lookup x = some .local) :
    SS T X E (.AugAssign (.Name x pos') op e pos) (runAug i f o) :=
  psI (ps_aug hN hi hx he.v ho hf) fun D σ H ⟨ρ, m, h, s1, s2, w⟩ => by
    unfold runAug at w
    split at w
    · rename_i x q
      obtain ⟨v, e, d⟩ := s2.at_ i x (getS_ok q)
      refine ⟨v, e, ρ, m, h, s1, s2, Tr.wp_mono (Tr.wp_be w) fun r q => ?_⟩
      cases r with
      | ex x h1 => exact q
      | ok y h1 =>
        intro ρ1 H1 u l s du
        refine hr ρ1 h1 H1 x y v u E m _ s (d.le l) du (Tr.wp_mono (Tr.wp_be q) fun r q => ?_)
        cases r with
        | ex x h2 => exact exP.le l q
        | ok z h2 => exact fun ρ2 H2 t l2 s' dz => q ρ2 H2 _ (l.trans l2) s' ((s2.le (l.trans l2)).set i dz)
    · exact w.elim
def ipInt (p : Int → Int → Int) (x y : MV) (h : MH) : Tr ER := match x, y with
  | .int i, .int j => okE (.int (p i j)) h
  | _, _ => .bad
theorem ipInt_ok (p : Int → Int → Int) : IpS T X (ipI p) (ipInt p) := fun ρ h H x y v u E m Q s dx dy w => by
  unfold ipInt at w
  split at w
  · cases dx; cases dy
    exact ⟨_, _, rfl, rfl, post_int s w⟩
  · exact w.elim
/-! ### while -/
def runWh (c : RunE) (b : RunS) (n : Nat) : RunS := Nat.rec (motive := fun _ => RunS) (fun _ _ => .bad) (fun _ ih m h => (c m h).be (fun x h1 => br h1 x ((b m h1).bind fun r => SR.rec (motive := fun _ => Tr SR) (fun m2 h2 => ih m2 h2) (fun m2 h2 => nxS m2 h2) (fun m2 h2 => ih m2 h2) (fun v h2 => .ret (.rt v h2)) (fun x m2 h2 => .ret (.ex x m2 h2)) r) (nxS m h1)) (exS m)) n
theorem s_while {c : Expr} {body : List Stmt} {pos : Pos} {k : RunE} {f : RunS} (n : Nat) (hp : PassesOwn (model X.prog X.w) X.A X.env X.xe) (hc : SE T X E c k) (hb : SSs T X E body f) : SS T X E (.While c body [] pos) (runWh k f n) :=
  psI (ps_while hp hc.t hb) fun D σ H ⟨ρ, m, h, s1, s2, w⟩ => by
    refine ⟨fun n σ H => ∃ ρ m h, SimH T X.K ρ h H ∧ SimS T X.K ρ (Mu ρ h) H m σ ∧ (runWh k f n m h).wp (postS T X.K E ρ h H D), ⟨n, ρ, m, h, s1, s2, w⟩, ?_⟩
    rintro n2 σ2 H2 ⟨ρ, m, h, s1, s2, w⟩
    cases n2 with
    | zero => exact w.elim
    | succ n =>
      refine ⟨ρ, m, h, s1, s2, t_test (X := X) (D := D) w (fun ρ1 H1 h1 l s q => ?_) fun ρ1 H1 h1 l s q => ?_⟩
      · rw [if_pos rfl]
        refine ⟨fun σ H => ∃ ρ m h, SimH T X.K ρ h H ∧ SimS T X.K ρ (Mu ρ h) H m σ ∧ (runWh k f n m h).wp (postS T X.K E ρ h H D), fun σ' H' z => ⟨n, Nat.lt_succ_self n, z⟩, ρ1, m, h1, s, s2.le l, Tr.wp_mono ((Tr.wp_bind _ _ _).mp q) fun r q => ?_⟩
        cases r with
        | nx m2 h2 => exact fun ρ2 H2 σ2 l2 s' t => ⟨ρ2, m2, h2, s', t, Tr.wp_mono q (postS.le (l.trans l2))⟩
        | ct m2 h2 => exact fun ρ2 H2 σ2 l2 s' t => ⟨ρ2, m2, h2, s', t, Tr.wp_mono q (postS.le (l.trans l2))⟩
        | bk m2 h2 => exact fun ρ2 H2 σ2 l2 s' t => q ρ2 H2 σ2 (l.trans l2) s' t
        | rt v h2 => exact postS.le l (.rt v h2) q
        | ex x m2 h2 => exact exP.le l q
      · rw [if_neg Bool.false_ne_true]
        exact q ρ1 H1 σ2 l s (s2.le l)
end
end
end WK
set_option Elab.async false
set_option linter.all false
set_option maxRecDepth 100000
/-! the heap's changes, walks, for, comprehensions -/
namespace WK
noncomputable section
open PySem L2
open NdefX (NTab TabN TabsN)
/-! ### a labelled thing changes, is let go -/
section
variable {T : Tb} {K : PySem.W.Frag} {ρ : Rho} {h : MH} {H : Hp}
theorem getL_set (l k : Nat) (o : MO) : ∀ es, getL k (setL l o es) = if k = l then (getL l es).map (fun _ => o) else getL k es
  | [] => by
    show none = _
    split <;> rfl
  | (j, u) :: r => by
    show getL k (match Nat.beq l j with | true => (j, o) :: r | false => (j, u) :: setL l o r) = _
    by_cases e : l = j
    · subst e
      rw [beq_self]
      rw [getL_cons, getL_cons, getL_cons, if_pos rfl]
      by_cases z : k = l
      · rw [if_pos z, if_pos z]; rfl
      · rw [if_neg z, if_neg z, if_neg z]
    · rw [beq_ne e]
      show getL k ((j, u) :: setL l o r) = _
      rw [getL_cons, getL_cons, getL_cons, if_neg e, getL_set l k o r]
      by_cases z : k = j
      · rw [if_pos z, if_pos z, if_neg (fun q => e (q.symm.trans z))]
      · rw [if_neg z, if_neg z]
theorem getL_del (l k : Nat) : ∀ es, getL k (delL l es) = if k = l then none else getL k es
  | [] => by
    show none = _
    split <;> rfl
  | (j, u) :: r => by
    show getL k (match Nat.beq l j with | true => delL l r | false => (j, u) :: delL l r) = _
    by_cases e : l = j
    · subst e
      rw [beq_self]
      show getL k (delL l r) = _
      rw [getL_del l k r, getL_cons]
      by_cases z : k = l
      · rw [if_pos z, if_pos z]
      · rw [if_neg z, if_neg z, if_neg z]
    · rw [beq_ne e]
      show getL k ((j, u) :: delL l r) = _
      rw [getL_cons, getL_cons, getL_del l k r]
      by_cases z : k = j
      · rw [if_pos z, if_pos z, if_neg (fun q => e (q.symm.trans z))]
      · rw [if_neg z, if_neg z]
theorem put_get {l k : Nat} {o u : MO} (e : h.get l = some u) : (h.put l o).get k = if k = l then some o else h.get k := by
  show getL k (setL l o h.es) = _
  rw [getL_set]
  by_cases z : k = l
  · rw [if_pos z, if_pos z]
    have e' : getL l h.es = some u := e
    rw [e']; rfl
  · rw [if_neg z, if_neg z]; rfl
theorem own_put {l : Nat} {o u : MO} (e : h.get l = some u) {a : Addr} : Own ρ (h.put l o) a ↔ Own ρ h a := by
  constructor
  · rintro ⟨k, w, q, r⟩
    rw [put_get e] at q
    by_cases z : k = l
    · subst z; exact ⟨k, u, e, r⟩
    · rw [if_neg z] at q; exact ⟨k, w, q, r⟩
  · rintro ⟨k, w, q, r⟩
    by_cases z : k = l
    · subst z; exact ⟨k, o, by rw [put_get e, if_pos rfl], r⟩
    · exact ⟨k, w, by rw [put_get e, if_neg z]; exact q, r⟩
theorem ObR.ntbl {M : Addr → Prop} {a : Addr} {o : MO} {u : HO} (q : ObR T K ρ M H a o) (e : H a = some u) : isTbl u = false := by
  cases o with
  | lst xs => obtain ⟨vs, e', _⟩ := q; rw [e] at e'; cases e'; rfl
  | ins c fs => obtain ⟨dx, gs, e', _⟩ := q; rw [e] at e'; cases e'; rfl
  | dct k kvs =>
    cases k with
    | true => obtain ⟨ps, e', _⟩ := q; rw [e] at e'; cases e'; rfl
    | false => obtain ⟨ps, e', _⟩ := q; rw [e] at e'; cases e'; rfl
  | bag => obtain ⟨b, i, z, c, ns, e', _⟩ := q; rw [e] at e'; cases e'; rfl
theorem SimH.le_put (s : SimH T K ρ h H) {l : Nat} {a : Addr} {o u : MO} {v : HO} (e : h.get l = some u) (r : ρ.at_ l = some a) : Le ρ h H ρ (h.put l o) (upd H a v) where
  ext := fun _ _ q => q
  exv := fun _ _ q => q
  nxt := Nat.le_refl _
  amb := fun _ m => m
  amb2 := fun _ m => .inl m
  own := fun b m => .inl ((own_put e).mp m)
  keep := fun b w q n _ => by
    have z : b ≠ a := fun z => n (z ▸ ⟨l, u, e, r⟩)
    rw [upd_ne z]; exact q
  live := fun b o q => by
    by_cases z : b = a
    · subst z; exact ⟨v, upd_same⟩
    · exact ⟨o, by rw [upd_ne z]; exact q⟩
theorem SimH.put (s : SimH T K ρ h H) {l : Nat} {a : Addr} {o u : MO} {v : HO} (e : h.get l = some u) (r : ρ.at_ l = some a) (q : ObR T K ρ (Mu ρ (h.put l o)) (upd H a v) a o) : SimH T K ρ (h.put l o) (upd H a v) where
  lt := s.lt
  ltv := s.ltv
  tb := s.tb.mv (fun b w q n => by
    have z : b ≠ a := fun z => n (z ▸ .inr ⟨l, u, e, r⟩)
    rw [upd_ne z]; exact q) (fun b ps qt => by
    have z : b ≠ a := fun z => by
      obtain ⟨a', r', x⟩ := s.ob l u e
      rw [r] at r'; cases r'
      subst z
      have := x.ntbl qt
      cases this
    rw [upd_ne z]; exact qt) fun b w q n => (s.le_put (v := v) e r).nomu q n
  inj := fun k k' w w' b e1 e2 r1 r2 => by
    have f : ∀ {k w}, (h.put l o).get k = some w → ∃ w', h.get k = some w' := fun {k w} z => by
      rw [put_get e] at z
      by_cases y : k = l
      · subst y; exact ⟨u, e⟩
      · rw [if_neg y] at z; exact ⟨w, z⟩
    obtain ⟨x1, y1⟩ := f e1
    obtain ⟨x2, y2⟩ := f e2
    exact s.inj k k' x1 x2 b y1 y2 r1 r2
  ob := fun k w z => by
    rw [put_get e] at z
    by_cases y : k = l
    · subst y
      rw [if_pos rfl] at z; cases z
      exact ⟨a, r, q⟩
    · rw [if_neg y] at z
      obtain ⟨b, rb, x⟩ := s.ob k w z
      refine ⟨b, rb, x.le (s.le_put e r) fun t _ et => ?_⟩
      have n : b ≠ a := fun n => y (s.inj k l w u a z e (n ▸ rb) r)
      rw [upd_ne n]; exact et
  am := fun b m => by
    obtain ⟨w, z⟩ := s.am b m
    have n : b ≠ a := fun n => s.dis a ⟨l, u, e, r⟩ (n ▸ m)
    exact ⟨w, by rw [upd_ne n]; exact z⟩
  dis := fun b m => s.dis b ((own_put e).mp m)
theorem own_del {l : Nat} {a : Addr} (m : Own ρ (h.del l) a) : Own ρ h a := by
  obtain ⟨k, w, q, r⟩ := m
  have q' : getL k (delL l h.es) = some w := q
  rw [getL_del] at q'
  by_cases z : k = l
  · rw [if_pos z] at q'; cases q'
  · rw [if_neg z] at q'; exact ⟨k, w, q', r⟩
theorem Le.dl {l : Nat} : Le ρ h H ρ (h.del l) H := ⟨fun _ _ e => e, fun _ _ e => e, Nat.le_refl _, fun _ m => m, fun _ m => .inl m, fun _ m => .inl (own_del m), fun _ _ e _ _ => e, fun _ o e => ⟨o, e⟩⟩
theorem SimH.dl (s : SimH T K ρ h H) {l : Nat} : SimH T K ρ (h.del l) H := by
  have f : ∀ {k w}, (h.del l).get k = some w → h.get k = some w := fun {k w} z => by
    have z' : getL k (delL l h.es) = some w := z
    rw [getL_del] at z'
    by_cases y : k = l
    · rw [if_pos y] at z'; cases z'
    · rw [if_neg y] at z'; exact z'
  refine ⟨s.lt, s.ltv, s.tb.mv (fun _ _ e _ => e) (fun _ _ e => e) (fun _ _ e m => (Le.dl (H := H)).nomu e m), fun k k' w w' b e1 e2 r1 r2 => s.inj k k' w w' b (f e1) (f e2) r1 r2, fun k w z => ?_, s.am, fun b m => s.dis b (own_del m)⟩
  obtain ⟨b, rb, x⟩ := s.ob k w (f z)
  exact ⟨b, rb, x.le Le.dl fun _ _ e => e⟩
/-- what was at the label l stays as it is from now on -/
theorem SimH.dl_not (s : SimH T K ρ h H) {l : Nat} {a : Addr} {o : MO} (e : h.get l = some o) (r : ρ.at_ l = some a) : ¬ Mu ρ (h.del l) a := fun m => by
  rcases m with m | ⟨k, w, q, r'⟩
  · exact s.dis a ⟨l, o, e, r⟩ m
  · have q' : getL k (delL l h.es) = some w := q
    rw [getL_del] at q'
    by_cases z : k = l
    · rw [if_pos z] at q'; cases q'
    · rw [if_neg z] at q'
      exact z (s.inj k l w o a q' e r' r)
end
end
end WK
set_option Elab.async false
set_option linter.all false
set_option maxRecDepth 100000
/-! walks, for, comprehensions -/
namespace WK
noncomputable section
open PySem L2 RZ
abbrev RunI := MS → MH → Tr EL
def WSim (T : Tb) (K : PySem.W.Frag) (ρ : Rho) (h : MH) (H : Hp) (J : It) (xs : List MV) : Prop := ∀ ρ' h' H', Le ρ h H ρ' h' H' → SimH T K ρ' h' H' → J.stop xs.length H' ∧
  ∀ i x, xs[i]? = some x → J.go i H' ∧ ∀ v H'', J.yld i H' v H'' → ∃ ρ'', Le ρ' h' H' ρ'' h' H'' ∧ SimH T K ρ'' h' H'' ∧ Den T K ρ'' (Mu ρ'' h') H'' x v
def postI (T : Tb) (K : PySem.W.Frag) (E : XW) (m : MS) (ρ : Rho) (h : MH) (H : Hp) (R : It → Hp → Prop) : EL → Prop
  | .ok xs h' => ∀ ρ' H' J, Le ρ h H ρ' h' H' → SimH T K ρ' h' H' → WSim T K ρ' h' H' J xs → R J H'
  | .ex x h' => exP T K E m ρ h H x h'
def tI (T : Tb) (K : PySem.W.Frag) (E : XW) (f : RunI) : TI := fun σ H R => ∃ ρ m h, SimH T K ρ h H ∧ SimS T K ρ (Mu ρ h) H m σ ∧ (f m h).wp (postI T K E m ρ h H R)
theorem piI {X : Cx} {tg e : Expr} {t t' : TI} (p : PI X tg e t) (h : ∀ σ H R, t' σ H R → t σ H R) : PI X tg e t' := ⟨fun pins s σ H R I q => p.run pins s σ H R I (h σ H R q)⟩
section
variable {T : Tb} {X : Cx} {E : XW}
def SI (T : Tb) (X : Cx) (E : XW) (tg e : Expr) (f : RunI) : Prop := PI X tg e (tI T X.K E f)
/-! ### over a list or a tuple -/
def iSeq (K : PySem.W.Frag) (tl : TE) : TI := fun σ H R => tl σ H fun x H1 => ∃ a, x = .ref a ∧ (((∃ xs, SqL K H1 a xs) ∧ R (Itl K a) H1) ∨ ((∃ xs, SqT K H1 a xs) ∧ R (Itt K a) H1))
theorem pi_seq {tg l : Expr} {tl : TE} (hl : PE X l tl) : PI X tg l (iSeq X.K tl) := by
  refine ⟨fun pins s σ H R I h => ?_⟩
  refine thn (hl.run pins s σ H _ I h) fun v s1 ⟨x, H1, I1, r1, q1⟩ => ?_
  obtain ⟨a, e, q⟩ := q1
  subst e
  cases r1
  rcases q with ⟨⟨xs, hq⟩, q⟩ | ⟨⟨xs, hq⟩, q⟩
  · obtain ⟨its, rv, p, hz⟩ := I1.list hq
    refine wpAny_pyIter_list p.isList ?_
    refine ⟨s1.heap.objs.size, [s1.heap.objs.size], _, _, H1, rfl, I1.kept (t' := s1.toks) fun b o e => Heap.get?_push_of_some _ e, turn_list a _, ⟨_, Heap.get?_push_size _ rfl, rfl, rfl⟩, fun b hb => ?_, q⟩
    have e : b = s1.heap.objs.size := by simpa using hb
    subst e
    exact I1.fpOk (Nat.le_refl _) (I1.hok.fresh (Nat.le_refl _))
  · obtain ⟨its, rv, p, hz⟩ := I1.tuple hq
    refine wpAny_pyIter_tuple (show s1.heap.IsTuple a its.toArray from p) ?_
    refine ⟨s1.heap.objs.size, [s1.heap.objs.size], _, _, H1, rfl, I1.kept (t' := s1.toks) fun b o e => Heap.get?_push_of_some _ e, turn_tuple a _, ⟨_, Heap.get?_push_size _ rfl, rfl, rfl⟩, fun b hb => ?_, q⟩
    have e : b = s1.heap.objs.size := by simpa using hb
    subst e
    exact I1.fpOk (Nat.le_refl _) (I1.hok.fresh (Nat.le_refl _))
theorem DenL.nthE {K : PySem.W.Frag} {ρ : Rho} {M : Addr → Prop} {H : Hp} : ∀ {xs : List MV} {vs : List V} {i : Nat} {x : MV}, DenL T K ρ M H xs vs → xs[i]? = some x → ∃ v, vs[i]? = some v ∧ Den T K ρ M H x v
  | _, _, _, _, .nil, e => by cases e
  | _, _, 0, _, .cons d r, e => by cases e; exact ⟨_, rfl, d⟩
  | _, _, i + 1, _, .cons d r, e => by
    obtain ⟨v, e1, e2⟩ := DenL.nthE (i := i) r (by simpa using e)
    exact ⟨v, by simpa using e1, e2⟩
theorem wsim_l {K : PySem.W.Frag} {ρ : Rho} {h : MH} {H : Hp} {xs : List MV} {vs : List V} {a : Addr} (n : ¬ Mu ρ h a) (e : H a = some (.lst vs)) (d : DenL T K ρ (Mu ρ h) H xs vs) : WSim T K ρ h H (Itl K a) xs := fun ρ' h' H' l s =>
  have e' := l.kp e n rfl
  ⟨⟨vs, SqL.of e', by rw [d.length]; exact Nat.le_refl _⟩, fun i x q => by
    obtain ⟨v, e1, e2⟩ := (d.le l).nthE q
    refine ⟨⟨vs, v, SqL.of e', e1⟩, fun v' H'' y => ?_⟩
    obtain ⟨rfl, y⟩ := y
    have z := y vs (SqL.of e')
    rw [e1] at z; cases z
    exact ⟨ρ', Le.refl, s, e2⟩⟩
theorem wsim_t {K : PySem.W.Frag} {ρ : Rho} {h : MH} {H : Hp} {xs : List MV} {vs : List V} {a : Addr} (k : ∀ ρ' h' H', Le ρ h H ρ' h' H' → SqT K H' a vs) (d : DenL T K ρ (Mu ρ h) H xs vs) : WSim T K ρ h H (Itt K a) xs := fun ρ' h' H' l s =>
  have e' := k ρ' h' H' l
  ⟨⟨vs, e', by rw [d.length]; exact Nat.le_refl _⟩, fun i x q => by
    obtain ⟨v, e1, e2⟩ := (d.le l).nthE q
    refine ⟨⟨vs, v, e', e1⟩, fun v' H'' y => ?_⟩
    obtain ⟨rfl, y⟩ := y
    have z := y vs e'
    rw [e1] at z; cases z
    exact ⟨ρ', Le.refl, s, e2⟩⟩
/-- the items of what stays as it is -/
def itemsV : MV → Option (List MV)
  | .lst xs => some xs
  | .tup xs => some xs
  | _ => none
def runSq (f : RunE) : RunI := fun m h => (f m h).be (fun x h1 => match itemsV x with
  | some xs => .ret (.ok xs h1)
  | none => .bad) exL
theorem den_tupL {K : PySem.W.Frag} {ρ : Rho} {h : MH} {H : Hp} {xs : List MV} {v : V} (d : Den T K ρ (Mu ρ h) H (.tup xs) v) : ∃ a vs, v = .ref a ∧ SqT K H a vs ∧ (∀ ρ' h' H', Le ρ h H ρ' h' H' → SqT K H' a vs) ∧ DenL T K ρ (Mu ρ h) H xs vs := by
  cases d with
  | tup n r d => exact ⟨_, _, rfl, SqT.of r, fun ρ' h' H' l => SqT.of (l.kp r n rfl), d⟩
  | tupK s d => exact ⟨_, _, rfl, s _, fun _ _ _ _ => s _, d⟩
theorem i_seq {tg e : Expr} {f : RunE} (he : SE T X E e f) : SI T X E tg e (runSq f) :=
  piI (pi_seq he.v) fun σ H R ⟨ρ, m, h, s1, s2, w⟩ => ⟨ρ, m, h, s1, s2, Tr.wp_mono (Tr.wp_be w) fun r q => by
    cases r with
    | ex x h1 => exact q
    | ok x h1 =>
      intro ρ1 H1 v l s d
      cases x <;> first | exact q.elim | skip
      · obtain ⟨a, vs, rfl, r, k, d1⟩ := den_tupL d
        exact ⟨a, rfl, .inr ⟨⟨vs, r⟩, q ρ1 H1 _ l s (wsim_t k d1)⟩⟩
      · cases d with
        | lst n r d1 => exact ⟨_, rfl, .inl ⟨⟨_, SqL.of r⟩, q ρ1 H1 _ l s (wsim_l n r d1)⟩⟩⟩
/-! ### range -/
def rngM (lo : Int) (n : Nat) : List MV := Nat.rec (motive := fun _ => Int → List MV) (fun _ => []) (fun _ ih i => .int i :: ih (i + 1)) n lo
theorem rngM_len : ∀ (n : Nat) (lo : Int), (rngM lo n).length = n
  | 0, _ => rfl
  | n + 1, lo => congrArg (· + 1) (rngM_len n (lo + 1))
theorem rngM_at : ∀ (n : Nat) (lo : Int) (i : Nat) (x : MV), (rngM lo n)[i]? = some x → x = .int (lo + i) ∧ i < n
  | 0, _, _, _, e => by cases e
  | n + 1, lo, 0, x, e => by
    have e' : some (MV.int lo) = some x := e
    cases e'
    exact ⟨by simp, Nat.succ_pos _⟩
  | n + 1, lo, i + 1, x, e => by
    have e' : (rngM (lo + 1) n)[i]? = some x := e
    obtain ⟨h1, h2⟩ := rngM_at n (lo + 1) i x e'
    exact ⟨by rw [h1]; congr 1; omega, Nat.succ_lt_succ h2⟩
theorem wsim_r {K : PySem.W.Frag} {ρ : Rho} {h : MH} {H : Hp} {lo : Int} {n : Nat} : WSim T K ρ h H (Itr lo n) (rngM lo n) := fun ρ' h' H' l s =>
  ⟨by show n ≤ _; rw [rngM_len]; exact Nat.le_refl _, fun i x q => by
    obtain ⟨rfl, h2⟩ := rngM_at n lo i x q
    refine ⟨h2, fun v H'' y => ?_⟩
    obtain ⟨rfl, rfl⟩ := y
    exact ⟨ρ', Le.refl, s, .int _⟩⟩
def bd62 (i : Int) : Bool := decide (-(2 ^ 62) ≤ i) && decide (i < 2 ^ 62)
theorem bd62_ok {i : Int} (h : bd62 i = true) : -(2 ^ 62) ≤ i ∧ i < 2 ^ 62 := by
  simp only [bd62, Bool.and_eq_true, decide_eq_true_eq] at h
  exact h
def runRng1 (f : RunL) : RunI := fun m h => Tr.bl (f m h) (fun xs h1 => match xs with
  | [.int j] => match bd62 j with
    | true => .ret (.ok (rngM 0 j.toNat) h1)
    | false => .bad
  | _ => .bad) exL
def runRng2 (f : RunL) : RunI := fun m h => Tr.bl (f m h) (fun xs h1 => match xs with
  | [.int i, .int j] => match bd62 i && bd62 j with
    | true => .ret (.ok (rngM i (j - i).toNat) h1)
    | false => .bad
  | _ => .bad) exL
theorem i_range1 {tg a : Expr} {f : RunL} {p pos : Pos} (hg : Gl X "range") (hm : X.mg "range" = none) (ha : SA T X E [a] f) (hs : starEach [a] X.env = [(false, eval a X.env)]) : SI T X E tg (.Call (.Name "range" p) [a] [] pos) (runRng1 f) :=
  piI (pi_range1 hg hm ha.a hs) fun σ H R ⟨ρ, m, h, s1, s2, w⟩ => ⟨ρ, m, h, s1, s2, Tr.wp_mono (Tr.wp_bl w) fun r q => by
    cases r with
    | ex x h1 => exact q
    | ok xs h1 =>
      intro ρ1 H1 vs l s d
      dsimp only at q
      split at q
      · split at q
        · rename_i c
          obtain ⟨c1, c2⟩ := bd62_ok c
          cases d with
          | cons d1 d2 =>
            cases d2
            cases d1
            exact ⟨_, rfl, c1, c2, q ρ1 H1 _ l s wsim_r⟩
        · exact q.elim
      · exact q.elim⟩
theorem i_range2 {tg a b : Expr} {f : RunL} {p pos : Pos} (hg : Gl X "range") (hm : X.mg "range" = none) (ha : SA T X E [a, b] f) (hs : starEach [a, b] X.env = [(false, eval a X.env), (false, eval b X.env)]) (hs2 : starEach [b] X.env = [(false, eval b X.env)]) :
    SI T X E tg (.Call (.Name "range" p) [a, b] [] pos) (runRng2 f) :=
  piI (pi_range2 hg hm ha.a hs hs2) fun σ H R ⟨ρ, m, h, s1, s2, w⟩ => ⟨ρ, m, h, s1, s2, Tr.wp_mono (Tr.wp_bl w) fun r q => by
    cases r with
    | ex x h1 => exact q
    | ok xs h1 =>
      intro ρ1 H1 vs l s d
      dsimp only at q
      split at q
      · split at q
        · rename_i c
          obtain ⟨c1, c2⟩ := Bool.and_eq_true_iff.mp c
          obtain ⟨c1, c3⟩ := bd62_ok c1
          obtain ⟨c2, c4⟩ := bd62_ok c2
          cases d with
          | cons d1 d2 =>
            cases d2 with
            | cons d2 d3 =>
              cases d3
              cases d1
              cases d2
              exact ⟨_, _, rfl, ⟨c1, c3, c2, c4⟩, q ρ1 H1 _ l s wsim_r⟩
        · exact q.elim
      · exact q.elim⟩
/-! ### zip -/
def zipM : List MV → List MV → List MV
  | x :: xs, y :: ys => .tup [x, y] :: zipM xs ys
  | _, _ => []
theorem zipM_at : ∀ {xs ys : List MV} {i : Nat} {z : MV}, (zipM xs ys)[i]? = some z → ∃ x y, xs[i]? = some x ∧ ys[i]? = some y ∧ z = .tup [x, y]
  | [], _, _, _, e => by simp [zipM] at e
  | _ :: _, [], _, _, e => by simp [zipM] at e
  | x :: xs, y :: ys, 0, z, e => by
    have e' : some (MV.tup [x, y]) = some z := e
    cases e'; exact ⟨x, y, rfl, rfl, rfl⟩
  | x :: xs, y :: ys, i + 1, z, e => by
    have e' : (zipM xs ys)[i]? = some z := e
    obtain ⟨a, b, h1, h2, h3⟩ := zipM_at e'
    exact ⟨a, b, h1, h2, h3⟩
theorem zipM_len : ∀ (xs ys : List MV), (zipM xs ys).length = min xs.length ys.length
  | [], ys => by simp [zipM]
  | _ :: _, [] => by simp [zipM]
  | x :: xs, y :: ys => by
    show (zipM xs ys).length + 1 = _
    rw [zipM_len xs ys, List.length_cons, List.length_cons]
    omega
theorem den_pair {K : PySem.W.Frag} {ρ : Rho} {h : MH} {H : Hp} {x y : MV} {v u : V} {p : Addr} (s : SimH T K ρ h H) (n : H p = none) (d1 : Den T K ρ (Mu ρ h) H x v) (d2 : Den T K ρ (Mu ρ h) H y u) :
    ∃ ρ'', Le ρ h H ρ'' h (upd H p (.tup [v, u])) ∧ SimH T K ρ'' h (upd H p (.tup [v, u])) ∧ Den T K ρ'' (Mu ρ'' h) (upd H p (.tup [v, u])) (.tup [x, y]) (.ref p) :=
  ⟨ρ, Le.neu n, s.neu n, .tup (s.nomu n) upd_same (.cons (d1.le (Le.neu n)) (.cons (d2.le (Le.neu n)) .nil))⟩
theorem wsim_z {K : PySem.W.Frag} {ρ : Rho} {h : MH} {H : Hp} {xs ys : List MV} {vs us : List V} {a b : Addr} (n : ¬ Mu ρ h a) (e : H a = some (.lst vs)) (d : DenL T K ρ (Mu ρ h) H xs vs) (n2 : ¬ Mu ρ h b) (e2 : H b = some (.lst us)) (d2 : DenL T K ρ (Mu ρ h) H ys us) : WSim T K ρ h H (Itz K a b) (zipM xs ys) := fun ρ' h' H' l s =>
  have e' := SqL.of (K := K) (l.kp e n rfl)
  have e2' := SqL.of (K := K) (l.kp e2 n2 rfl)
  ⟨⟨vs, us, e', e2', by rw [zipM_len, d.length, d2.length]; omega⟩, fun i z q => by
    obtain ⟨x, y, h1, h2, rfl⟩ := zipM_at q
    obtain ⟨v, q1, q2⟩ := (d.le l).nthE h1
    obtain ⟨u, q3, q4⟩ := (d2.le l).nthE h2
    refine ⟨⟨vs, us, v, u, e', e2', q1, q3⟩, fun v' H'' yy => ?_⟩
    obtain ⟨T', x', y', rfl, hn, rfl, k1, k2⟩ := yy
    have z1 := k1 vs e'
    have z2 := k2 us e2'
    rw [q1] at z1; cases z1
    rw [q3] at z2; cases z2
    exact den_pair s hn q2 q4⟩
theorem wsim_zT {K : PySem.W.Frag} {ρ : Rho} {h : MH} {H : Hp} {xs ys : List MV} {vs us : List V} {a b : Addr} (k : ∀ ρ' h' H', Le ρ h H ρ' h' H' → SqT K H' a vs) (d : DenL T K ρ (Mu ρ h) H xs vs) (k2 : ∀ ρ' h' H', Le ρ h H ρ' h' H' → SqT K H' b us) (d2 : DenL T K ρ (Mu ρ h) H ys us) : WSim T K ρ h H (ItzT K a b) (zipM xs ys) := fun ρ' h' H' l s =>
  have e' := k ρ' h' H' l
  have e2' := k2 ρ' h' H' l
  ⟨⟨vs, us, e', e2', by rw [zipM_len, d.length, d2.length]; omega⟩, fun i z q => by
    obtain ⟨x, y, h1, h2, rfl⟩ := zipM_at q
    obtain ⟨v, q1, q2⟩ := (d.le l).nthE h1
    obtain ⟨u, q3, q4⟩ := (d2.le l).nthE h2
    refine ⟨⟨vs, us, v, u, e', e2', q1, q3⟩, fun v' H'' yy => ?_⟩
    obtain ⟨T', x', y', rfl, hn, rfl, k1, k2⟩ := yy
    have z1 := k1 vs e'
    have z2 := k2 us e2'
    rw [q1] at z1; cases z1
    rw [q3] at z2; cases z2
    exact den_pair s hn q2 q4⟩
def runZip (f : RunL) : RunI := fun m h => Tr.bl (f m h) (fun xs h1 => match xs with
  | [.lst a, .lst b] => .ret (.ok (zipM a b) h1)
  | [.tup a, .tup b] => .ret (.ok (zipM a b) h1)
  | _ => .bad) exL
theorem i_zip {e e2 : Expr} {f : RunL} {p pos tpos : Pos} {elts : List Expr} {kk : Nat} (hg : Gl X "zip") (hm : X.mg "zip" = none) (ha : SA T X E [e, e2] f) : SI T X E (.Tuple elts kk tpos) (.Call (.Name "zip" p) [e, e2] [] pos) (runZip f) :=
  have hns : notStar e = true ∧ [e2].all notStar = true := Bool.and_eq_true_iff.mp ha.ns
  piI (pi_zipA hg hm ha.a (star_cons hns.1) (by rw [backTo_any]; exact star_all hns.2)) fun σ H R ⟨ρ, m, h, s1, s2, w⟩ => ⟨ρ, m, h, s1, s2, Tr.wp_mono (Tr.wp_bl w) fun r q => by
    cases r with
    | ex x h1 => exact q
    | ok xs h1 =>
      intro ρ1 H1 vs l s d
      dsimp only at q
      split at q
      · cases d with
        | cons d1 d2 =>
          cases d2 with
          | cons d2 d3 =>
            cases d3
            cases d1 with
            | lst n r d1 =>
              cases d2 with
              | lst n2 r2 d2 => exact ⟨_, _, _, _, rfl, .inl ⟨SqL.of r, SqL.of r2, q ρ1 H1 _ l s (wsim_z n r d1 n2 r2 d2)⟩⟩
      · cases d with
        | cons d1 d2 =>
          cases d2 with
          | cons d2 d3 =>
            cases d3
            obtain ⟨a, vs, rfl, r, k, d1⟩ := den_tupL d1
            obtain ⟨b, us, rfl, r2, k2, d2⟩ := den_tupL d2
            exact ⟨_, _, _, _, rfl, .inr ⟨r, r2, q ρ1 H1 _ l s (wsim_zT k d1 k2 d2)⟩⟩
      · exact q.elim⟩
/-! ### for -/
def loopF (g : RunG) (b : RunS) (items : List MV) : RunS := List.rec (motive := fun _ => RunS) nxS (fun x _ ih m h => Tr.bg (g x m h) (fun m1 h1 => (b m1 h1).bind fun r => SR.rec (motive := fun _ => Tr SR) (fun m2 h2 => ih m2 h2) (fun m2 h2 => nxS m2 h2) (fun m2 h2 => ih m2 h2) (fun v h2 => .ret (.rt v h2)) (fun x m2 h2 => .ret (.ex x m2 h2)) r) (fun x m h => .ret (.ex x m h))) items
def runFor (it : RunI) (g : RunG) (b : RunS) : RunS := fun m h => Tr.bl (it m h) (fun xs h1 => loopF g b xs m h1) (exS m)
theorem drop_cons {α : Type} {xs : List α} {i : Nat} {x : α} {r : List α} (e : xs.drop i = x :: r) : xs[i]? = some x ∧ xs.drop (i + 1) = r := by
  constructor
  · rw [← List.head?_drop, e]; rfl
  · rw [← List.tail_drop, e]; rfl
theorem s_for {tg iter : Expr} {body : List Stmt} {pos : Pos} {it : RunI} {g : RunG} {f : RunS} (hp : PassesOwn (model X.prog X.w) X.A X.env X.xe) (hc : X.calm = true) (hi : SI T X E tg iter it) (hg : SG T X E tg g) (hb : SSs T X E body f) (hs : ∀ x, foldedSetIterable iter X.env x = pure x) :
    SS T X E (.For tg iter body [] pos) (runFor it g f) :=
  psI (ps_for hp hc hi hg hb hs) fun D σ H ⟨ρ, m, h, s1, s2, w⟩ => ⟨ρ, m, h, s1, s2, Tr.wp_mono (Tr.wp_bl w) fun r q => by
    cases r with
    | ex x h1 => exact q
    | ok xs h1 =>
      intro ρ1 H1 J l1 s1' ws
      refine ⟨fun i k σ H => ∃ ρ2 m2 h2, k = xs.length - i ∧ i ≤ xs.length ∧ Le ρ1 h1 H1 ρ2 h2 H ∧ SimH T X.K ρ2 h2 H ∧ SimS T X.K ρ2 (Mu ρ2 h2) H m2 σ ∧ (loopF g f (xs.drop i) m2 h2).wp (postS T X.K E ρ2 h2 H D),
        ⟨xs.length, ρ1, m, h1, rfl, Nat.zero_le _, Le.refl, s1', s2.le l1, Tr.wp_mono q (postS.le l1)⟩, ?_⟩
      rintro i k σ2 H2 ⟨ρ2, m2, h2, rfl, hi, l2, t1, t2, w2⟩
      obtain ⟨ws1, ws2⟩ := ws ρ2 h2 H2 l2 t1
      cases e : xs.drop i with
      | nil =>
        have hl : xs.length ≤ i := List.drop_eq_nil_iff.mp e
        have hl2 : i = xs.length := by omega
        rw [e] at w2
        subst hl2
        exact .inl ⟨ws1, w2 ρ2 H2 σ2 Le.refl t1 t2⟩
      | cons x r =>
        obtain ⟨e1, e2⟩ := drop_cons e
        rw [e] at w2
        have hlt : i < xs.length := (List.getElem?_eq_some_iff.mp e1).1
        obtain ⟨go, yl⟩ := ws2 i x e1
        refine .inr ⟨go, fun σ' H' => ∃ ρ' m' h', Le ρ1 h1 H1 ρ' h' H' ∧ SimH T X.K ρ' h' H' ∧ SimS T X.K ρ' (Mu ρ' h') H' m' σ' ∧ (loopF g f (xs.drop (i + 1)) m' h').wp (postS T X.K E ρ' h' H' D), fun σ' H' ⟨ρ', m', h', a1, a2, a3, a4⟩ => ⟨xs.length - (i + 1), by omega, ρ', m', h', rfl, hlt, a1, a2, a3, a4⟩, fun v H' y => ?_⟩
        obtain ⟨ρ3, l3, t3, d3⟩ := yl v H' y
        refine ⟨ρ3, m2, h2, x, t3, t2.le l3, d3, Tr.wp_mono (Tr.wp_bg w2) fun r' q3 => ?_⟩
        cases r' with
        | ex x m4 h4 => exact exP.le l3 q3
        | ok m4 h4 =>
          intro ρ4 H4 σ4 l4 t4 u4
          refine ⟨ρ4, m4, h4, t4, u4, Tr.wp_mono ((Tr.wp_bind _ _ _).mp q3) fun r' q5 => ?_⟩
          have l34 := l3.trans l4
          cases r' with
          | nx m5 h5 => exact fun ρ5 H5 σ5 l5 t5 u5 => ⟨ρ5, m5, h5, l2.trans (l34.trans l5), t5, u5, by rw [e2]; exact Tr.wp_mono q5 (postS.le (l34.trans l5))⟩
          | ct m5 h5 => exact fun ρ5 H5 σ5 l5 t5 u5 => ⟨ρ5, m5, h5, l2.trans (l34.trans l5), t5, u5, by rw [e2]; exact Tr.wp_mono q5 (postS.le (l34.trans l5))⟩
          | bk m5 h5 => exact fun ρ5 H5 σ5 l5 t5 u5 => q5 ρ5 H5 σ5 (l34.trans l5) t5 u5
          | rt v5 h5 => exact postS.le l34 (.rt v5 h5) q5
          | ex x5 m5 h5 => exact exP.le l34 q5⟩
end
end
end WK
set_option Elab.async false
set_option linter.all false
set_option maxRecDepth 100000
/-! comprehensions -/
namespace WK
noncomputable section
open PySem L2
section
variable {T : Tb} {K : PySem.W.Frag}
mutual
theorem Den.mv {ρ ρ' : Rho} {M M' : Addr → Prop} {H H' : Hp} (k : ∀ a o, H a = some o → ¬ M a → isTbl o = false → H' a = some o) (n : ∀ a o, H a = some o → ¬ M a → ¬ M' a) (kr : ∀ l a, ρ.at_ l = some a → ρ'.at_ l = some a) (ks : ∀ l v, ρ.sv l = some v → ρ'.sv l = some v) : ∀ {x : MV} {v : V}, Den T K ρ M H x v → Den T K ρ' M' H' x v
  | _, _, .non => .non
  | _, _, .bl b => .bl b
  | _, _, .int i => .int i
  | _, _, .str x => .str x
  | _, _, .tup m r d => .tup (n _ _ r m) (k _ _ r m rfl) (DenL.mv k n kr ks d)
  | _, _, .tupK s d => .tupK s (DenL.mv k n kr ks d)
  | _, _, .lst m r d => .lst (n _ _ r m) (k _ _ r m rfl) (DenL.mv k n kr ks d)
  | _, _, .ins m r d => .ins (n _ _ r m) (k _ _ r m rfl) (DenF.mv k n kr ks d)
  | _, _, .exc m r m2 r2 d => .exc (n _ _ r m) (k _ _ r m rfl) (n _ _ r2 m2) (k _ _ r2 m2 rfl) (DenF.mv k n kr ks d)
  | _, _, .ref r => .ref (kr _ _ r)
  | _, _, .ati r => .ati (ks _ _ r)
  | _, _, .ats r l => .ats (ks _ _ r) l
  | _, _, .dK m r d => .dK (n _ _ r m) (k _ _ r m rfl) (DenK.mv k n kr ks d)
  | _, _, .dN m r y d => .dN (n _ _ r m) (k _ _ r m rfl) y (DenN.mv k n kr ks d)
theorem DenL.mv {ρ ρ' : Rho} {M M' : Addr → Prop} {H H' : Hp} (k : ∀ a o, H a = some o → ¬ M a → isTbl o = false → H' a = some o) (n : ∀ a o, H a = some o → ¬ M a → ¬ M' a) (kr : ∀ l a, ρ.at_ l = some a → ρ'.at_ l = some a) (ks : ∀ l v, ρ.sv l = some v → ρ'.sv l = some v) : ∀ {xs : List MV} {vs : List V}, DenL T K ρ M H xs vs → DenL T K ρ' M' H' xs vs
  | _, _, .nil => .nil
  | _, _, .cons d r => .cons (Den.mv k n kr ks d) (DenL.mv k n kr ks r)
theorem DenF.mv {ρ ρ' : Rho} {M M' : Addr → Prop} {H H' : Hp} (k : ∀ a o, H a = some o → ¬ M a → isTbl o = false → H' a = some o) (n : ∀ a o, H a = some o → ¬ M a → ¬ M' a) (kr : ∀ l a, ρ.at_ l = some a → ρ'.at_ l = some a) (ks : ∀ l v, ρ.sv l = some v → ρ'.sv l = some v) : ∀ {xs : List (Nat × MV)} {vs : List (Str × V)}, DenF T K ρ M H xs vs → DenF T K ρ' M' H' xs vs
  | _, _, .nil => .nil
  | _, _, .cons f d r => .cons f (Den.mv k n kr ks d) (DenF.mv k n kr ks r)
theorem DenK.mv {ρ ρ' : Rho} {M M' : Addr → Prop} {H H' : Hp} (k : ∀ a o, H a = some o → ¬ M a → isTbl o = false → H' a = some o) (n : ∀ a o, H a = some o → ¬ M a → ¬ M' a) (kr : ∀ l a, ρ.at_ l = some a → ρ'.at_ l = some a) (ks : ∀ l v, ρ.sv l = some v → ρ'.sv l = some v) : ∀ {xs : List (MV × MV)} {vs : List (Key × V)}, DenK T K ρ M H xs vs → DenK T K ρ' M' H' xs vs
  | _, _, .nil => .nil
  | _, _, .consI d r => .consI (Den.mv k n kr ks d) (DenK.mv k n kr ks r)
  | _, _, .consS d r => .consS (Den.mv k n kr ks d) (DenK.mv k n kr ks r)
theorem DenN.mv {ρ ρ' : Rho} {M M' : Addr → Prop} {H H' : Hp} (k : ∀ a o, H a = some o → ¬ M a → isTbl o = false → H' a = some o) (n : ∀ a o, H a = some o → ¬ M a → ¬ M' a) (kr : ∀ l a, ρ.at_ l = some a → ρ'.at_ l = some a) (ks : ∀ l v, ρ.sv l = some v → ρ'.sv l = some v) : ∀ {xs : List (MV × MV)} {vs : List (NestedKey × Addr × V)}, DenN T K ρ M H xs vs → DenN T K ρ' M' H' xs vs
  | _, _, .nil => .nil
  | _, _, .cons e d1 d r => .cons e (Den.mv k n kr ks d1) (Den.mv k n kr ks d) (DenN.mv k n kr ks r)
end
theorem ObR.mv {ρ ρ' : Rho} {M M' : Addr → Prop} {H H' : Hp} (k : ∀ a o, H a = some o → ¬ M a → isTbl o = false → H' a = some o) (n : ∀ a o, H a = some o → ¬ M a → ¬ M' a) (kr : ∀ l a, ρ.at_ l = some a → ρ'.at_ l = some a) (ks : ∀ l v, ρ.sv l = some v → ρ'.sv l = some v) {a : Addr} {o : MO} (ka : ∀ u, H a = some u → H' a = some u) (q : ObR T K ρ M H a o) : ObR T K ρ' M' H' a o := by
  cases o with
  | lst xs => obtain ⟨vs, e, d⟩ := q; exact ⟨vs, ka _ e, d.mv k n kr ks⟩
  | ins c fs => obtain ⟨dx, gs, e, d⟩ := q; exact ⟨dx, gs, ka _ e, d.mv k n kr ks⟩
  | dct kk kvs =>
    cases kk with
    | true => obtain ⟨ps, e, d⟩ := q; exact ⟨ps, ka _ e, d.mv k n kr ks⟩
    | false => obtain ⟨ps, e, y, d⟩ := q; exact ⟨ps, ka _ e, y, d.mv k n kr ks⟩
  | bag =>
    obtain ⟨b, i, z, c, ns, e, m, sq, r⟩ := q
    exact ⟨b, i, z, c, ns, ka _ e, n _ _ sq m, k _ _ sq m rfl, r⟩
theorem SimS.mv {ρ ρ' : Rho} {M M' : Addr → Prop} {H H' : Hp} (k : ∀ a o, H a = some o → ¬ M a → isTbl o = false → H' a = some o) (n : ∀ a o, H a = some o → ¬ M a → ¬ M' a) (kr : ∀ l a, ρ.at_ l = some a → ρ'.at_ l = some a) (ks : ∀ l v, ρ.sv l = some v → ρ'.sv l = some v) {m : MS} {σ : St} (s : SimS T K ρ M H m σ) : SimS T K ρ' M' H' m σ :=
  ⟨s.len, fun i x q => let ⟨v, a, b⟩ := s.at_ i x q; ⟨v, a, b.mv k n kr ks⟩⟩
/-! ### a thing that stands apart -/
def rhoA (ρ : Rho) (D : Addr) : Rho := ⟨ρ.at_, fun a => ρ.amb a ∨ a = D, ρ.sv⟩
variable {ρ : Rho} {h : MH} {H : Hp}
theorem Le.apart {D : Addr} {u : HO} (n : H D = none) : Le ρ h H (rhoA ρ D) h (upd H D u) :=
  ⟨fun _ _ e => e, fun _ _ e => e, Nat.le_refl _, fun _ m => .inl m, fun a m => m.elim .inl fun z => .inr (z ▸ n), fun _ m => .inl m, fun a o e _ _ => by rw [upd_ne (ne_of_none e n)]; exact e, fun a o e => ⟨o, by rw [upd_ne (ne_of_none e n)]; exact e⟩⟩
theorem SimH.apart (s : SimH T K ρ h H) {D : Addr} {u : HO} (n : H D = none) : SimH T K (rhoA ρ D) h (upd H D u) :=
  ⟨s.lt, s.ltv, s.tb.mv (fun b o e _ => by rw [upd_ne (ne_of_none e n)]; exact e) (fun b o e => by rw [upd_ne (ne_of_none e n)]; exact e) (fun b o e m => (Le.apart (u := u) n).nomu e m), s.inj, fun l o e => by
    obtain ⟨a, r, q⟩ := s.ob l o e
    exact ⟨a, r, q.le (Le.apart n) fun v _ z => by rw [upd_ne (ne_of_none z n)]; exact z⟩, fun a m => by
    rcases m with m | m
    · obtain ⟨o, e⟩ := s.am a m
      exact ⟨o, by rw [upd_ne (ne_of_none e n)]; exact e⟩
    · exact ⟨u, by rw [m]; exact upd_same⟩, fun a m q => by
    rcases q with q | q
    · exact s.dis a m q
    · obtain ⟨o, e⟩ := s.atO m
      rw [q, n] at e; cases e⟩
/-- what stands apart changes -/
theorem SimH.grow (s : SimH T K ρ h H) {D : Addr} {u v : HO} (m : ρ.amb D) (e : H D = some u) (nt : isTbl u = false) : SimH T K ρ h (upd H D v) := by
  have k : ∀ a o, H a = some o → ¬ Mu ρ h a → isTbl o = false → upd H D v a = some o := fun a o ea n _ => by
    rw [upd_ne (fun z : a = D => n (by rw [z]; exact .inl m))]; exact ea
  refine ⟨s.lt, s.ltv, s.tb.mv (fun b o eb n => by rw [upd_ne (fun z : b = D => n (by rw [z]; exact .inl m))]; exact eb) (fun b ps eb => ?_) (fun _ _ _ n => n), s.inj, fun l o el => ?_, fun a q => ?_, s.dis⟩
  · have z : b ≠ D := fun z => by
      rw [z, e] at eb; cases eb; cases nt
    rw [upd_ne z]; exact eb
  · obtain ⟨a, r, q⟩ := s.ob l o el
    refine ⟨a, r, q.mv k (fun _ _ _ n => n) (fun _ _ e => e) (fun _ _ e => e) fun w ew => ?_⟩
    rw [upd_ne (fun z : a = D => s.dis a ⟨l, o, el, r⟩ (by rw [z]; exact m))]; exact ew
  · obtain ⟨o, eo⟩ := s.am a q
    by_cases z : a = D
    · subst z; exact ⟨v, upd_same⟩
    · exact ⟨o, by rw [upd_ne z]; exact eo⟩
/-- less is ambient -/
def rhoU (ρ : Rho) (amb : Addr → Prop) : Rho := ⟨ρ.at_, amb, ρ.sv⟩
theorem mu_U {amb : Addr → Prop} (k : ∀ a, amb a → ρ.amb a) {a : Addr} (m : Mu (rhoU ρ amb) h a) : Mu ρ h a := m.elim (fun q => .inl (k a q)) .inr
theorem SimH.unamb (s : SimH T K ρ h H) {amb : Addr → Prop} (k : ∀ a, amb a → ρ.amb a) : SimH T K (rhoU ρ amb) h H :=
  ⟨s.lt, s.ltv, s.tb.mv (fun _ _ e _ => e) (fun _ _ e => e) (fun _ _ _ n q => n (mu_U k q)), s.inj, fun l o e => by
    obtain ⟨a, r, q⟩ := s.ob l o e
    exact ⟨a, r, ObR.mv (ρ := ρ) (ρ' := rhoU ρ amb) (M := Mu ρ h) (fun _ _ e _ _ => e) (fun _ _ _ n q => n (mu_U k q)) (fun _ _ e => e) (fun _ _ e => e) (fun _ e => e) q⟩, fun a q => s.am a (k a q), fun a m q => s.dis a m (k a q)⟩
/-- a thing that was apart gets a label -/
theorem SimH.adopt (s : SimH T K ρ h H) {amb : Addr → Prop} (k : ∀ a, amb a → ρ.amb a) {p : Addr} {vs : List V} {xs : List MV} (na : ¬ amb p) (mp : ρ.amb p) (e : H p = some (.lst vs)) (d : DenL T K ρ (Mu ρ h) H xs vs) : SimH T K (rhoN (rhoU ρ amb) h.nxt p) (h.new (.lst xs)) H := by
  have up : ∀ {a}, Mu (rhoN (rhoU ρ amb) h.nxt p) (h.new (.lst xs)) a → Mu ρ h a := fun {a} m => by
    rcases m with m | m
    · exact .inl (k a m)
    · rcases (s.unamb k).own_new m with z | z
      · exact .inl (z ▸ mp)
      · exact .inr z
  have kr : ∀ l a, ρ.at_ l = some a → (rhoN (rhoU ρ amb) h.nxt p).at_ l = some a := fun l a r => by
    rw [rhoN_ne (Nat.ne_of_lt (s.lt l a r))]; exact r
  refine ⟨fun l a r => ?_, fun l v r => Nat.lt_succ_of_lt (s.ltv l v r), s.tb.mv (fun _ _ e _ => e) (fun _ _ e => e) (fun _ _ _ n q => n (up q)), fun l l' o o' a e1 e2 r1 r2 => ?_, fun l o el => ?_, fun a q => s.am a (k a q), fun a m q => ?_⟩
  · show l < h.nxt + 1
    by_cases z : l = h.nxt
    · omega
    · rw [rhoN_ne z] at r
      have := s.lt l a r
      omega
  · rw [getL_new] at e1 e2
    have old : ∀ {j : Nat} {w : MO}, h.get j = some w → ρ.at_ j = some p → False := fun {j w} e r => s.dis p ⟨j, w, e, r⟩ mp
    by_cases z : l = h.nxt <;> by_cases z' : l' = h.nxt
    · omega
    · subst z
      rw [rhoN_at] at r1; cases r1
      rw [if_neg z'] at e2
      rw [rhoN_ne z'] at r2
      exact (old e2 r2).elim
    · subst z'
      rw [rhoN_at] at r2; cases r2
      rw [if_neg z] at e1
      rw [rhoN_ne z] at r1
      exact (old e1 r1).elim
    · rw [if_neg z] at e1
      rw [rhoN_ne z] at r1
      rw [if_neg z'] at e2
      rw [rhoN_ne z'] at r2
      exact s.inj l l' o o' a e1 e2 r1 r2
  · rw [getL_new] at el
    by_cases z : l = h.nxt
    · rw [if_pos z] at el; cases el
      subst z
      exact ⟨p, rhoN_at, vs, e, d.mv (fun _ _ e _ _ => e) (fun _ _ _ n q => n (up q)) kr (fun _ _ e => e)⟩
    · rw [if_neg z] at el
      obtain ⟨a, r, x⟩ := s.ob l o el
      exact ⟨a, by rw [rhoN_ne z]; exact r, x.mv (fun _ _ e _ _ => e) (fun _ _ _ n q => n (up q)) kr (fun _ _ e => e) fun _ e => e⟩
  · rcases (s.unamb k).own_new m with z | z
    · exact na (z ▸ q)
    · exact s.dis a z (k a q)
end
/-! ### targets in comprehensions -/
def GC (T : Tb) (K : PySem.W.Frag) (t : TG) (g : RunG) (vs : List Nat) : Prop := ∀ ρ m h x σ H v Q, SimH T K ρ h H → SimS T K ρ (Mu ρ h) H m σ → Den T K ρ (Mu ρ h) H x v →
  (g x m h).wp (fun r => match r with
    | .ok m' h' => ∀ σ', h' = h → SimS T K ρ (Mu ρ h) H m' σ' → wipe σ' vs = wipe σ vs → Q σ' H
    | .ex _ _ _ => False) → t v (wipe σ vs) H Q
section
variable {T : Tb} {K : PySem.W.Frag}
theorem set_none {ρ : Rho} {M : Addr → Prop} {H : Hp} {m : MS} {σ : St} {x : MV} {v : V} (s : SimS T K ρ M H m σ) (i : Nat) (d : Den T K ρ M H x v) : SimS T K ρ M H (setS m i x) ((σ.set i none).set i (some v)) := by
  rw [List.set_set]; exact s.set i d
theorem gc_nm {i : Nat} : GC T K (gName i) (gNm i) [i] := fun ρ m h x σ H v Q s1 s2 d w => by
  exact w _ rfl (set_none s2 i d) (by show ((σ.set i none).set i (some v)).set i none = σ.set i none; rw [List.set_set, List.set_set])
theorem set3 {α : Type} (l : List α) (i j : Nat) (a b c d : α) : (((l.set i a).set j b).set i c).set j d = (l.set i c).set j d := by
  by_cases e : i = j
  · subst e; rw [List.set_set, List.set_set, List.set_set, List.set_set]
  · rw [List.set_comm _ _ (Ne.symm e), List.set_set, List.set_set]
theorem gc_2 {i j : Nat} : GC T K (gTup K 2 (gCons (gName i) (gCons (gName j) gNil))) (gTp 2 (gsCons (gNm i) (gsCons (gNm j) gsNil))) [i, j] := fun ρ m h x σ H v Q s1 s2 d w => by
  unfold gTp at w
  split at w
  · rename_i xs
    obtain ⟨c, w⟩ := ifT_wp w
    obtain ⟨a, vs, rfl, r, d1⟩ := den_tup d
    cases d1 with
    | nil => cases c
    | cons d1 d2 =>
      cases d2 with
      | nil => cases c
      | cons d2 d3 =>
        cases d3 with
        | cons _ _ => cases c
        | nil =>
          refine ⟨a, _, rfl, r, rfl, _, _, rfl, _, _, rfl, rfl, w _ rfl (?_) ?_⟩
          · show SimS T K ρ (Mu ρ h) H (setS (setS m i _) j _) ((((σ.set j none).set i none).set i (some _)).set j (some _))
            by_cases e : i = j
            · subst e
              rw [List.set_set, List.set_set, List.set_set]
              have := (s2.set i d1).set i d2
              rw [List.set_set] at this; exact this
            · rw [List.set_set, List.set_comm _ _ (Ne.symm e), List.set_set]
              exact (s2.set i d1).set j d2
          · show ((((((σ.set j none).set i none).set i (some _)).set j (some _)).set j none).set i none) = (σ.set j none).set i none
            by_cases e : i = j
            · subst e; simp only [List.set_set]
            · rw [List.set_set, List.set_set, List.set_comm _ _ e]; simp only [List.set_set]
  · exact w.elim
end
end
end WK
set_option Elab.async false
set_option linter.all false
set_option maxRecDepth 100000
/-! [e for t in xs if c] -/
namespace WK
noncomputable section
open PySem L2
def EF : XW := fun _ _ _ _ _ => False
def loopC (g : RunG) (c : RunE) (f : RunE) (items : List MV) : MS → MH → List MV → Tr EL := List.rec (motive := fun _ => MS → MH → List MV → Tr EL) (fun _ h acc => .ret (.ok acc.reverse h))
  (fun x _ ih m h acc => Tr.bg (g x m h) (fun m1 h1 => (c m1 h1).be (fun b h2 => br h2 b ((f m1 h2).be (fun y h3 => ih m h3 (y :: acc)) (fun _ _ => .bad)) (ih m h2 acc)) (fun _ _ => .bad)) (fun _ _ _ => .bad)) items
def runLc (mu : Bool) (it : RunI) (g : RunG) (c : RunE) (f : RunE) : RunE := fun m h => Tr.bl (it m h) (fun xs h1 => ifT (leB xs.length sizeLine) (Tr.bl (loopC g c f xs m h1 []) (newL mu) (fun _ _ => .bad))) exE
/-- the test's run, the tests' reading -/
def yesR : RunE := fun _ h => okE (.bl true) h
section
variable {T : Tb} {X : Cx} {E : XW}
def TsOk (T : Tb) (K : PySem.W.Frag) (tt : TT) (c : RunE) : Prop := ∀ σ H Q, tT T K EF c σ H Q → tt σ H Q
theorem ts_yes {K : PySem.W.Frag} : TsOk T K tYes yesR := fun σ H Q ⟨ρ, m, h, s1, s2, w⟩ => by
  obtain ⟨b, e, w⟩ := w
  cases e
  exact w ρ H Le.refl s1
theorem ts_one {K : PySem.W.Frag} {c : RunE} : TsOk T K (tT T K EF c) c := fun _ _ _ w => w
theorem t_lc {mu : Bool} {it : RunI} {g : RunG} {tg : TG} {tt : TT} {c f : RunE} {vs : List Nat} (gc : GC T X.K tg g vs) (tc : TsOk T X.K tt c) (σ : St) (H : Hp) (Q : VK) (w : tE T X.K E (runLc mu it g c f) σ H Q) : tLc (tI T X.K E it) tg tt (tE T X.K EF f) vs σ H Q := by
  obtain ⟨ρ, m, h, s1, s2, w⟩ := w
  refine ⟨ρ, m, h, s1, s2, Tr.wp_mono (Tr.wp_bl w) fun r q => ?_⟩
  cases r with
  | ex x h1 => exact q
  | ok xs h1 =>
    intro ρ1 H1 J l1 s1' ws D nD
    obtain ⟨cs, q⟩ := ifT_wp q
    have csz := leB_ok cs
    refine ⟨fun i k H2 => ∃ ρ2 h2 acc vsA, k = xs.length - i ∧ i ≤ xs.length ∧ acc.length ≤ i ∧ Le ρ1 h1 H1 ρ2 h2 H2 ∧ SimH T X.K ρ2 h2 H2 ∧ ρ2.amb D ∧ (∀ a, ρ1.amb a → ρ2.amb a) ∧ H2 D = some (.lst vsA) ∧ DenL T X.K ρ2 (Mu ρ2 h2) H2 acc.reverse vsA ∧ (Tr.bl (loopC g c f (xs.drop i) m h2 acc) (newL mu) (fun _ _ => .bad)).wp (postE T X.K E m ρ1 h1 H1 Q),
      ⟨xs.length, rhoA ρ1 D, h1, [], [], rfl, Nat.zero_le _, Nat.zero_le _, Le.apart nD, s1'.apart nD, .inr rfl, fun _ z => .inl z, upd_same, .nil, Tr.wp_mono q (postE.le l1)⟩, ?_⟩
    rintro i k H2 ⟨ρ2, h2, acc, vsA, rfl, hi, ha, l2, t2, aD, am, eD, dA, w2⟩
    have sm := (s2.le l1).le l2
    cases e : xs.drop i with
    | nil =>
      have hl : xs.length ≤ i := List.drop_eq_nil_iff.mp e
      have hl2 : i = xs.length := by omega
      subst hl2
      obtain ⟨z1, z2⟩ := ws ρ2 h2 H2 l2 t2
      rw [e] at w2
      refine .inl ⟨z1, ?_⟩
      have w3 : (newL mu acc.reverse h2).wp (postE T X.K E m ρ1 h1 H1 Q) := w2
      have nd : ¬ ρ1.amb D := fun z => by
        obtain ⟨o, eo⟩ := s1'.am D z
        rw [nD] at eo; cases eo
      have nOw : ¬ Own ρ2 h2 D := fun z => t2.dis D z aD
      have lU : Le ρ1 h1 H1 (rhoU ρ2 ρ1.amb) h2 H2 := ⟨l2.ext, l2.exv, l2.nxt, fun _ z => z, fun _ z => .inl z, l2.own, l2.keep, l2.live⟩
      cases mu with
      | false =>
        refine w3 _ H2 _ lU (t2.unamb am) (.lst (fun z => ?_) eD (DenL.mv (ρ := ρ2) (ρ' := rhoU ρ2 ρ1.amb) (M := Mu ρ2 h2) (fun _ _ e _ _ => e) (fun _ _ _ n z => n (mu_U am z)) (fun _ _ e => e) (fun _ _ e => e) dA))
        rcases z with z | z
        · exact nd z
        · exact nOw z
      | true =>
        refine w3 (rhoN (rhoU ρ2 ρ1.amb) h2.nxt D) H2 _ ⟨fun l a r => ?_, fun l v r => l2.exv l v r, Nat.le_succ_of_le l2.nxt, fun _ z => z, fun _ z => .inl z, fun a z => ?_, l2.keep, l2.live⟩ (t2.adopt am nd aD eD dA) (.ref rhoN_at)
        · have r2 := l2.ext l a r
          rw [rhoN_ne (Nat.ne_of_lt (t2.lt l a r2))]; exact r2
        · rcases (t2.unamb am).own_new z with y | y
          · exact .inr (by rw [y]; exact nD)
          · exact l2.own a y
    | cons x rest =>
      obtain ⟨e1, e2⟩ := drop_cons e
      have hlt : i < xs.length := (List.getElem?_eq_some_iff.mp e1).1
      obtain ⟨_, z2⟩ := ws ρ2 h2 H2 l2 t2
      obtain ⟨go, yl⟩ := z2 i x e1
      rw [e] at w2
      refine .inr ⟨go, fun H' => ∃ ρ' h' acc' vs', acc'.length ≤ i + 1 ∧ Le ρ1 h1 H1 ρ' h' H' ∧ SimH T X.K ρ' h' H' ∧ ρ'.amb D ∧ (∀ a, ρ1.amb a → ρ'.amb a) ∧ H' D = some (.lst vs') ∧ DenL T X.K ρ' (Mu ρ' h') H' acc'.reverse vs' ∧ (Tr.bl (loopC g c f (xs.drop (i + 1)) m h' acc') (newL mu) (fun _ _ => .bad)).wp (postE T X.K E m ρ1 h1 H1 Q),
        fun H' ⟨ρ', h', acc', vs', a1, a2, a3, a4, a5, a6, a7, a8⟩ => ⟨xs.length - (i + 1), by omega, ρ', h', acc', vs', rfl, hlt, a1, a2, a3, a4, a5, a6, a7, a8⟩, fun v H3 y => ?_⟩
      obtain ⟨ρ3, l3, t3, d3⟩ := yl v H3 y
      have keepD : ∀ {ρ' h' H' H''} {ρ'' : Rho} {h'' : MH} {us : List V}, Le ρ' h' H' ρ'' h'' H'' → SimH T X.K ρ' h' H' → ρ'.amb D → H' D = some (.lst us) → H'' D = some (.lst us) := fun {ρ' h' H' H'' ρ'' h'' us} l t a e => l.keep D _ e (fun z => t.dis D z a) rfl
      have w3 := (Tr.wp_bind _ _ _).mp w2
      have w4 : (Tr.bg (g x m h2) (fun m1 h1' => (c m1 h1').be (fun b h2 => br h2 b ((f m1 h2).be (fun y h3 => loopC g c f rest m h3 (y :: acc)) (fun _ _ => .bad)) (loopC g c f rest m h2 acc)) (fun _ _ => .bad)) (fun _ _ _ => .bad)).wp _ := w3
      refine gc ρ3 m h2 x σ H3 v _ t3 (sm.le l3) d3 (Tr.wp_mono (Tr.wp_bg w4) fun r' q3 => ?_)
      cases r' with
      | ex _ _ _ => exact q3.elim
      | ok m4 h4 =>
        intro σ4 e4 s4 wip
        subst e4
        refine ⟨wip, tc _ _ _ ⟨ρ3, m4, h4, t3, s4, Tr.wp_mono (Tr.wp_be q3) fun r' q5 => ?_⟩⟩
        cases r' with
        | ex _ _ => exact q5.elim
        | ok b h5 =>
          cases eb : tru h5 b with
          | none => simp only [br_eq, eb] at q5; exact q5.elim
          | some bb =>
            refine ⟨bb, eb, fun ρ5 H5 l5 t5 => ?_⟩
            have l35 := l3.trans l5
            have a3 := l3.amb D aD
            have e3 := keepD l3 t2 aD eD
            have a5 := l5.amb D a3
            have e5 := keepD l5 t3 a3 e3
            cases bb with
            | false =>
              simp only [br_eq, eb] at q5
              show ite _ _ _
              rw [if_neg Bool.false_ne_true]
              exact ⟨ρ5, h5, acc, vsA, Nat.le_succ_of_le ha, l2.trans l35, t5, a5, fun a z => l5.amb a (l3.amb a (am a z)), e5, dA.le l35, by rw [e2]; exact (Tr.wp_bind _ _ _).mpr q5⟩
            | true =>
              simp only [br_eq, eb] at q5
              show ite _ _ _
              rw [if_pos rfl]
              refine ⟨ρ5, m4, h5, t5, s4.le l5, Tr.wp_mono (Tr.wp_be q5) fun r' q6 => ?_⟩
              cases r' with
              | ex _ _ => exact q6.elim
              | ok y h6 =>
                intro ρ6 H6 vy l6 t6 dy
                have a6 := l6.amb D a5
                have e6 := keepD l6 t5 a5 e5
                have l36 := l35.trans l6
                have lB := l2.trans l36
                have nm : ∀ a o, H6 a = some o → ¬ Mu ρ6 h6 a → isTbl o = false → upd H6 D (.lst (vsA ++ [vy])) a = some o := fun a o ea n _ => by
                  rw [upd_ne (fun z : a = D => n (by rw [z]; exact .inl a6))]; exact ea
                have dl := dA.length
                rw [List.length_reverse] at dl
                refine ⟨vsA, e6, by rw [← dl]; omega, ρ6, h6, y :: acc, vsA ++ [vy], by rw [List.length_cons]; omega, ?_, t6.grow a6 e6 rfl, a6, fun a z => l6.amb a (l5.amb a (l3.amb a (am a z))), upd_same, ?_, by rw [e2]; exact (Tr.wp_bind _ _ _).mpr q6⟩
                · exact ⟨lB.ext, lB.exv, lB.nxt, lB.amb, lB.amb2, lB.own, fun a o ea n t => by
                    rw [upd_ne (ne_of_none ea nD)]; exact lB.keep a o ea n t, fun a o ea => by
                    obtain ⟨u, eu⟩ := lB.live a o ea
                    exact ⟨u, by rw [upd_ne (ne_of_none ea nD)]; exact eu⟩⟩
                · rw [List.reverse_cons]
                  exact ((dA.le l36).mv nm (fun _ _ _ n => n) (fun _ _ e => e) (fun _ _ e => e)).app (.cons (dy.mv nm (fun _ _ _ n => n) (fun _ _ e => e) (fun _ _ e => e)) .nil)
theorem s_lc {mu : Bool} {elt tg iter : Expr} {ifs : List Expr} {scope : Scope} {own : List (Str × Nat)} {pos : Pos} {it : RunI} {g : RunG} {t : TG} {tt : TT} {c f : RunE} (hc : X.calm = true) (hN : X.N.Nodup) (hi : SI T X E tg iter it) (ok : BlkOk X.N X.env.scope scope own)
    (hg : ∀ (s : Shared) (H : Hp) (C : Addr) (cl : List (Str × Addr)) (fp : List Addr), PG (X.blk s H scope (compEnvC scope cl C X.env) fp) tg t) (gc : GC T X.K t g (own.map (·.2)))
    (ht : ∀ (s : Shared) (H : Hp) (C : Addr) (cl : List (Str × Addr)) (fp : List Addr), PTs (X.blk s H scope (compEnvC scope cl C X.env) fp) ifs tt) (tc : TsOk T X.K tt c)
    (he : ∀ (s : Shared) (H : Hp) (C : Addr) (cl : List (Str × Addr)) (fp : List Addr), SE T (X.blk s H scope (compEnvC scope cl C X.env) fp) EF elt f) (hs : ∀ x, foldedSetIterable iter X.env x = pure x) :
    SE T X E (.ListComp elt [⟨tg, iter, ifs, 0⟩] scope pos) (runLc mu it g c f) :=
  .ofV (peI (pe_lc hc hN hi ok hg ht (fun s H C cl fp => (he s H C cl fp).v) hs) (t_lc gc tc)) fun _ => rfl
theorem s_setLc {mu : Bool} {i : Nat} {y : Str} {py : Pos} {elt tg iter : Expr} {ifs : List Expr} {scope : Scope} {own : List (Str × Nat)} {pos spos : Pos} {it : RunI} {g : RunG} {t : TG} {tt : TT} {c f : RunE} (hc : X.calm = true) (hN : X.N.Nodup) (hy : X.N[i]? = some y) (hyl : X.env.scope.names.lookup y = some .local)
    (hsw : swapsWith (.ListComp elt [⟨tg, iter, ifs, 0⟩] scope pos) (some (.Name y py)) spos.line X.env = pure true) (hi : SI T X E tg iter it) (ok : BlkOk X.N X.env.scope scope own)
    (hg : ∀ (s : Shared) (H : Hp) (C : Addr) (cl : List (Str × Addr)) (fp : List Addr), PG (X.blk s H scope (compEnvC scope cl C X.env) fp) tg t) (gc : GC T X.K t g (own.map (·.2)))
    (ht : ∀ (s : Shared) (H : Hp) (C : Addr) (cl : List (Str × Addr)) (fp : List Addr), PTs (X.blk s H scope (compEnvC scope cl C X.env) fp) ifs tt) (tc : TsOk T X.K tt c)
    (he : ∀ (s : Shared) (H : Hp) (C : Addr) (cl : List (Str × Addr)) (fp : List Addr), SE T (X.blk s H scope (compEnvC scope cl C X.env) fp) EF elt f) (hs : ∀ x, foldedSetIterable iter X.env x = pure x) :
    SS T X E (.Assign [.Name y py] (.ListComp elt [⟨tg, iter, ifs, 0⟩] scope pos) spos) (runAsg (runLc mu it g c f) (gNm i)) :=
  psI (ps_setLc hc hN hy hyl hsw hi ok hg ht (fun s H C cl fp => (he s H C cl fp).v) hs) fun D σ H w => t_lc (E := E) (mu := mu) (it := it) (g := g) (c := c) (f := f) gc tc σ H _ (by
    obtain ⟨ρ, m, h, s1, s2, w⟩ := w
    refine ⟨ρ, m, h, s1, s2, Tr.wp_mono (Tr.wp_be w) fun r q => ?_⟩
    cases r with
    | ex x h1 => exact q
    | ok x h1 => exact fun ρ1 H1 v l s d => q ρ1 H1 _ l s ((s2.le l).set i d))
end
end
end WK
set_option Elab.async false
set_option linter.all false
set_option maxRecDepth 100000
/-! built-ins -/
namespace WK
noncomputable section
open PySem L2
/-! ### types -/
inductive Ty where
  | nonT | boolT | intT | strT | listT | tupleT | dictT
  deriving DecidableEq
def Ty.nm : Ty → String
  | .nonT => "NoneType" | .boolT => "bool" | .intT => "int" | .strT => "str" | .listT => "list" | .tupleT => "tuple" | .dictT => "dict"
def isTy : Ty → Ty → Bool
  | .nonT, .nonT => true | .boolT, .boolT => true | .boolT, .intT => true | .intT, .intT => true | .strT, .strT => true | .listT, .listT => true | .tupleT, .tupleT => true | .dictT, .dictT => true
  | _, _ => false
theorem isTy_ok (a b : Ty) : kitB a.nm b.nm = some (isTy a b) := by
  cases a <;> cases b <;> decide +kernel
def tyM (h : MH) : MV → Option Ty
  | .non => some .nonT | .bl _ => some .boolT | .int _ => some .intT | .ati _ => some .intT | .str _ => some .strT | .ats _ => some .strT
  | .lst _ => some .listT | .tup _ => some .tupleT
  | .dct true _ => some .dictT
  | .ref l => match h.get l with
    | some (.lst _) => some .listT
    | some (.dct true _) => some .dictT
    | _ => none
  | _ => none
section
variable {T : Tb}
theorem sqT_K {K : PySem.W.Frag} {a : Addr} {vs : List V} (s : ∀ H, SqT K H a vs) : ∃ o, K.lookup a = some o ∧ o.cls = .type "tuple" := by
  rcases s (fun _ => none) with r | ⟨o, its, n, h1, h2, _⟩
  · rcases r with r | ⟨_, r⟩ <;> cases r
  · exact ⟨o, h1, h2⟩
theorem tyM_ok {K : PySem.W.Frag} {ρ : Rho} {h : MH} {H : Hp} {x : MV} {v : V} {t : Ty} (s : SimH T K ρ h H) (e : tyM h x = some t) (d : Den T K ρ (Mu ρ h) H x v) : TyX K H v (.type t.nm) := by
  unfold tyM at e
  split at e
  · cases e; cases d; exact .base .non
  · cases e; cases d; exact .base (.bl _)
  · cases e; cases d; exact .base (.int _)
  · cases e; cases d; exact .base (.int _)
  · cases e; cases d; exact .base (.str _)
  · cases e; cases d; exact .base (.str _)
  · cases e
    cases d with
    | lst n r d => exact .base (.lst r)
  · cases e
    cases d with
    | tup n r d => exact .base (.tup r)
    | tupK s d =>
      obtain ⟨o, h1, h2⟩ := sqT_K s
      exact .kTuple h1 h2
  · cases e
    cases d with
    | dK n r d => exact .base (.dK r)
  · split at e
    · rename_i q
      cases e
      cases d with
      | ref r =>
        obtain ⟨a, r', vs, z, _⟩ := s.ob _ _ q
        rw [r] at r'; cases r'
        exact .base (.lst z)
    · rename_i q
      cases e
      cases d with
      | ref r =>
        obtain ⟨a, r', vs, z, _⟩ := s.ob _ _ q
        rw [r] at r'; cases r'
        exact .base (.dK z)
    · cases e
  · cases e
end
section
variable {T : Tb} {X : Cx} {E : XW}
/-- what follows from a call's arguments -/
def CallS (T : Tb) (X : Cx) (r : List V → Hp → VK → Prop) (k : List MV → MH → Tr ER) : Prop := ∀ ρ h H xs vs m E Q, SimH T X.K ρ h H → DenL T X.K ρ (Mu ρ h) H xs vs → (k xs h).wp (postE T X.K E m ρ h H Q) → r vs H Q
theorem s_biB {id : String} {r : List V → Hp → VK → Prop} {k : List MV → MH → Tr ER} {x : Str} {p pos : Pos} {e : Expr} {es : List Expr} {g : RunL} (hc : CallR X (.builtin id) r) (hk : CallS T X r k) (hg : Gl X x) (hm : X.mg x = none) (hv : bootBuiltins x = some (.builtin id)) (ha : SA T X E (e :: es) g) (hn : x ≠ "__name__") (hdb : (x == ("__debug__" : Str)) = false) :
    SE T X E (.Call (.Name x p) (e :: es) [] pos) (runArgs g k) :=
  have hns : notStar e = true ∧ es.all notStar = true := Bool.and_eq_true_iff.mp ha.ns
  .ofV (peI (pe_callB hc hg hm hv ha.a hn hdb (star_cons hns.1) (by rw [backTo_any]; exact star_all hns.2)) (tA_then hk)) fun _ => rfl
theorem s_biT {n : String} {r : List V → Hp → VK → Prop} {k : List MV → MH → Tr ER} {x : Str} {p pos : Pos} {e : Expr} {es : List Expr} {g : RunL} (hc : CallR X (.type n) r) (hk : CallS T X r k) (hg : Gl X x) (hm : X.mg x = none) (hv : bootBuiltins x = some (.type n)) (ha : SA T X E (e :: es) g) (hn : x ≠ "__name__") (hdb : (x == ("__debug__" : Str)) = false) :
    SE T X E (.Call (.Name x p) (e :: es) [] pos) (runArgs g k) :=
  have hns : notStar e = true ∧ es.all notStar = true := Bool.and_eq_true_iff.mp ha.ns
  .ofV (peI (pe_callTy hc hg hm hv ha.a hn hdb (star_cons hns.1) (by rw [backTo_any]; exact star_all hns.2)) (tA_then hk)) fun _ => rfl
/-! ### len -/
def kLen : List MV → MH → Tr ER := fun xs h => match xs with
  | [.str z] => ifT (leB z.length sizeLine) (okE (.int z.length) h)
  | [x] => match asQ h x with
    | some ys => okE (.int ys.length) h
    | none => .bad
  | _ => .bad
def rLenB (K : PySem.W.Frag) : List V → Hp → VK → Prop := fun xs H Q => (∃ p ys, xs = [.ref p] ∧ (SqL K H p ys ∨ SqT K H p ys) ∧ Q (.int ys.length) H) ∨ (∃ z, xs = [.str z] ∧ z.length ≤ sizeLine ∧ Q (.int z.length) H)
theorem cr_len : CallR X (.builtin "len") (rLenB X.K) := call_len_seq.or call_len_str
theorem kLen_ok : CallS T X (rLenB X.K) kLen := fun ρ h H xs vs m E Q s d w => by
  unfold kLen at w
  split at w
  · obtain ⟨c, w⟩ := ifT_wp w
    cases d with
    | cons d1 d2 => cases d2; cases d1; exact .inr ⟨_, rfl, leB_ok c, post_int s w⟩
  · split at w
    · rename_i e1
      cases d with
      | cons d1 d2 =>
        cases d2
        obtain ⟨a, vs, rfl, r, d3⟩ := den_asQ s e1 d1
        refine .inl ⟨a, vs, rfl, r, ?_⟩
        rw [← d3.length]
        exact post_int s w
    · exact w.elim
  · exact w.elim
/-! ### list, tuple -/
def kList (m : Bool) : List MV → MH → Tr ER := fun xs h => match xs with
  | [x] => match asQ h x with
    | some ys => newL m ys h
    | none => .bad
  | _ => .bad
theorem kList_ok (mu : Bool) : CallS T X (fun xs H Q => ∃ p ys, xs = [.ref p] ∧ (SqL X.K H p ys ∨ SqT X.K H p ys) ∧ ∀ l, H l = none → Q (.ref l) (upd H l (.lst ys))) (kList mu) := fun ρ h H xs vs m E Q s d w => by
  unfold kList at w
  split at w
  · split at w
    · rename_i e1
      cases d with
      | cons d1 d2 =>
        cases d2
        obtain ⟨a, vs, rfl, r, d3⟩ := den_asQ s e1 d1
        exact ⟨a, vs, rfl, r, newL_ok s d3 w⟩
    · exact w.elim
  · exact w.elim
def kTuple : List MV → MH → Tr ER := fun xs h => match xs with
  | [.tup ys] => okE (.tup ys) h
  | [x] => match asL h x with
    | some ys => okE (.tup ys) h
    | none => .bad
  | _ => .bad
theorem kTuple_ok : CallS T X (fun xs H Q => ∃ p ys, xs = [.ref p] ∧ ((SqL X.K H p ys ∧ ∀ l, H l = none → Q (.ref l) (upd H l (.tup ys))) ∨ (SqT X.K H p ys ∧ Q (.ref p) H))) kTuple := fun ρ h H xs vs m E Q s d w => by
  unfold kTuple at w
  split at w
  · cases d with
    | cons d1 d2 =>
      cases d2
      have d1' := d1
      obtain ⟨a, vs, rfl, r, d3⟩ := den_tup d1
      exact ⟨a, vs, rfl, .inr ⟨r, post_den s d1' w⟩⟩
  · split at w
    · rename_i e1
      cases d with
      | cons d1 d2 =>
        cases d2
        obtain ⟨a, vs, rfl, r, d3⟩ := den_asL s e1 d1
        exact ⟨a, vs, rfl, .inl ⟨SqL.of r, post_tup s d3 w⟩⟩
    · exact w.elim
  · exact w.elim
/-! ### all, any of bools -/
def blsM : List MV → Option (List Bool)
  | [] => some []
  | .bl b :: r => match blsM r with
    | some bs => some (b :: bs)
    | none => none
  | _ => none
theorem blsM_ok {K : PySem.W.Frag} {ρ : Rho} {M : Addr → Prop} {H : Hp} : ∀ {xs : List MV} {vs : List V} {bs : List Bool}, blsM xs = some bs → DenL T K ρ M H xs vs → vs = bs.map V.bl
  | [], _, _, e, d => by cases e; cases d; rfl
  | .bl b :: r, _, _, e, d => by
    have e1 : (match blsM r with
      | some bs => some (b :: bs)
      | none => none) = some _ := e
    cases q : blsM r with
    | none => rw [q] at e1; cases e1
    | some bs =>
      rw [q] at e1; cases e1
      cases d with
      | cons d1 d2 => cases d1; rw [blsM_ok q d2]; rfl
def kBools (f : List Bool → Bool) : List MV → MH → Tr ER := fun xs h => match xs with
  | [x] => match asL h x with
    | some ys => match blsM ys with
      | some bs => okE (.bl (f bs)) h
      | none => .bad
    | none => .bad
  | _ => .bad
theorem kBools_ok (f : List Bool → Bool) : CallS T X (fun vs H Q => ∃ (a : Addr) (bs : List Bool), vs = [V.ref a] ∧ SqL X.K H a (bs.map V.bl) ∧ Q (.bl (f bs)) H) (kBools f) := fun ρ h H xs vs m E Q s d w => by
  unfold kBools at w
  split at w
  · split at w
    · rename_i e1
      split at w
      · rename_i e2
        cases d with
        | cons d1 d2 =>
          cases d2
          obtain ⟨a, vs, rfl, r, d3⟩ := den_asL s e1 d1
          rw [blsM_ok e2 d3] at r
          exact ⟨a, _, rfl, SqL.of r, post_bl s w⟩
      · exact w.elim
    · exact w.elim
  · exact w.elim
/-! ### sum, max, min of two, abs -/
def kSum : List MV → MH → Tr ER := fun xs h => match xs with
  | [x] => match asL h x with
    | some ys => match intsM ys with
      | some ns => okE (.int ns.sum) h
      | none => .bad
    | none => .bad
  | _ => .bad
theorem kSum_ok : CallS T X (rSum X.K) kSum := fun ρ h H xs vs m E Q s d w => by
  unfold kSum at w
  split at w
  · split at w
    · rename_i e1
      split at w
      · rename_i e2
        cases d with
        | cons d1 d2 =>
          cases d2
          obtain ⟨a, vs, rfl, r, d3⟩ := den_asL s e1 d1
          rw [intsM_ok e2 d3] at r
          exact ⟨a, _, rfl, SqL.of r, post_int s w⟩
      · exact w.elim
    · exact w.elim
  · exact w.elim
def kI2 (f : Int → Int → Int) : List MV → MH → Tr ER := fun xs h => match xs with
  | [.int i, .int j] => okE (.int (f i j)) h
  | _ => .bad
theorem kI2_ok (f : Int → Int → Int) : CallS T X (fun xs H Q => ∃ i j, xs = [.int i, .int j] ∧ Q (.int (f i j)) H) (kI2 f) := fun ρ h H xs vs m E Q s d w => by
  unfold kI2 at w
  split at w
  · cases d with
    | cons d1 d2 =>
      cases d2 with
      | cons d2 d3 =>
        cases d3; cases d1; cases d2
        exact ⟨_, _, rfl, post_int s w⟩
  · exact w.elim
/-! ### isinstance with built-in types -/
def opIsi (t : Ty) (x : MV) (h : MH) : Tr ER := match tyM h x with
  | some u => okE (.bl (isTy u t)) h
  | none => .bad
theorem s_isiTy {e : Expr} {f : RunE} {n : Str} {t : Ty} {p q pos : Pos} (he : SE T X E e f) (hst : notStar e = true) (hg : Gl X "isinstance") (hm : X.mg "isinstance" = none) (hgt : Gl X n) (hmt : X.mg n = none) (hvt : bootBuiltins n = some (.type t.nm)) (hn : n ≠ "__name__") (hd : (n == ("__debug__" : Str)) = false) :
    SE T X E (.Call (.Name "isinstance" p) [e, .Name n q] [] pos) (run1 f (opIsi t)) :=
  .ofV (peI (pe_callB call_isi hg hm rfl (pa_cons he.v (pa_cons (pe_bltn hgt hmt hvt (show RelV (.ty t.nm) (.type t.nm) from rfl) hn hd) pa_nil) (star_cons hst)) (by decide) (by decide) (star_cons hst)) (t_run1 fun ρ h H x v m E Q s d w => by
    unfold opIsi at w
    split at w
    · rename_i u e1
      exact ⟨v, .ty t.nm, .type u.nm, .type t.nm, _, rfl, .ty _, tyM_ok s e1 d, kit_ty (isTy_ok u t), post_bl s w⟩
    · exact w.elim)) fun _ => rfl
def opIsi2 (t t' : Ty) (x : MV) (h : MH) : Tr ER := match tyM h x with
  | some u => okE (.bl (isTy u t || isTy u t')) h
  | none => .bad
theorem s_isiTy2 {e : Expr} {f : RunE} {n n' : Str} {t t' : Ty} {p q q' pos tp : Pos} {k : Nat} (he : SE T X E e f) (hst : notStar e = true) (hg : Gl X "isinstance") (hm : X.mg "isinstance" = none) (hgt : Gl X n) (hmt : X.mg n = none) (hvt : bootBuiltins n = some (.type t.nm)) (hn : n ≠ "__name__") (hd : (n == ("__debug__" : Str)) = false)
    (hgt' : Gl X n') (hmt' : X.mg n' = none) (hvt' : bootBuiltins n' = some (.type t'.nm)) (hn' : n' ≠ "__name__") (hd' : (n' == ("__debug__" : Str)) = false) :
    SE T X E (.Call (.Name "isinstance" p) [e, .Tuple [.Name n q, .Name n' q'] k tp] [] pos) (run1 f (opIsi2 t t')) :=
  .ofV (peI (pe_callB call_isiT hg hm rfl (pa_cons he.v (pa_cons (pe_tup (pa_cons (pe_bltn hgt hmt hvt (show RelV (.ty t.nm) (.type t.nm) from rfl) hn hd) (pa_cons (pe_bltn hgt' hmt' hvt' (show RelV (.ty t'.nm) (.type t'.nm) from rfl) hn' hd') pa_nil))) pa_nil) (star_cons hst)) (by decide) (by decide) (star_cons hst)) (t_run1 (r := fun v H1 Q => [V.ty t.nm, V.ty t'.nm].length ≤ sizeLine ∧ ∀ a, H1 a = none → rIsiT X.K [v, .ref a] (upd H1 a (.tup [.ty t.nm, .ty t'.nm])) Q) (op := opIsi2 t t') fun ρ h H x v m E Q s d w => by
    unfold opIsi2 at w
    split at w
    · rename_i u e1
      refine ⟨by show 2 ≤ sizeLine; decide, fun a na => ?_⟩
      have d' := d.le (Le.neu (o := .tup [.ty t.nm, .ty t'.nm]) na)
      have s' := s.neu (o := .tup [.ty t.nm, .ty t'.nm]) na
      refine ⟨v, a, _, .type u.nm, [.type t.nm, .type t'.nm], _, rfl, upd_same, .cons (.ty _) (.cons (.ty _) .nil), tyM_ok s' e1 d', ?_, post_bl s' (postE.le (Le.neu na) _ w)⟩
      refine kitAny_cons (kit_ty (isTy_ok u t)) (fun z => kitAny_cons (kit_ty (isTy_ok u t')) (fun z' => ?_) fun z' => by rw [z']; simp) fun z => by rw [z]; rfl
      rw [z, z']; rfl
    · exact w.elim)) fun _ => rfl
end
end
end WK
set_option Elab.async false
set_option linter.all false
set_option maxRecDepth 100000
/-! instances -/
namespace WK
noncomputable section
open PySem L2
section
variable {T : Tb} {K : PySem.W.Frag} {ρ : Rho} {h : MH} {H : Hp}
theorem den_asI {x : MV} {c : Nat} {fs : List (Nat × MV)} {v : V} (s : SimH T K ρ h H) (e : asI h x = some (c, fs)) (d : Den T K ρ (Mu ρ h) H x v) : ∃ a dx gs, v = .ref a ∧ H a = some (.ins (cAd T K c) dx gs) ∧ DenF T K ρ (Mu ρ h) H fs gs := by
  cases x with
  | ins c' fs' =>
    cases e
    cases d with
    | ins n r d => exact ⟨_, _, _, rfl, r, d⟩
  | ref l =>
    have e1 : (match h.get l with
      | some (.ins c fs) => some (c, fs)
      | _ => none) = some (c, fs) := e
    cases q : h.get l with
    | none => rw [q] at e1; cases e1
    | some o =>
      rw [q] at e1
      cases o with
      | ins c' fs' =>
        cases e1
        cases d with
        | ref r =>
          obtain ⟨a, r', dx, gs, z, dd⟩ := s.ob l _ q
          rw [r] at r'; cases r'
          exact ⟨_, dx, gs, rfl, z, dd⟩
      | _ => cases e1
  | _ => cases e
theorem nmS_inj (nd : T.nm.Nodup) {f g : Nat} (hf : f < T.nm.length) (hg : g < T.nm.length) (e : nmS T f = nmS T g) : f = g := by
  unfold nmS at e
  rw [List.getD_eq_getElem?_getD, List.getD_eq_getElem?_getD, List.getElem?_eq_getElem hf, List.getElem?_eq_getElem hg] at e
  have e' : T.nm[f] = T.nm[g] := e
  exact (List.getElem_inj nd).mp e'
theorem lk_cons (f k : Nat) (v : MV) (r : List (Nat × MV)) : lk f ((k, v) :: r) = if f = k then some v else lk f r := by
  by_cases e : f = k
  · subst e
    rw [if_pos rfl]
    show (match Nat.beq f f with | true => some v | false => lk f r) = _
    rw [beq_self]
  · rw [if_neg e]
    show (match Nat.beq f k with | true => some v | false => lk f r) = _
    rw [beq_ne e]
theorem den_lk {M : Addr → Prop} : ∀ {fs : List (Nat × MV)} {gs : List (Str × V)} {f : Nat} {x : MV}, DenF T K ρ M H fs gs → lk f fs = some x → ∃ v, gs.lookup (nmS T f) = some v ∧ Den T K ρ M H x v ∧ f < T.nm.length
  | _, _, _, _, .nil, e => by cases e
  | _, _, f, x, .cons (f := g) (gs := gs) hg d r, e => by
    rw [lk_cons] at e
    by_cases z : f = g
    · subst z
      rw [if_pos rfl] at e; cases e
      exact ⟨_, by simp [List.lookup], d, hg⟩
    · rw [if_neg z] at e
      obtain ⟨v, e1, e2, e3⟩ := den_lk r e
      refine ⟨v, ?_, e2, e3⟩
      have n : (nmS T f == nmS T g) = false := by
        have : nmS T f ≠ nmS T g := fun q => z (nmS_inj T.nd e3 hg q)
        simpa using this
      simp only [List.lookup, n]
      exact e1
theorem den_lkN {M : Addr → Prop} {f : Nat} (hf : f < T.nm.length) : ∀ {fs : List (Nat × MV)} {gs : List (Str × V)}, DenF T K ρ M H fs gs → lk f fs = none → gs.lookup (nmS T f) = none
  | _, _, .nil, e => rfl
  | _, _, .cons (f := g) hg d r, e => by
    rw [lk_cons] at e
    by_cases z : f = g
    · rw [if_pos z] at e; cases e
    · rw [if_neg z] at e
      have n : (nmS T f == nmS T g) = false := by
        have : nmS T f ≠ nmS T g := fun q => z (nmS_inj T.nd hf hg q)
        simpa using this
      simp only [List.lookup, n]
      exact den_lkN hf r e
theorem put_cons (f k : Nat) (v u : MV) (r : List (Nat × MV)) : put f v ((k, u) :: r) = if f = k then (k, v) :: r else (k, u) :: put f v r := by
  by_cases e : f = k
  · subst e
    rw [if_pos rfl]
    show (match Nat.beq f f with | true => (f, v) :: r | false => _) = _
    rw [beq_self]
  · rw [if_neg e]
    show (match Nat.beq f k with | true => (k, v) :: r | false => (k, u) :: put f v r) = _
    rw [beq_ne e]
theorem DenF.put {M : Addr → Prop} {f : Nat} (hf : f < T.nm.length) {x : MV} {v : V} (d : Den T K ρ M H x v) : ∀ {fs : List (Nat × MV)} {gs : List (Str × V)}, DenF T K ρ M H fs gs → DenF T K ρ M H (WK.put f x fs) (putF (nmS T f) v gs)
  | _, _, .nil => .cons hf d .nil
  | _, _, .cons (f := g) hg d1 r => by
    rw [put_cons]
    unfold putF
    by_cases z : f = g
    · subst z
      rw [if_pos rfl, if_pos rfl]
      exact .cons hg d r
    · rw [if_neg z, if_neg (fun q => z (nmS_inj T.nd hf hg q.symm))]
      exact .cons hg d1 (DenF.put hf d r)
theorem DenF.length {M : Addr → Prop} : ∀ {fs : List (Nat × MV)} {gs : List (Str × V)}, DenF T K ρ M H fs gs → fs.length = gs.length
  | _, _, .nil => rfl
  | _, _, .cons _ _ r => congrArg (· + 1) r.length
end
def memN (c : Nat) : List Nat → Bool
  | [] => false
  | d :: r => match Nat.beq c d with
    | true => true
    | false => memN c r
theorem memN_ok : ∀ {c : Nat} {l : List Nat}, memN c l = true → c ∈ l
  | c, d :: r, h => by
    have h' : (match Nat.beq c d with | true => true | false => memN c r) = true := h
    cases e : Nat.beq c d with
    | true => rw [Nat.eq_of_beq_eq_true e]; exact List.mem_cons_self
    | false => rw [e] at h'; exact List.mem_cons_of_mem _ (memN_ok h')
section
variable {T : Tb} {X : Cx} {E : XW}
/-! ### e.f -/
def kFld (cs : List Nat) (f c : Nat) (fs : List (Nat × MV)) (h : MH) : Tr ER := ifT (memN c cs) (okO (lk f fs) h)
def opFld (cs : List Nat) (f : Nat) (x : MV) (h : MH) : Tr ER := match x with
  | .ins c fs => kFld cs f c fs h
  | x => match asI h x with
    | some (c, fs) => kFld cs f c fs h
    | none => .bad
theorem opFld_eq (cs : List Nat) (f : Nat) (x : MV) (h : MH) : opFld cs f x h = (match asI h x with
    | some (c, fs) => kFld cs f c fs h
    | none => .bad) := by
  cases x <;> rfl
/-- what the classes cs are: f is no class's attribute -/
def FldOk (T : Tb) (K : PySem.W.Frag) (cs : List Nat) (f : Nat) : Prop := ∀ c ∈ cs, Cls K (cAd T K c) ∧ NoAttr K (cAd T K c) (nmS T f)
theorem s_fld {e : Expr} {n : Str} {pos : Pos} {g : RunE} {cs : List Nat} {f : Nat} (he : SE T X E e g) (hn : nmS T f = n) (hc : FldOk T X.K cs f) (hb : attributeBase e n X.env (eval e X.env) = eval e X.env) : SE T X E (.Attribute e n pos) (run1 g (opFld cs f)) :=
  .ofV (peI (pe_fld he.v hb) (t_run1 fun ρ h H x v m E Q s d w => by
    rw [opFld_eq] at w
    split at w
    · rename_i c fs e1
      obtain ⟨k, w⟩ := ifT_wp w
      cases e2 : lk f fs with
      | none => rw [e2] at w; exact w.elim
      | some y =>
        rw [e2] at w
        obtain ⟨a, dx, gs, rfl, r, df⟩ := den_asI s e1 d
        obtain ⟨u, q1, q2, _⟩ := den_lk df e2
        obtain ⟨c1, c2⟩ := hc c (memN_ok k)
        rw [hn] at q1 c2
        exact ⟨a, _, dx, gs, u, rfl, r, c1, c2, q1, post_den s q2 w⟩
    · exact w.elim)) fun _ => rfl
/-! ### o.m(..) -/
/-- the def at f is what run says, at any call with all n arguments -/
structure FI (T : Tb) (X : Cx) (d : Nat) (f : Addr) (n : Nat) (run : List MV → MH → Tr ER) : Prop where
  ex : ∃ fd ps, ps.length = n ∧ FnOk X.prog X.w X.K X.mg X.base (L2.CX X.prog X.w) d f fd ps (spF T X.K n run) ∧ Binds X.K fd ps []
/-- the classes' method: the def's place -/
def MthOk (T : Tb) (X : Cx) (d : Nat) (n : Nat) (m : Nat) (tbl : List (Nat × (List MV → MH → Tr ER))) : Prop := m < T.nm.length ∧ ∀ c run, (c, run) ∈ tbl → ∃ g, Cls X.K (cAd T X.K c) ∧ Meth X.K (cAd T X.K c) (nmS T m) g ∧ FI T X d g n run
theorem asc_mem {α : Type} : ∀ {k : Nat} {l : List (Nat × α)} {v : α}, asc k l = some v → (k, v) ∈ l
  | k, (j, u) :: r, v, h => by
    have h' : (match Nat.beq k j with | true => some u | false => asc k r) = some v := h
    cases e : Nat.beq k j with
    | true =>
      rw [e] at h'
      cases h'
      rw [Nat.eq_of_beq_eq_true e]; exact List.mem_cons_self
    | false => rw [e] at h'; exact List.mem_cons_of_mem _ (asc_mem h')
theorem run_fnS2 {d n : Nat} {f : Addr} {run : List MV → MH → Tr ER} {W : XK} {pins : List (Addr × Obj)} {σ : St} {H : Hp} {s : Shared} {Q : VK} {us : List Value} {vs : List V} (F : FI T X d f n run) (hr : Room d X.A) (hx : PassesAt (L2.CX X.prog X.w) X σ W) (I : Inv X pins σ H s) (r : Vals vs us) (q : spF T X.K n run vs H Q W) :
    wpAny (model X.prog X.w) X.A (call (.ref f) us) (EP X pins σ Q) X.xe s := by
  obtain ⟨fd, ps, hl, F1, hb⟩ := F.ex
  exact run_fnSD (sp := spF T X.K n run) (dvs := []) (ds := []) (E := fun _ => W) F1 hr hb .nil hx I r (by rw [List.append_nil]; exact q)
/-- what a method call's receiver leads to -/
def recvM (tbl : List (Nat × (List MV → MH → Tr ER))) (m : Nat) (k : (List MV → MH → Tr ER) → Tr ER) (x : MV) (h : MH) : Tr ER := match asI h x with
  | some (c, fs) => match lk m fs with
    | some _ => .bad
    | none => match asc c tbl with
      | some run => k run
      | none => .bad
  | none => .bad
theorem recvM_wp {tbl : List (Nat × (List MV → MH → Tr ER))} {m : Nat} {k : (List MV → MH → Tr ER) → Tr ER} {x : MV} {h : MH} {Q : ER → Prop} (w : (recvM tbl m k x h).wp Q) : ∃ c fs run, asI h x = some (c, fs) ∧ lk m fs = none ∧ (c, run) ∈ tbl ∧ (k run).wp Q := by
  unfold recvM at w
  split at w
  · rename_i c fs e1
    split at w
    · exact w.elim
    · rename_i e3
      split at w
      · rename_i run e2
        exact ⟨c, fs, run, e1, e3, asc_mem e2, w⟩
      · exact w.elim
  · exact w.elim
def runMth (tbl : List (Nat × (List MV → MH → Tr ER))) (pur : Bool) (m : Nat) (f : RunE) (g : RunL) : RunE := fun ms h => (f ms h).be (fun x h1 => recvM tbl m (fun run => Tr.bl (g ms h1) (fun ys h2 => callP pur run (x :: ys) h2) exE) x h1) exE
def runMth0 (tbl : List (Nat × (List MV → MH → Tr ER))) (pur : Bool) (m : Nat) (f : RunE) : RunE := fun ms h => (f ms h).be (fun x h1 => recvM tbl m (fun run => callP pur run [x] h1) x h1) exE
theorem s_meth {d : Nat} {o : Expr} {m : Nat} {n : Str} {apos pos : Pos} {e : Expr} {es : List Expr} {f : RunE} {g : RunL} {tbl : List (Nat × (List MV → MH → Tr ER))} {pur : Bool} {pl : Sem Bool} (tk : Takes X (wx T X.K E)) (hr : Room d X.A) (ho : SE T X E o f) (ha : SA T X E (e :: es) g) (hn : nmS T m = n) (hm : MthOk T X d ((e :: es).length + 1) m tbl)
    (ht : eval (.Call (.Attribute o n apos) (e :: es) [] pos) X.env = (do
      let ov ← eval o X.env
      standAt apos.atName
      let (f, first) ← holding [ov] (getMethod ov n pl)
      callWith pos f first (backTo pos (starEach (e :: es) X.env)) (backToKw pos (keywordEach [] X.env)))) :
    SE T X E (.Call (.Attribute o n apos) (e :: es) [] pos) (runMth tbl pur m f g) := by
  refine .ofV ⟨fun pins sh σ H Q I hw => ?_⟩ fun _ => rfl
  obtain ⟨ρ, ms, h, s1, s2, w⟩ := hw
  obtain ⟨hml, hm⟩ := hm
  refine PySem.W.methodCall_KW (pl := pl) (thn (ho.v.run pins sh σ H (fun v H1 => ∃ ρ1 h1 x, Le ρ h H ρ1 h1 H1 ∧ SimH T X.K ρ1 h1 H1 ∧ Den T X.K ρ1 (Mu ρ1 h1) H1 x v ∧ (recvM tbl m (fun run => Tr.bl (g ms h1) (fun ys h2 => callP pur run (x :: ys) h2) exE) x h1).wp (postE T X.K E ms ρ1 h1 H1 Q)) I ⟨ρ, ms, h, s1, s2, Tr.wp_mono (Tr.wp_be w) fun r q => ?_⟩) fun u sh1 ⟨v, H1, I1, rv, ρ1, h1, x, l1, t1, dx, w1⟩ => ?_) ht
  · cases r with
    | ex x h1 => exact q
    | ok x h1 => exact fun ρ1 H1 v l s dd => ⟨ρ1, h1, x, l, s, dd, Tr.wp_mono q (postE.le l)⟩
  · obtain ⟨c, fs, run, e1, e3, e2, w1⟩ := recvM_wp w1
    obtain ⟨a, dxa, gs, rfl, r, df⟩ := den_asI t1 e1 dx
    obtain rfl : u = Value.ref a := rv
    obtain ⟨gA, c1, c2, F⟩ := hm c run e2
    rw [hn] at c2
    refine getmeth_ok I1 r c1 c2 (by rw [← hn]; exact den_lkN hml df e3) ?_
    have sm := s2.le l1
    have hns : notStar e = true ∧ es.all notStar = true := Bool.and_eq_true_iff.mp ha.ns
    refine PySem.W.callWith_K (first := [.ref a]) (h₀ := X.base) I.ok.mod.kin c2.kp (thn (ha.a.run pos pins sh1 σ H1 (fun vs H2 => spF T X.K ((e :: es).length + 1) run (.ref a :: vs) H2 Q (fun cls d H' => wx T X.K E cls d σ H')) I1 ⟨ρ1, ms, h1, t1, sm, Tr.wp_mono (ha.n ms h1 _ (Tr.wp_bl w1)) fun r q => ?_⟩) fun us s2 ⟨vs, H2, I2, r, q2⟩ => ⟨I2.kIn, ?_⟩) (star_cons hns.1) (by rw [backTo_any]; exact star_all hns.2)
    · obtain ⟨q, hl⟩ := q
      cases r with
      | ex x h2 => exact q
      | ok ys h2 =>
        intro ρ2 H2 vs l2 s dd
        refine spF_of (pur := pur) s (sm.le l2) (.cons (dx.le l2) dd) ?_ (Tr.wp_mono q (postE.le l2))
        rw [List.length_cons, ← dd.length, hl ys h2 rfl]
    · exact run_fnS2 (us := .ref a :: us) (vs := .ref a :: vs) F hr (passes_wx tk σ) I2 (.cons rfl r) q2
theorem s_meth0 {d : Nat} {o : Expr} {m : Nat} {n : Str} {apos pos : Pos} {f : RunE} {tbl : List (Nat × (List MV → MH → Tr ER))} {pur : Bool} {pl : Sem Bool} (tk : Takes X (wx T X.K E)) (hr : Room d X.A) (ho : SE T X E o f) (hn : nmS T m = n) (hm : MthOk T X d 1 m tbl)
    (ht : eval (.Call (.Attribute o n apos) [] [] pos) X.env = (do
      let ov ← eval o X.env
      standAt apos.atName
      let (f, first) ← holding [ov] (getMethod ov n pl)
      callWith pos f first (backTo pos (starEach [] X.env)) (backToKw pos (keywordEach [] X.env)))) :
    SE T X E (.Call (.Attribute o n apos) [] [] pos) (runMth0 tbl pur m f) := by
  refine .ofV ⟨fun pins sh σ H Q I hw => ?_⟩ fun _ => rfl
  obtain ⟨ρ, ms, h, s1, s2, w⟩ := hw
  obtain ⟨hml, hm⟩ := hm
  refine PySem.W.methodCall_KW (pl := pl) (thn (ho.v.run pins sh σ H (fun v H1 => ∃ ρ1 h1 x, Le ρ h H ρ1 h1 H1 ∧ SimH T X.K ρ1 h1 H1 ∧ Den T X.K ρ1 (Mu ρ1 h1) H1 x v ∧ (recvM tbl m (fun run => callP pur run [x] h1) x h1).wp (postE T X.K E ms ρ1 h1 H1 Q)) I ⟨ρ, ms, h, s1, s2, Tr.wp_mono (Tr.wp_be w) fun r q => ?_⟩) fun u sh1 ⟨v, H1, I1, rv, ρ1, h1, x, l1, t1, dx, w1⟩ => ?_) ht
  · cases r with
    | ex x h1 => exact q
    | ok x h1 => exact fun ρ1 H1 v l s dd => ⟨ρ1, h1, x, l, s, dd, Tr.wp_mono q (postE.le l)⟩
  · obtain ⟨c, fs, run, e1, e3, e2, w1⟩ := recvM_wp w1
    obtain ⟨a, dxa, gs, rfl, r, df⟩ := den_asI t1 e1 dx
    obtain rfl : u = Value.ref a := rv
    obtain ⟨gA, c1, c2, F⟩ := hm c run e2
    rw [hn] at c2
    refine getmeth_ok I1 r c1 c2 (by rw [← hn]; exact den_lkN hml df e3) ?_
    exact PySem.W.callWith_K0 (first := [.ref a]) I1.kIn c2.kp (run_fnS2 (us := [.ref a]) (vs := [.ref a]) F hr (passes_wx tk σ) I1 (.cons rfl .nil) (spF_of (pur := pur) t1 (s2.le l1) (.cons dx .nil) rfl w1))
/-! ### properties -/
def noEx (t : Tr ER) : Tr ER := t.bind fun r => ER.rec (motive := fun _ => Tr ER) okE (fun _ _ => .bad) r
def runProp (tbl : List (Nat × (List MV → MH → Tr ER))) (f : RunE) : RunE := fun ms h => (f ms h).be (fun x h1 => match asI h1 x with
  | some (c, fs) => match asc c tbl with
    | some run => noEx (callP true run [x] h1)
    | none => .bad
  | none => .bad) exE
def PrpOk (T : Tb) (X : Cx) (d : Nat) (n : Str) (tbl : List (Nat × (List MV → MH → Tr ER))) : Prop := ∀ c run, (c, run) ∈ tbl → ∃ p g, Cls X.K (cAd T X.K c) ∧ PropOf X.K (cAd T X.K c) n p g ∧ FI T X d g 1 run
theorem pass_F : Passes (L2.CX X.prog X.w) X.nox (fun _ _ _ => False) := fun pins σ H s e s' I c => by
  obtain ⟨_, _, _, _, _, _, _, _, _, _, _, _, q⟩ := c
  exact q
theorem s_prop {d : Nat} {e : Expr} {n : Str} {pos : Pos} {f : RunE} {tbl : List (Nat × (List MV → MH → Tr ER))} (hr : Room (d + 1) X.A) (he : SE T X E e f) (hp : PrpOk T X d n tbl) (hb : attributeBase e n X.env (eval e X.env) = eval e X.env) : SE T X E (.Attribute e n pos) (runProp tbl f) := by
  refine .ofV ⟨fun pins sh σ H Q I hw => ?_⟩ fun _ => rfl
  obtain ⟨ρ, ms, h, s1, s2, w⟩ := hw
  refine attr_of hb (thn (he.v.run pins sh σ H (fun v H1 => ∃ ρ1 h1 x, Le ρ h H ρ1 h1 H1 ∧ SimH T X.K ρ1 h1 H1 ∧ Den T X.K ρ1 (Mu ρ1 h1) H1 x v ∧ (match asI h1 x with
    | some (c, fs) => match asc c tbl with
      | some run => noEx (callP true run [x] h1)
      | none => .bad
    | none => (.bad : Tr ER)).wp (postE T X.K E ms ρ1 h1 H1 Q)) I ⟨ρ, ms, h, s1, s2, Tr.wp_mono (Tr.wp_be w) fun r q => ?_⟩) fun u sh1 ⟨v, H1, I1, rv, ρ1, h1, x, l1, t1, dx, w1⟩ => ?_)
  · cases r with
    | ex x h1 => exact q
    | ok x h1 => exact fun ρ1 H1 v l s dd => ⟨ρ1, h1, x, l, s, dd, Tr.wp_mono q (postE.le l)⟩
  · split at w1
    · rename_i c fs e1
      split at w1
      · rename_i run e2
        obtain ⟨a, dxa, gs, rfl, r, df⟩ := den_asI t1 e1 dx
        obtain rfl : u = Value.ref a := rv
        obtain ⟨p, g, c1, c2, F⟩ := hp c run (asc_mem e2)
        obtain ⟨fd, ps, hl, F1, hbn⟩ := F.ex
        refine getprop_ok (sp := spF T X.K 1 run) (dvs := []) (ds := []) (E := fun _ _ _ => False) I1 r c1 c2 F1 hr hbn .nil pass_F ?_
        refine ⟨rfl, rhoH ρ1 h1, [x], emp h1, t1.hid, DenL.hid (.cons dx .nil), ?_⟩
        have w2 := (Tr.wp_bind _ _ _).mp w1
        have w3 : (callP true run [x] h1).wp fun r => match r with
          | .ok y h2 => postE T X.K E ms ρ1 h1 H1 Q (.ok y h2)
          | .ex _ _ => False := Tr.wp_mono w2 fun r q => by
          cases r with
          | ok y h2 => exact q
          | ex y h2 => exact q
        refine Tr.wp_mono (Tr.wp_be w3) fun r q => ?_
        cases r with
        | ex y h2 => exact q.elim
        | ok y h2 => exact fun ρ' H' v l s' dv => q _ H' v (l.bck t1) (t1.bck l s') (dv.bck t1 l)
      · exact w1.elim
    · exact w1.elim
end
end
end WK
set_option Elab.async false
set_option linter.all false
set_option maxRecDepth 100000
/-! new instances, fields stored, constants of classes -/
namespace WK
noncomputable section
open PySem L2
section
variable {T : Tb} {X : Cx} {E : XW}
/-- C(..): __init__ runs on a new instance in a heap of its own; the instance stays as it is from then on -/
def runNew (c : Nat) (init : List MV → MH → Tr ER) (xs : List MV) (h : MH) : Tr ER := (init (.ref h.nxt :: xs) ((emp h).new (.ins c []))).be (fun v h1 => match v with
  | .non => match h1.get h.nxt with
    | some (.ins c' fs) => ifT (Nat.beq c' c) (okE (.ins c fs) (bck h h1))
    | _ => .bad
  | _ => .bad) (fun x h1 => exE x (bck h h1))
theorem Le.hidNew {K : PySem.W.Frag} {ρ : Rho} {h : MH} {H : Hp} {c : Nat} {x dx : Addr} (s : SimH T K ρ h H) (nx : H x = none) (nd : H dx = none) (ne : dx ≠ x) :
    let H' := upd (upd H dx (.own x)) x (.ins (cAd T K c) dx [])
    let ρ' := rhoN (rhoH ρ h) h.nxt x
    Le (rhoH ρ h) (emp h) H ρ' ((emp h).new (.ins c [])) H' ∧ SimH T K ρ' ((emp h).new (.ins c [])) H' := by
  have n1 : upd H dx (HO.own x) x = none := by rw [upd_ne (Ne.symm ne)]; exact nx
  have s1 := s.hid.neu (o := .own x) nd
  have l1 : Le (rhoH ρ h) (emp h) H (rhoH ρ h) (emp h) (upd H dx (.own x)) := Le.neu nd
  have l2 : Le (rhoH ρ h) (emp h) (upd H dx (.own x)) (rhoN (rhoH ρ h) h.nxt x) ((emp h).new (.ins c [])) (upd (upd H dx (.own x)) x (.ins (cAd T K c) dx [])) := s1.le_lab (o := .ins (cAd T K c) dx []) (u := .ins c []) n1
  have s2 := s1.lab (o := .ins (cAd T K c) dx []) (u := .ins c []) n1 ⟨dx, [], upd_same, .nil⟩
  exact ⟨l1.trans l2, s2⟩
theorem new_ok {K : PySem.W.Frag} {n c : Nat} {init : List MV → MH → Tr ER} {ρ : Rho} {m : MS} {h : MH} {H : Hp} {σ : St} {xs : List MV} {vs : List V} {Q : VK} (s : SimH T K ρ h H) (s2 : SimS T K ρ (Mu ρ h) H m σ) (d : DenL T K ρ (Mu ρ h) H xs vs) (hn : vs.length + 1 = n)
    (w : (runNew c init xs h).wp (postE T K E m ρ h H Q)) (x dx : Addr) (nx : H x = none) (nd : H dx = none) (ne : dx ≠ x) :
    spF T K n init (.ref x :: vs) (upd (upd H dx (.own x)) x (.ins (cAd T K c) dx [])) (fun v H2 => v = .non ∧ Q (.ref x) H2) (fun cls d H' => wx T K E cls d σ H') := by
  obtain ⟨l0, s0⟩ := Le.hidNew (c := c) s nx nd ne
  refine ⟨hn, rhoN (rhoH ρ h) h.nxt x, .ref h.nxt :: xs, (emp h).new (.ins c []), s0, .cons (.ref rhoN_at) (d.hid.le l0), Tr.wp_mono (Tr.wp_be w) fun r q => ?_⟩
  cases r with
  | ex y h1 => exact fun ρ' H' cls da l s' xd => ⟨_, m, _, y, s.bck (l0.trans l) s', s2.le (Le.bck s (l0.trans l)), xd.bck s (l0.trans l), q _ H' (Le.bck s (l0.trans l)) (s.bck (l0.trans l) s')⟩
  | ok v h1 =>
    intro ρ' H' u l s' dv
    dsimp only at q
    split at q
    · cases dv
      refine ⟨rfl, ?_⟩
      split at q
      · rename_i c' fs e1
        obtain ⟨cc, q⟩ := ifT_wp q
        have cc := Nat.eq_of_beq_eq_true cc
        subst cc
        have L := l0.trans l
        obtain ⟨a, ra, dx', gs, ea, df⟩ := s'.ob _ _ e1
        have rx := l.ext h.nxt x rhoN_at
        rw [rx] at ra; cases ra
        refine q (rhoB ρ ρ') H' _ (Le.bck s L) (s.bck L s') (.ins (fun mu => ?_) ea ?_)
        · rcases mu with mu | mu
          · obtain ⟨o, eo⟩ := s.am x mu
            rw [nx] at eo; cases eo
          · obtain ⟨o, eo⟩ := s.atO (own_bck s L mu)
            rw [nx] at eo; cases eo
        · exact DenF.sub (ρ := ρ') (ρ' := rhoB ρ ρ') (fun a mu => mu_bck s L mu) rfl rfl df
      · exact q.elim
    · exact q.elim
theorem run_makeS {C f : Addr} {k : Nat} {fd : FuncData} {ps : List Str} {sp : Sp} {W : XK} {pins : List (Addr × Obj)} {σ : St} {H : Hp} {s : Shared} {Q : VK} {us : List Value} {vs : List V} (M : Mk X.K C f) (F : FnOk X.prog X.w X.K X.mg X.base (L2.CX X.prog X.w) k f fd ps sp) (hr : Room (k + 1) X.A) (hb : Binds X.K fd ps [])
    (hx : ∀ pins H s e s', Inv X pins σ H s → L2.CX X.prog X.w X.stack H s W e s' → X.xe e s') (I : Inv X pins σ H s) (r : Vals vs us)
    (h : ∀ x dx, H x = none → H dx = none → dx ≠ x → sp (.ref x :: vs) (upd (upd H dx (.own x)) x (.ins C dx [])) (fun v H2 => v = .non ∧ Q (.ref x) H2) W) :
    wpAny (model X.prog X.w) X.A (call (.ref C) us) (EP X pins σ Q) X.xe s := by
  have hq := h (s.heap.objs.size + 1) s.heap.objs.size (I.hok.fresh (Nat.le_succ _)) (I.hok.fresh (Nat.le_refl _)) (Nat.ne_of_lt (Nat.lt_succ_self _))
  have I2 := Inv.made (C := C) I
  have r2 : Vals (V.ref (s.heap.objs.size + 1) :: vs) (Value.ref (s.heap.objs.size + 1) :: us) := .cons rfl r
  have hl : (Value.ref (s.heap.objs.size + 1) :: us).length = ps.length := by
    have e := r2.length
    rw [F.len _ _ _ _ hq] at e
    exact e.symm
  refine wpAny_call (make_map (f := f) I.kIn M.makes M.init (beq_iff_eq.mp M.fn) (codeAny_mono (F.run _ X.stack _ _ ⟨Value.ref (s.heap.objs.size + 1) :: us, []⟩ (Value.ref (s.heap.objs.size + 1) :: us) _ _ W (hr.make C us [])
    (I2.env0.make C us []) (by have z := hb _ (Value.ref (s.heap.objs.size + 1) :: us) I2.kIn (by rw [List.append_nil]; exact hl); rw [List.append_nil] at z; exact z) r2 hq) fun r s' hq' => ?_))
  cases r with
  | error e => exact hx pins _ _ e s' I2 hq'
  | ok fl =>
    cases fl with
    | ret u =>
      obtain ⟨v, H', I3, rv, ev, q3⟩ := I2.after hq'
      subst ev
      exact ⟨rv, ⟨V.ref (s.heap.objs.size + 1), H', I3, rfl, q3⟩⟩
    | next => exact False.elim hq'
    | brk => exact False.elim hq'
    | cont => exact False.elim hq'
theorem s_new {d c : Nat} {f : Addr} {init : List MV → MH → Tr ER} {x : Str} {e : Expr} {es : List Expr} {p pos : Pos} {g : RunL} (tk : Takes X (wx T X.K E)) (hr : Room (d + 1) X.A) (M : Mk X.K (cAd T X.K c) f) (F : FI T X d f ((e :: es).length + 1) init) (hg : Gl X x) (hm : X.mg x = some (.ref (cAd T X.K c))) (ha : SA T X E (e :: es) g) (hx : (x == ("__debug__" : Str)) = false) :
    SE T X E (.Call (.Name x p) (e :: es) [] pos) (runArgs g (runNew c init)) := by
  obtain ⟨fd, ps, hl, F1, hb⟩ := F.ex
  have hns : notStar e = true ∧ es.all notStar = true := Bool.and_eq_true_iff.mp ha.ns
  refine .ofV ⟨fun pins sh σ H Q I hw => ?_⟩ fun _ => rfl
  refine wpAny_Call_Name_kw (ld_glob I hg hm ?_ hx)
  refine PySem.W.callWith_K (h₀ := X.base) I.ok.mod.kin M.kp (thn (ha.a.run pos pins sh σ H (fun vs H1 => ∀ x dx, H1 x = none → H1 dx = none → dx ≠ x → spF T X.K ((e :: es).length + 1) init (.ref x :: vs) (upd (upd H1 dx (.own x)) x (.ins (cAd T X.K c) dx [])) (fun v H2 => v = .non ∧ Q (.ref x) H2) (fun cls d H' => wx T X.K E cls d σ H')) I ?_) fun us s1 ⟨vs, H1, I1, r, q⟩ => ⟨I1.kIn, ?_⟩) (star_cons hns.1) (by rw [backTo_any]; exact star_all hns.2)
  · obtain ⟨ρ, m, h, s1, s2, w⟩ := hw
    refine ⟨ρ, m, h, s1, s2, Tr.wp_mono (ha.n m h _ (Tr.wp_bl w)) fun r q => ?_⟩
    obtain ⟨q, hn⟩ := q
    cases r with
    | ex y h1 => exact q
    | ok ys h1 =>
      intro ρ1 H1 vs l s dd
      exact new_ok s (s2.le l) dd (by rw [← dd.length, hn ys h1 rfl]) (Tr.wp_mono q (postE.le l))
  · exact run_makeS (sp := spF T X.K ((e :: es).length + 1) init) (W := fun cls d H' => wx T X.K E cls d σ H') M F1 hr hb (passes_wx tk σ) I1 r q
/-! ### self.f = e -/
def stFld (cs : List Nat) (f : Nat) (x v : MV) (ms : MS) (h : MH) : Tr GR := match x with
  | .ref l => match h.get l with
    | some (.ins c fs) => match memN c cs && leB fs.length 100 with
      | true => .ret (.ok ms (h.put l (.ins c (put f v fs))))
      | false => .bad
    | _ => .bad
  | _ => .bad
def gFld (cs : List Nat) (f : Nat) (g : RunE) : RunG := fun v ms h => (g ms h).be (fun x h1 => stFld cs f x v ms h1) (fun x h1 => .ret (.ex x ms h1))
theorem st_put {K : PySem.W.Frag} {ρ : Rho} {h : MH} {H : Hp} {l c : Nat} {a : Addr} {f : Nat} {fs : List (Nat × MV)} {gs : List (Str × V)} {dx : Addr} {x : MV} {v : V} (s : SimH T K ρ h H) (e : h.get l = some (.ins c fs)) (r : ρ.at_ l = some a) (ea : H a = some (.ins (cAd T K c) dx gs)) (hf : f < T.nm.length) (df : DenF T K ρ (Mu ρ h) H fs gs) (dv : Den T K ρ (Mu ρ h) H x v) :
    Le ρ h H ρ (h.put l (.ins c (put f x fs))) (upd H a (.ins (cAd T K c) dx (putF (nmS T f) v gs))) ∧ SimH T K ρ (h.put l (.ins c (put f x fs))) (upd H a (.ins (cAd T K c) dx (putF (nmS T f) v gs))) :=
  have L := s.le_put (v := .ins (cAd T K c) dx (putF (nmS T f) v gs)) (o := .ins c (put f x fs)) e r
  ⟨L, s.put e r ⟨dx, _, upd_same, (DenF.put hf dv df).le L⟩⟩
theorem g_fld {o : Expr} {n : Str} {pos : Pos} {g : RunE} {cs : List Nat} {f : Nat} (ho : SE T X E o g) (hn : nmS T f = n) (hf : f < T.nm.length) (hc : FldOk T X.K cs f) : SG T X E (.Attribute o n pos) (gFld cs f g) := by
  refine ⟨fun pins sh σ H v u Q I ru hw => ?_⟩
  obtain ⟨ρ, ms, h, x, s1, s2, dx, w⟩ := hw
  rw [PySem.assign_Attribute]
  refine wpAny_bind (wpAny_holding (thn (ho.v.run pins sh σ H (fun y H1 => ∃ ρ1 h1 z, Le ρ h H ρ1 h1 H1 ∧ SimH T X.K ρ1 h1 H1 ∧ Den T X.K ρ1 (Mu ρ1 h1) H1 z y ∧ (stFld cs f z x ms h1).wp (postG T X.K E ρ1 h1 H1 Q)) I ⟨ρ, ms, h, s1, s2, Tr.wp_mono (Tr.wp_be w) fun r q => ?_⟩) fun ov sh1 ⟨y, H1, I1, r1, ρ1, h1, z, l1, t1, dz, w1⟩ => ?_))
  · cases r with
    | ex y h1 => exact q
    | ok y h1 => exact fun ρ1 H1 y l s d => ⟨ρ1, h1, _, l, s, d, Tr.wp_mono q (postG.le l)⟩
  · unfold stFld at w1
    split at w1
    · split at w1
      · rename_i c fs e1
        split at w1
        · rename_i l _ _ _ cc
          obtain ⟨c1, c2⟩ := Bool.and_eq_true_iff.mp cc
          cases dz with
          | ref r =>
            obtain ⟨a, r', dxa, gs, ea, df⟩ := t1.ob _ _ e1
            rw [r] at r'; cases r'
            obtain rfl : ov = Value.ref _ := r1
            obtain ⟨k1, k2⟩ := hc c (memN_ok c1)
            rw [hn] at k2
            have le := leB_ok c2
            rw [df.length] at le
            obtain ⟨L, S⟩ := st_put t1 e1 r ea hf df (dx.le l1)
            rw [hn] at L S
            refine wpAny_bind (wpAny_standAt (wpAny_bind (wpAny_holding (setattr_ok I1 ea k1 k2 (by omega) ru fun s3 I3 => ?_))))
            exact wpAny_release ⟨σ, _, I3, w1 ρ1 _ σ L S (s2.le (l1.trans L))⟩
        · exact w1.elim
      · exact w1.elim
    · exact w1.elim
/-! ### constants of classes -/
theorem s_cval {C : Addr} {mc : Value} {x n : Str} {i : Int} {u : Value} {p pos : Pos} (hg : Gl X x) (hm : X.mg x = some (.ref C)) (r : ClX.CRead X.K C mc) (k : ClX.CVal X.K C mc n (.int i) u) (hx : (x == ("__debug__" : Str)) = false) : SE T X E (.Attribute (.Name x p) n pos) (fun _ h => okE (.int i) h) :=
  s_con (v := .int i) (peI (ClX.pe_cval (pe_glob (v := .ref C) hg hm rfl hx)) fun σ H Q w => ⟨C, mc, .int i, u, rfl, r, k, w⟩) (fun _ _ _ => .int i) fun _ => rfl
end
end
end WK
set_option Elab.async false
set_option linter.all false
set_option maxRecDepth 100000
/-! exceptions: made and raised; try -/
namespace WK
noncomputable section
open PySem L2
open PySem.Spec PyProof.Rows
/-- B.__init__ is ValueError's -/
structure VeC (K : PySem.W.Frag) (B : Addr) (mc : Value) : Prop where
  rd : ClX.CRead K B mc
  at_ : PySem.W.findCls K (.ref B) mc "__init__" = some (.val (.builtin "ValueError.__init__"))
section
variable {X : Cx} {e : Expr} {es : List Expr} {ta : TA} {p1 p2 pos : Pos}
theorem pe_cveinit {pl : Sem Bool} {B : Addr} {mc : Value} {x : Str} (hg : Gl X x) (hm : X.mg x = some (.ref B)) (hx : (x == ("__debug__" : Str)) = false) (V : VeC X.K B mc) (ha : PA X (e :: es) ta)
    (hc : eval (.Call (.Attribute (.Name x p1) "__init__" p2) (e :: es) [] pos) X.env = (do
      let ov ← eval (.Name x p1) X.env
      standAt p2.atName
      let (f, first) ← holding [ov] (getMethod ov "__init__" pl)
      callWith pos f first (backTo pos (starEach (e :: es) X.env)) (backToKw pos (keywordEach [] X.env))))
    (he : starEach (e :: es) X.env = (false, eval e X.env) :: starEach es X.env) (hpl : (backTo pos (starEach es X.env)).any (·.1) = false) :
    PE X (.Call (.Attribute (.Name x p1) "__init__" p2) (e :: es) [] pos) (tVeI X.K ta) := by
  refine ⟨fun pins s σ H Q I h => ?_⟩
  refine PySem.W.methodCall_KW (ld_glob I hg hm ?_ hx) hc
  refine PySem.W.method_cls I.kIn V.rd.ga (PySem.W.cls_value I.kIn V.rd.rd V.at_ rfl ?_)
  show wpAny _ _ (callWith pos (Value.builtin "ValueError.__init__") [] (backTo pos (starEach (e :: es) X.env)) []) _ _ _
  refine PyProof.Rows.callWith_method1 (thn (ha.run pos pins _ σ H _ (I.tok _) h) fun us s1 ⟨vs, H1, I1, r1, a, C, ws, ev, hl, T, ea, q⟩ => ?_) he hpl
  subst ev
  cases r1 with
  | @cons _ u0 _ ur ra rw' =>
    obtain rfl : u0 = Value.ref a := ra
    have hlen : ur.length ≤ sizeLine := by
      rw [← Paired.length rw', sizeLine_eq]
      omega
    exact oinit_ok T I1 ea hlen fun s' J => ⟨.non, H1, J, rfl, q⟩
end
/-! ### a def -/
def slots (n : Nat) : MS := Nat.rec (motive := fun _ => MS) [] (fun _ ih => none :: ih) n
def appS (xs : List MV) (m : MS) : MS := List.rec (motive := fun _ => MS) m (fun x _ ih => some x :: ih) xs
def endD (t : Tr SR) : Tr ER := t.bind fun r => SR.rec (motive := fun _ => Tr ER) (fun _ h => okE .non h) (fun _ _ => .bad) (fun _ _ => .bad) (fun v h => okE v h) (fun x _ h => exE x h) r
/-- a def with j slots beside its parameters -/
def runDef (j : Nat) (b : RunS) : List MV → MH → Tr ER := fun xs h => endD (b (appS xs (slots j)) h)
theorem slots_len : ∀ n, (slots n).length = n
  | 0 => rfl
  | n + 1 => congrArg (· + 1) (slots_len n)
theorem slots_at : ∀ (n i : Nat) (x : MV), (slots n)[i]? ≠ some (some x)
  | 0, i, x, e => by cases e
  | n + 1, 0, x, e => by cases e
  | n + 1, i + 1, x, e => slots_at n i x (by simpa [slots] using e)
theorem appS_len : ∀ (xs : List MV) (m : MS), (appS xs m).length = xs.length + m.length
  | [], m => by simp [appS]
  | x :: r, m => by
    show (appS r m).length + 1 = _
    rw [appS_len r m, List.length_cons]; omega
theorem start_at {T : Tb} {K : PySem.W.Frag} {ρ : Rho} {M : Addr → Prop} {H : Hp} {j : Nat} (r : L2.St) : ∀ {xs : List MV} {vs : List V} {i : Nat} {x : MV}, DenL T K ρ M H xs vs → (appS xs (slots j))[i]? = some (some x) → ∃ v, (vs.map some ++ r)[i]? = some (some v) ∧ Den T K ρ M H x v
  | _, _, i, x, .nil, e => absurd e (slots_at j i x)
  | _, _, 0, x, .cons d1 d2, e => by cases e; exact ⟨_, rfl, d1⟩
  | _, _, i + 1, x, .cons d1 d2, e => by
    obtain ⟨v, e1, e2⟩ := start_at r (i := i) d2 (by simpa [appS] using e)
    exact ⟨v, by simpa using e1, e2⟩
theorem SimS.start {T : Tb} {K : PySem.W.Frag} {ρ : Rho} {M : Addr → Prop} {H : Hp} {N : List Str} {xs : List MV} {vs : List V} {j : Nat} (d : DenL T K ρ M H xs vs) (hl : N.length = vs.length + j) : SimS T K ρ M H (appS xs (slots j)) (L2.start N vs) where
  len := by
    unfold L2.start
    rw [appS_len, slots_len, List.length_append, List.length_map, List.length_replicate, d.length]
    omega
  at_ := fun i x e => by
    unfold L2.start
    exact start_at _ d e
/-- what a def wishes of exceptions -/
def XF (T : Tb) (K : PySem.W.Frag) (EK : XK) : XW := fun x _ ρ h H => ∀ cls d, XDen T K ρ (Mu ρ h) H x cls d → EK cls d H
theorem fn_run {T : Tb} {P : Program} {w : World} {K : PySem.W.Frag} {mg : Str → Option Value} {base : Heap} {x qual : Str} {params : Arguments} {body : List Stmt} {scope : Scope} {dvs : List V} {kws : List (Str × V)} {f : Addr} {fd : FuncData} {N ps : List Str} {k j : Nat} {b : RunS} (F : FunD K x qual params body scope dvs kws f fd) (S : FnScope N ps scope) (hN : N.length = ps.length + j)
    (hb : ∀ (cdv : Value) (A : Around) (outer : List Env) (s : Shared) (H : Hp) (EK : XK) (E : XW), Room k (A.deeper (envOfC qual scope s.heap.objs.size f cdv)) → Takes (cxOf (L2.CX P w) P w K mg base N qual scope f cdv A outer s H EK) (wx T K E) → SSs T (cxOf (L2.CX P w) P w K mg base N qual scope f cdv A outer s H EK) E body b) :
    FnOk P w K mg base (L2.CX P w) (k + 1) f fd ps (spF T K ps.length (runDef j b)) := by
  refine F.ok S (fun vs H Q E h => h.1) fun cdv A outer s H vs Q EK hr h => ?_
  have tk : Takes (cxOf (L2.CX P w) P w K mg base N qual scope f cdv A outer s H EK) (wx T K (XF T K EK)) := Takes.imp (takes_of (X := cxOf (L2.CX P w) P w K mg base N qual scope f cdv A outer s H EK) (E := EK) rfl rfl rfl rfl) fun c d σ H ⟨ρ, m, h, x, s1, s2, xd, e⟩ => e c d xd
  refine ⟨_, hb cdv A outer s H EK (XF T K EK) hr tk, ?_⟩
  obtain ⟨hl, ρ, xs, h, s1, d, w1⟩ := h
  refine ⟨ρ, _, h, s1, SimS.start d (by rw [hN, hl]), Tr.wp_mono ((Tr.wp_bind _ _ _).mp w1) fun r q => ?_⟩
  cases r with
  | nx m1 h1 => exact fun ρ1 H1 σ1 l s d => q ρ1 H1 .non l s .non
  | bk _ _ => exact q.elim
  | ct _ _ => exact q.elim
  | rt v h1 => exact q
  | ex y m1 h1 => exact fun ρ1 H1 l s cls da xd => q ρ1 H1 cls da l s xd
end
end WK
set_option Elab.async false
set_option linter.all false
set_option maxRecDepth 100000
/-! dicts with tuple keys over the hand layer -/
namespace WK
noncomputable section
open PySem PySem.Spec PyProof.Rows L2
/-! ### a key in the abstract heap -/
mutual
inductive NkV (K : PySem.W.Frag) (H : Hp) : NestedKey → V → Prop
  | non : NkV K H .none .non
  | num (i : Int) : NkV K H (.num i) (.int i)
  | text (x : Str) : NkV K H (.text x) (.str x)
  | tup {a : Addr} {vs : List V} {ks : List NestedKey} : SqT K H a vs → NkVs K H ks vs → NkV K H (.tup ks) (.ref a)
inductive NkVs (K : PySem.W.Frag) (H : Hp) : List NestedKey → List V → Prop
  | nil : NkVs K H [] []
  | cons {k : NestedKey} {v : V} {ks : List NestedKey} {vs : List V} : NkV K H k v → NkVs K H ks vs → NkVs K H (k :: ks) (v :: vs)
end
section
variable {X : Cx} {pins : List (Addr × Obj)} {σ : L2.St} {H : Hp} {s : Shared}
mutual
theorem NkV.is (I : Inv X pins σ H s) : ∀ {k : NestedKey} {v : V} {u : Value}, NkV X.K H k v → RelV v u → NestedIs s.heap k u
  | _, _, u, .non, r => by obtain rfl : u = Value.none := r; exact .none
  | _, _, u, .num i, r => by obtain ⟨t, rfl⟩ := (show ∃ t, u = Value.int i t from r); exact .int _ _
  | _, _, u, .text x, r => by obtain ⟨t, rfl⟩ := (show ∃ t, u = Value.str x t from r); exact .text _ _
  | _, _, u, .tup q d, r => by
    obtain rfl : u = Value.ref _ := r
    obtain ⟨its, rv, ⟨o, h1, h2, n, h3⟩, _⟩ := I.tuple q
    exact .tup h1 h2 h3 (by rw [List.toList_toArray]; exact NkVs.is I d rv)
theorem NkVs.is (I : Inv X pins σ H s) : ∀ {k : List NestedKey} {v : List V} {u : List Value}, NkVs X.K H k v → Vals v u → NestedAll s.heap k u
  | _, _, _, .nil, .nil => .nil
  | _, _, _, .cons d ds, .cons r rs => .cons (NkV.is I d r) (NkVs.is I ds rs)
end
/-- a tuple as a key -/
def KeyA (K : PySem.W.Frag) (H : Hp) (k : NestedKey) (a : Addr) : Prop := NkV K H k (.ref a) ∧ k.depth ≤ 8
theorem KeyA.is (I : Inv X pins σ H s) {k : NestedKey} {a : Addr} (h : KeyA X.K H k a) : (nestedKind X.prog X.w).is s.heap k a := ⟨h.1.is I rfl, h.2⟩
/-! ### the entries -/
abbrev NE := NestedKey × Addr × V
def atP (ps : List NE) (k : NestedKey) : Option (Addr × V) := (ps.find? fun x => decide (x.1 = k)).map (·.2)
def stP (ps : List NE) (k : NestedKey) (a : Addr) (v : V) : List NE := if (atP ps k).isSome then ps.map (fun x => if x.1 = k then (x.1, x.2.1, v) else x) else ps ++ [(k, a, v)]
abbrev relE (p : NE) (q : NestedKey × Addr × Value) : Prop := p.1 = q.1 ∧ p.2.1 = q.2.1 ∧ RelV p.2.2 q.2.2
theorem at_rel {k : NestedKey} : ∀ {ps : List NE} {xs : List (NestedKey × Addr × Value)}, Paired relE ps xs → (∀ p, atP ps k = some p → ∃ u, atKey xs k = some (p.1, u) ∧ RelV p.2 u) ∧ (atP ps k = none → atKey xs k = none)
  | _, _, .nil => ⟨fun p e => by simp [atP] at e, fun _ => rfl⟩
  | (k1, a1, v1) :: ps, (k2, a2, u2) :: xs, .cons r t => by
    obtain ⟨e1, e2, e3⟩ := r
    simp only at e1 e2 e3
    subst e1 e2
    obtain ⟨h1, h2⟩ := at_rel (k := k) t
    by_cases z : k1 = k
    · refine ⟨fun p e => ?_, fun e => ?_⟩
      · simp [atP, List.find?_cons, z] at e
        subst e
        exact ⟨u2, by simp [atKey, List.find?_cons, z], e3⟩
      · simp [atP, List.find?_cons, z] at e
    · have f1 : atP ((k1, a1, v1) :: ps) k = atP ps k := by simp [atP, List.find?_cons, z]
      have f2 : atKey ((k1, a1, u2) :: xs) k = atKey xs k := by simp [atKey, List.find?_cons, z]
      rw [f1, f2]
      exact ⟨h1, h2⟩
theorem Paired.app {α β : Type} {F : α → β → Prop} : ∀ {l₁ m₁ : List α} {l₂ m₂ : List β}, Paired F l₁ l₂ → Paired F m₁ m₂ → Paired F (l₁ ++ m₁) (l₂ ++ m₂)
  | _, _, _, _, .nil, h => h
  | _, _, _, _, .cons r t, h => .cons r (Paired.app t h)
theorem put_rel {k : NestedKey} {v : V} {u : Value} (rv : RelV v u) : ∀ {ps : List NE} {xs : List (NestedKey × Addr × Value)}, Paired relE ps xs → Paired relE (ps.map (fun x => if x.1 = k then (x.1, x.2.1, v) else x)) (xs.map (putAt k u))
  | _, _, .nil => .nil
  | (k1, a1, v1) :: ps, (k2, a2, u2) :: xs, .cons r t => by
    obtain ⟨e1, e2, e3⟩ := r
    simp only at e1 e2 e3
    subst e1 e2
    refine .cons ?_ (put_rel rv t)
    unfold putAt
    by_cases z : k1 = k
    · simp only [z, if_true]; exact ⟨rfl, rfl, rv⟩
    · simp only [z, if_false]; exact ⟨rfl, rfl, e3⟩
theorem st_rel {k : NestedKey} {a : Addr} {v : V} {u : Value} (rv : RelV v u) {ps : List NE} {xs : List (NestedKey × Addr × Value)} (r : Paired relE ps xs) : Paired relE (stP ps k a v) (storedH xs k a u) := by
  unfold stP storedH
  obtain ⟨h1, h2⟩ := at_rel (k := k) r
  cases e : atP ps k with
  | none =>
    rw [h2 e]
    exact Paired.app r (.cons ⟨rfl, rfl, rv⟩ .nil)
  | some p =>
    obtain ⟨w, e2, _⟩ := h1 p e
    rw [e2]
    exact put_rel rv r
theorem dict_at (I : Inv X pins σ H s) {d : Addr} {ps : List NE} (e : H d = some (dictH X.prog X.w d ps)) (kk : ∀ p ∈ ps, KeyA X.K H p.1 p.2.1) : ∃ xs, Paired relE ps xs ∧ s.heap.DictOfH (nestedKind X.prog X.w) d xs := by
  have z : ObjOk X.prog X.w H s.heap d (dictH X.prog X.w d ps) := I.hok d _ e
  obtain ⟨⟨xs, r, o, es, ep, h1, h2, h3, h4, h5⟩, _, _⟩ := z
  refine ⟨xs, r, o, es, ep, h1, h2, h3, h4, fun x hx => ?_, h5⟩
  have key : ∀ {ps : List NE} {xs : List (NestedKey × Addr × Value)}, Paired relE ps xs → (∀ p ∈ ps, KeyA X.K H p.1 p.2.1) → ∀ x ∈ xs, (nestedKind X.prog X.w).is s.heap x.1 x.2.1 := by
    intro ps xs r
    induction r with
    | nil => intro _ x hx; cases hx
    | cons r t ih =>
      intro hk x hx
      rcases List.mem_cons.mp hx with z | z
      · subst z
        have := hk _ List.mem_cons_self
        rw [r.1, r.2.1] at this
        exact this.is I
      · exact ih (fun p hp => hk p (List.mem_cons_of_mem _ hp)) x z
  exact key r kk x hx
theorem dict_ok {P : Program} {w : World} {H : Hp} {h : Heap} {d : Addr} {ps : List NE} {xs : List (NestedKey × Addr × Value)} (r : Paired relE ps xs) (x : h.DictOfH (nestedKind P w) d xs) : ObjOk P w H h d (dictH P w d ps) := by
  obtain ⟨o, es, ep, h1, h2, h3, h4, h5, h6⟩ := x
  refine ⟨⟨xs, r, o, es, ep, h1, h2, h3, h4, h6⟩, ⟨o, h1⟩, fun h1' h2' z k => ?_⟩
  obtain ⟨xs', r', o', es', ep', e1, e2, e3, e4, e5⟩ := z
  exact ⟨xs', r', o', es', ep', k _ e1, e2, e3, e4, e5⟩
/-! ### d[k], d[k] = v, k in d -/
def rIxN (P : Program) (w : World) (K : PySem.W.Frag) : R2 := fun x y H Q => ∃ d ps a k b v, x = .ref d ∧ y = .ref a ∧ H d = some (dictH P w d ps) ∧ (∀ p ∈ ps, KeyA K H p.1 p.2.1) ∧ KeyA K H k a ∧ atP ps k = some (b, v) ∧ Q v H
theorem ix_N (hu : X.A.units + 12 < cLine) : IxR X (rIxN X.prog X.w X.K) := by
  intro value slice pins s σ H x y v u Q I rx ry h hs
  obtain ⟨d, ps, a, k, b, z, rfl, rfl, hd, kk, ka, e, q⟩ := h
  obtain rfl : v = Value.ref d := rx
  obtain rfl : u = Value.ref a := ry
  obtain ⟨xs, r, hx⟩ := dict_at I hd kk
  obtain ⟨u, e2, ru⟩ := (at_rel r).1 _ e
  exact tail_any hx.typeIs slot_dict_getitem.lookup (wpAny_getItem_heap (show X.A.in1.units + 8 < cLine by show X.A.units + 1 + 8 < _; omega) (ka.is I) hx e2 ⟨z, H, I.tok _, ru, q⟩) hs
def rIxK : R2 := fun x y H Q => ∃ d ps k v, x = .ref d ∧ y = kV k ∧ H d = some (.dK ps) ∧ valV ps k = some v ∧ Q v H
theorem ix_K (hu : X.A.units + 12 < cLine) : IxR X rIxK := by
  intro value slice pins s σ H x y v u Q I rx ry h hs
  obtain ⟨d, ps, k, z, rfl, rfl, hd, e, q⟩ := h
  obtain rfl : v = Value.ref d := rx
  have g : DGet H d (kV k) (some z) := .inl ⟨ps, k, .inl hd, rfl, e.symm⟩
  exact tail_any (dict_typeIs I g) slot_dict_getitem.lookup (d_getItem (by omega) I g ry fun w' s' I' r => ⟨z, H, I', r, q⟩) hs
def rInN (P : Program) (w : World) (K : PySem.W.Frag) (n : Bool) : R2 := fun x y H Q => ∃ d ps a k, x = .ref a ∧ y = .ref d ∧ H d = some (dictH P w d ps) ∧ (d == sysModules) = false ∧ (∀ p ∈ ps, KeyA K H p.1 p.2.1) ∧ KeyA K H k a ∧ Q (.bl (n ^^ (atP ps k).isSome)) H
theorem isSome_rel {k : NestedKey} {ps : List NE} {xs : List (NestedKey × Addr × Value)} (r : Paired relE ps xs) : (atKey xs k).isSome = (atP ps k).isSome := by
  obtain ⟨h1, h2⟩ := at_rel (k := k) r
  cases e : atP ps k with
  | none => rw [h2 e]; rfl
  | some p => obtain ⟨u, e2, _⟩ := h1 p e; rw [e2]; rfl
theorem in_N (hu : X.A.units + 12 < cLine) : OpR X (compareOp .In) (rInN X.prog X.w X.K false) := by
  intro pins s σ H x y v u Q I rx ry h
  obtain ⟨d, ps, a, k, rfl, rfl, hd, hy, kk, ka, q⟩ := h
  obtain rfl : v = Value.ref a := rx
  obtain rfl : u = Value.ref d := ry
  obtain ⟨xs, r, hx⟩ := dict_at I hd kk
  refine wpAny_in_heap (show X.A.in1.units + 8 < cLine by show X.A.units + 1 + 8 < _; omega) (ka.is I) hy hx ?_
  rw [isSome_rel r]
  exact ⟨.bl (atP ps k).isSome, H, I.tok _, rfl, by simpa using q⟩
theorem ni_N (hu : X.A.units + 12 < cLine) : OpR X (compareOp .NotIn) (rInN X.prog X.w X.K true) := by
  intro pins s σ H x y v u Q I rx ry h
  obtain ⟨d, ps, a, k, rfl, rfl, hd, hy, kk, ka, q⟩ := h
  obtain rfl : v = Value.ref a := rx
  obtain rfl : u = Value.ref d := ry
  obtain ⟨xs, r, hx⟩ := dict_at I hd kk
  refine wpAny_notIn_heap (show X.A.in1.units + 8 < cLine by show X.A.units + 1 + 8 < _; omega) (ka.is I) hy hx ?_
  rw [isSome_rel r]
  exact ⟨.bl (!(atP ps k).isSome), H, I.tok _, rfl, by simpa using q⟩
def rInK (n : Bool) : R2 := fun x y H Q => ∃ d ps k, x = kV k ∧ y = .ref d ∧ H d = some (.dK ps) ∧ Q (.bl (n ^^ (valV ps k).isSome)) H
theorem in_K (hu : X.A.units + 12 < cLine) : OpR X (compareOp .In) (rInK false) := by
  intro pins s σ H x y v u Q I rx ry h
  obtain ⟨d, ps, k, rfl, rfl, hd, q⟩ := h
  obtain rfl : u = Value.ref d := ry
  exact d_in (by omega) I (.inl ⟨ps, k, .inl hd, rfl, rfl⟩) rx fun s' I' => ⟨.bl (valV ps k).isSome, H, I', rfl, by simpa using q⟩
theorem ni_K (hu : X.A.units + 12 < cLine) : OpR X (compareOp .NotIn) (rInK true) := by
  intro pins s σ H x y v u Q I rx ry h
  obtain ⟨d, ps, k, rfl, rfl, hd, q⟩ := h
  obtain rfl : u = Value.ref d := ry
  exact d_notIn (by omega) I (.inl ⟨ps, k, .inl hd, rfl, rfl⟩) rx fun s' I' => ⟨.bl (!(valV ps k).isSome), H, I', rfl, by simpa using q⟩
/-! ### stores -/
theorem keys_rel : ∀ {ps : List NE} {xs : List (NestedKey × Addr × Value)}, Paired relE ps xs → ps.map (·.1) = xs.map (·.1)
  | _, _, .nil => rfl
  | _, _, .cons r t => by rw [List.map_cons, List.map_cons, r.1, keys_rel t]
theorem nodup_rel {P : Program} {w : World} {h : Heap} {d : Addr} {ps : List NE} {xs : List (NestedKey × Addr × Value)} (r : Paired relE ps xs) (x : h.DictOfH (nestedKind P w) d xs) : (ps.map (·.1)).Nodup := by
  obtain ⟨_, _, _, _, _, _, _, _, nd⟩ := x
  have e : ps.map (·.1) = xs.map (·.1) := keys_rel r
  rw [e]; exact nd
theorem write_N (I : Inv X pins σ H s) {d : Addr} {ps ps' : List NE} {xs' : List (NestedKey × Addr × Value)} {h' : Heap} {t' : Nat} (hd : H d = some (dictH X.prog X.w d ps)) (hs : Heap.SameBut d s.heap h') (r : Paired relE ps' xs') (x : h'.DictOfH (nestedKind X.prog X.w) d xs') : Inv X pins σ (upd H d (dictH X.prog X.w d ps')) { s with heap := h', toks := t' } :=
  d_write I (by rw [hd]; exact True.intro) hs (let ⟨o, _, _, e, _⟩ := x; ⟨o, e⟩) (dict_ok r x)
def tSetN (P : Program) (w : World) (K : PySem.W.Frag) : TSet := fun x y v H Q => ∃ d ps a k, x = .ref d ∧ y = .ref a ∧ H d = some (dictH P w d ps) ∧ ps.length ≤ sizeLine ∧ (∀ p ∈ ps, KeyA K H p.1 p.2.1) ∧ KeyA K H k a ∧ ((ps.map (·.1)).Nodup → Q (upd H d (dictH P w d (stP ps k a v))))
theorem set_N (hu : X.A.units + 12 < cLine) : PSet X (tSetN X.prog X.w X.K) := by
  intro pins s σ H o i v ov iv u Q I ro ri rv h
  obtain ⟨d, ps, a, k, rfl, rfl, hd, hl, kk, ka, q⟩ := h
  obtain rfl : ov = Value.ref d := ro
  obtain rfl : iv = Value.ref a := ri
  obtain ⟨xs, r, hx⟩ := dict_at I hd kk
  exact wpAny_setItem_heap (hsz := by rw [← Paired.length r]; exact hl) (show X.A.in1.units + 8 < cLine by show X.A.units + 1 + 8 < _; omega) (ka.is I) hx fun h' x' hs => ⟨_, write_N I hd hs (st_rel rv r) x', q (nodup_rel r hx)⟩
def tSetK : TSet := fun x y v H Q => ∃ d ps k, x = .ref d ∧ y = kV k ∧ H d = some (.dK ps) ∧ ps.length < sizeLine ∧ ((ps.map (·.1)).Nodup → Q (upd H d (.dK (putK ps k v))))
theorem set_K (hu : X.A.units + 12 < cLine) : PSet X tSetK := by
  intro pins s σ H o i v ov iv u Q I ro ri rv h
  obtain ⟨d, ps, k, rfl, rfl, hd, hl, q⟩ := h
  obtain rfl : ov = Value.ref d := ro
  have nd : (ps.map (·.1)).Nodup := by
    obtain ⟨_, _, vs, r, _, _, _, _, _, _, _, _, nd⟩ := (show ObjOk X.prog X.w H s.heap d (.dK ps) from I.hok d _ hd)
    have e : ∀ {ps : List (Key × V)} {vs : List (Key × Value)}, KV ps vs → ps.map (·.1) = vs.map (·.1) := by
      intro ps vs r
      induction r with
      | nil => rfl
      | cons r t ih => rw [List.map_cons, List.map_cons, r.1, ih]
    rw [e r]; exact nd
  exact d_setItem (by omega) I (.k hd hl) ri rv fun s' I' => ⟨_, I', q nd⟩
/-! ### {}, len -/
def tNewN (P : Program) (w : World) : TE := fun _ H Q => ∀ p, H p = none → (p == sysModules) = false → Q (.ref p) (upd H p (dictH P w p []))
theorem pe_newN {pos : Pos} : PE X (.Dict [] [] pos) (tNewN X.prog X.w) := ⟨fun pins s σ H Q I h =>
  wpAny_Dict_empty ⟨.ref s.heap.objs.size, _, I.laid (a := s.heap.objs.size) (o := dictH X.prog X.w s.heap.objs.size []) (t' := s.toks) (fun _ _ q => Heap.get?_push_of_some _ q) (Nat.le_refl _) (dict_ok (P := X.prog) (w := X.w) .nil (Heap.DictOfH.new s.heap)), rfl, h _ (I.hok.fresh (Nat.le_refl _)) (beq_eq_false_iff_ne.mpr (Ne.symm (Nat.ne_of_lt I.big)))⟩⟩
def rLenN (P : Program) (w : World) (K : PySem.W.Frag) : List V → Hp → VK → Prop := fun xs H Q => ∃ d ps, xs = [.ref d] ∧ H d = some (dictH P w d ps) ∧ (d == sysModules) = false ∧ (∀ p ∈ ps, KeyA K H p.1 p.2.1) ∧ ps.length ≤ sizeLine ∧ Q (.int ps.length) H
end
end
end WK
set_option Elab.async false
set_option linter.all false
set_option maxRecDepth 100000
/-! dicts by values -/
namespace WK
noncomputable section
open PySem L2
/-! ### keys -/
def eqI (a b : Int) : Bool := match a, b with
  | .ofNat m, .ofNat n => Nat.beq m n
  | .negSucc m, .negSucc n => Nat.beq m n
  | _, _ => false
theorem eqI_ok (a b : Int) : eqI a b = decide (a = b) := by
  unfold eqI
  split
  · rename_i m n
    by_cases e : m = n
    · subst e; rw [beq_self]; exact (decide_eq_true rfl).symm
    · rw [beq_ne e]; exact (decide_eq_false (fun q => e (Int.ofNat.inj q))).symm
  · rename_i m n
    by_cases e : m = n
    · subst e; rw [beq_self]; exact (decide_eq_true rfl).symm
    · rw [beq_ne e]; exact (decide_eq_false (fun q => e (Int.negSucc.inj q))).symm
  · rename_i h1 h2
    refine (decide_eq_false fun e => ?_).symm
    subst e
    cases a with
    | ofNat m => exact h1 m m rfl rfl
    | negSucc m => exact h2 m m rfl rfl
def eqL (f : MV → MV → Bool) (xs ys : List MV) : Bool := List.rec (motive := fun _ => List MV → Bool) (fun ys => match ys with
  | [] => true
  | _ => false) (fun x _ ih ys => match ys with
  | y :: r => Bool.rec (motive := fun _ => Bool) false (ih r) (f x y)
  | [] => false) xs ys
def eqKf (n : Nat) : MV → MV → Bool := Nat.rec (motive := fun _ => MV → MV → Bool) (fun _ _ => false) (fun _ ih x y => match x, y with
  | .int a, .int b => eqI a b
  | .tup xs, .tup ys => eqL ih xs ys
  | .str a, .str b => decide (a = b)
  | .non, .non => true
  | _, _ => false) n
theorem keysOf_cons {x : MV} {r : List MV} {ks : List NestedKey} (h : keysOf (x :: r) = some ks) : ∃ k kr, keyOf x = some k ∧ keysOf r = some kr ∧ ks = k :: kr := by
  unfold keysOf at h
  split at h
  · rename_i k e1
    split at h
    · rename_i kr e2
      cases h
      exact ⟨k, kr, e1, e2, rfl⟩
    · cases h
  · cases h
theorem keyOf_tup {xs : List MV} {k : NestedKey} (h : keyOf (.tup xs) = some k) : ∃ ks, keysOf xs = some ks ∧ k = .tup ks := by
  unfold keyOf at h
  split at h
  · rename_i ks e
    cases h
    exact ⟨ks, e, rfl⟩
  · cases h
theorem eqL_ok {f : MV → MV → Bool} {n : Nat} (hf : ∀ x y a b, keyOf x = some a → keyOf y = some b → a.depth < n → f x y = NestedKey.beq a b) : ∀ {xs ys : List MV} {as bs : List NestedKey}, keysOf xs = some as → keysOf ys = some bs → NestedKey.depthAll as < n → eqL f xs ys = NestedKey.beqAll as bs
  | [], [], as, bs, h1, h2, _ => by
    cases h1; cases h2; rfl
  | [], y :: r, as, bs, h1, h2, _ => by
    obtain ⟨k, kr, _, _, rfl⟩ := keysOf_cons h2
    cases h1; rfl
  | x :: r, [], as, bs, h1, h2, _ => by
    obtain ⟨k, kr, _, _, rfl⟩ := keysOf_cons h1
    cases h2; rfl
  | x :: xs, y :: ys, as, bs, h1, h2, hd => by
    obtain ⟨k1, kr1, e1, e2, rfl⟩ := keysOf_cons h1
    obtain ⟨k2, kr2, e3, e4, rfl⟩ := keysOf_cons h2
    have hd' : max k1.depth (NestedKey.depthAll kr1) < n := hd
    show Bool.rec (motive := fun _ => Bool) false (eqL f xs ys) (f x y) = _
    rw [hf x y k1 k2 e1 e3 (by omega), eqL_ok hf e2 e4 (by omega)]
    show _ = (NestedKey.beq k1 k2 && NestedKey.beqAll kr1 kr2)
    cases NestedKey.beq k1 k2 <;> rfl
theorem eqKf_ok : ∀ (n : Nat) (x y : MV) (a b : NestedKey), keyOf x = some a → keyOf y = some b → a.depth < n → eqKf n x y = NestedKey.beq a b
  | 0, _, _, _, _, _, _, h => absurd h (Nat.not_lt_zero _)
  | n + 1, x, y, a, b, h1, h2, hd => by
    cases x with
    | int i =>
      cases h1
      cases y with
      | int j =>
        cases h2
        show eqI i j = NestedKey.beq (.num i) (.num j)
        rw [eqI_ok]; simp [NestedKey.beq]
      | tup ys => obtain ⟨ks, _, rfl⟩ := keyOf_tup h2; rfl
      | _ => cases h2 <;> rfl
    | str z =>
      cases h1
      cases y with
      | str u => cases h2; show decide (z = u) = NestedKey.beq (.text z) (.text u); simp [NestedKey.beq]
      | tup ys => obtain ⟨ks, _, rfl⟩ := keyOf_tup h2; rfl
      | _ => cases h2 <;> rfl
    | non =>
      cases h1
      cases y with
      | tup ys => obtain ⟨ks, _, rfl⟩ := keyOf_tup h2; rfl
      | _ => cases h2 <;> rfl
    | tup xs =>
      obtain ⟨ks, e1, rfl⟩ := keyOf_tup h1
      cases y with
      | tup ys =>
        obtain ⟨ls, e2, rfl⟩ := keyOf_tup h2
        have hd' : NestedKey.depthAll ks + 1 < n + 1 := hd
        show eqL (eqKf n) xs ys = NestedKey.beqAll ks ls
        exact eqL_ok (fun x y a b p q r => eqKf_ok n x y a b p q r) e1 e2 (by omega)
      | _ => cases h2 <;> rfl
    | _ => cases h1
/-! ### entries -/
theorem keyN_ok {x : MV} {k : NestedKey} (h : keyN x = some k) : keyOf x = some k ∧ k.depth ≤ 8 := by
  unfold keyN at h
  split at h
  · rename_i k' e
    split at h
    · rename_i c
      cases h
      exact ⟨e, Nat.le_of_ble_eq_true c⟩
    · cases h
  · cases h
theorem eqK_N {x y : MV} {a b : NestedKey} (h1 : keyN x = some a) (h2 : keyN y = some b) : eqKf 10 x y = decide (a = b) := by
  obtain ⟨e1, d1⟩ := keyN_ok h1
  obtain ⟨e2, _⟩ := keyN_ok h2
  rw [eqKf_ok 10 x y a b e1 e2 (by omega), NestedKey.decide_eq]
def lkD (k : MV) (kvs : List (MV × MV)) : Option MV := List.rec (motive := fun _ => Option MV) none (fun p _ ih => Bool.rec (motive := fun _ => Option MV) ih (some p.2) (eqKf 10 k p.1)) kvs
/-- in its place, or at the end -/
def stD (k v : MV) (kvs : List (MV × MV)) : List (MV × MV) := List.rec (motive := fun _ => List (MV × MV)) [(k, v)] (fun p r ih => Bool.rec (motive := fun _ => List (MV × MV)) (p :: ih) ((p.1, v) :: r) (eqKf 10 k p.1)) kvs
section
variable {T : Tb} {K : PySem.W.Frag} {ρ : Rho} {M : Addr → Prop} {H : Hp}
theorem atP_cons {k j : NestedKey} {a : Addr} {v : V} {r : List NE} : atP ((j, a, v) :: r) k = if j = k then some (a, v) else atP r k := by
  by_cases z : j = k <;> simp [atP, List.find?_cons, z]
theorem lkD_N {k : MV} {nk : NestedKey} (hk : keyN k = some nk) : ∀ {kvs : List (MV × MV)} {ps : List NE}, DenN T K ρ M H kvs ps → (∀ x, lkD k kvs = some x → ∃ b v, atP ps nk = some (b, v) ∧ Den T K ρ M H x v) ∧ (lkD k kvs = none → atP ps nk = none)
  | _, _, .nil => ⟨fun x e => (by cases e), fun _ => rfl⟩
  | _, _, .cons (k := k2) (x := x2) (nk := n2) (r := r) e d1 d2 t => by
    obtain ⟨h1, h2⟩ := lkD_N hk t
    have q := eqK_N hk e
    have u : lkD k ((k2, x2) :: r) = Bool.rec (motive := fun _ => Option MV) (lkD k r) (some x2) (eqKf 10 k k2) := rfl
    rw [u, q, atP_cons]
    by_cases z : nk = n2
    · subst z
      rw [decide_eq_true rfl, if_pos rfl]
      exact ⟨fun x e => (by cases e; exact ⟨_, _, rfl, d2⟩), fun e => (by cases e)⟩
    · rw [decide_eq_false z, if_neg (fun y => z y.symm)]
      exact ⟨h1, h2⟩
theorem atP_put {k : NestedKey} {v : V} {j : NestedKey} {a : Addr} {w : V} {r : List NE} : stP ((j, a, w) :: r) k a v = stP ((j, a, w) :: r) k a v := rfl
/-- where no key is met twice -/
theorem stP_cons {k j : NestedKey} {a b : Addr} {v w : V} {r : List NE} (nd : j ∉ r.map (·.1)) : stP ((j, b, w) :: r) k a v = if j = k then (j, b, v) :: r else (j, b, w) :: stP r k a v := by
  unfold stP
  rw [atP_cons]
  by_cases z : j = k
  · subst z
    rw [if_pos rfl, if_pos rfl]
    simp only [Option.isSome_some, if_true, List.map_cons]
    congr 1
    have key : ∀ (l : List NE), j ∉ l.map (·.1) → l.map (fun x => if x.1 = j then (x.1, x.2.1, v) else x) = l := by
      intro l
      induction l with
      | nil => intro _; rfl
      | cons p l ih =>
        intro h
        simp only [List.map_cons, List.mem_cons, not_or] at h
        rw [List.map_cons, if_neg (fun e => h.1 e.symm), ih h.2]
    exact key r nd
  · rw [if_neg z, if_neg z]
    cases atP r k with
    | none => rfl
    | some p => simp only [Option.isSome_some, if_true, List.map_cons, z, if_false]
theorem stD_N {k x : MV} {nk : NestedKey} {a : Addr} {v : V} (hk : keyN k = some nk) (dk : Den T K ρ M H k (.ref a)) (dx : Den T K ρ M H x v) : ∀ {kvs : List (MV × MV)} {ps : List NE}, DenN T K ρ M H kvs ps → (ps.map (·.1)).Nodup → DenN T K ρ M H (stD k x kvs) (stP ps nk a v)
  | _, _, .nil, _ => .cons hk dk dx .nil
  | _, _, .cons (k := k2) (x := x2) (nk := n2) (r := r) e d1 d2 t, nd => by
    have nd2 := List.nodup_cons.mp nd
    rw [stP_cons nd2.1]
    have u : stD k x ((k2, x2) :: r) = Bool.rec (motive := fun _ => List (MV × MV)) ((k2, x2) :: stD k x r) ((k2, x) :: r) (eqKf 10 k k2) := rfl
    rw [u, eqK_N hk e]
    by_cases z : nk = n2
    · subst z
      rw [decide_eq_true rfl, if_pos rfl]
      exact .cons e d1 dx t
    · rw [decide_eq_false z, if_neg (fun y => z y.symm)]
      exact .cons e d1 d2 (stD_N hk dk dx t nd2.2)
theorem DenN.length : ∀ {kvs : List (MV × MV)} {ps : List NE}, DenN T K ρ M H kvs ps → kvs.length = ps.length
  | _, _, .nil => rfl
  | _, _, .cons _ _ _ t => congrArg (· + 1) t.length
mutual
theorem den_nk : ∀ {x : MV} {v : V} {k : NestedKey}, Den T K ρ M H x v → keyOf x = some k → NkV K H k v
  | _, _, _, .non, e => by cases e; exact .non
  | _, _, _, .bl _, e => by cases e
  | _, _, _, .int i, e => by cases e; exact .num _
  | _, _, _, .str x, e => by cases e; exact .text _
  | _, _, _, .tup n r d, e => by
    obtain ⟨ks, e1, rfl⟩ := keyOf_tup e
    exact .tup (SqT.of r) (den_nks d e1)
  | _, _, _, .tupK s d, e => by
    obtain ⟨ks, e1, rfl⟩ := keyOf_tup e
    exact .tup (s _) (den_nks d e1)
  | _, _, _, .lst _ _ _, e => by cases e
  | _, _, _, .ins _ _ _, e => by cases e
  | _, _, _, .ref _, e => by cases e
  | _, _, _, .ati _, e => by cases e
  | _, _, _, .ats _ _, e => by cases e
  | _, _, _, .dK _ _ _, e => by cases e
  | _, _, _, .dN _ _ _ _, e => by cases e
theorem den_nks : ∀ {xs : List MV} {vs : List V} {ks : List NestedKey}, DenL T K ρ M H xs vs → keysOf xs = some ks → NkVs K H ks vs
  | _, _, _, .nil, e => by cases e; exact .nil
  | _, _, _, .cons d r, e => by
    obtain ⟨k, kr, e1, e2, rfl⟩ := keysOf_cons e
    exact .cons (den_nk d e1) (den_nks r e2)
end
theorem denN_keys : ∀ {kvs : List (MV × MV)} {ps : List NE}, DenN T K ρ M H kvs ps → ∀ p ∈ ps, KeyA K H p.1 p.2.1
  | _, _, .nil, p, h => by cases h
  | _, _, .cons e d1 d2 t, p, h => by
    rcases List.mem_cons.mp h with z | z
    · subst z
      obtain ⟨e1, e2⟩ := keyN_ok e
      exact ⟨den_nk d1 e1, e2⟩
    · exact denN_keys t p z
end
end
end WK
set_option Elab.async false
set_option linter.all false
set_option maxRecDepth 100000
/-! d[k], k in d, d[k] = v, len(d), {} -/
namespace WK
noncomputable section
open PySem L2
/-! ### what is a key -/
def allL (f : MV → Bool) (xs : List MV) : Bool := List.rec (motive := fun _ => Bool) true (fun x _ ih => Bool.rec (motive := fun _ => Bool) false ih (f x)) xs
def kB (n : Nat) : MV → Bool := Nat.rec (motive := fun _ => MV → Bool) (fun x => match x with
  | .int _ => true | .str _ => true | .non => true
  | _ => false) (fun _ ih x => match x with
  | .int _ => true | .str _ => true | .non => true
  | .tup xs => allL ih xs
  | _ => false) n
theorem allL_keys {f : MV → Bool} {n : Nat} (hf : ∀ x, f x = true → ∃ k, keyOf x = some k ∧ k.depth ≤ n) : ∀ {xs : List MV}, allL f xs = true → ∃ ks, keysOf xs = some ks ∧ NestedKey.depthAll ks ≤ n
  | [], _ => ⟨[], rfl, Nat.zero_le _⟩
  | x :: r, h => by
    have h' : Bool.rec (motive := fun _ => Bool) false (allL f r) (f x) = true := h
    cases e : f x with
    | false => rw [e] at h'; cases h'
    | true =>
      rw [e] at h'
      obtain ⟨k, e1, d1⟩ := hf x e
      obtain ⟨ks, e2, d2⟩ := allL_keys hf (show allL f r = true from h')
      refine ⟨k :: ks, ?_, Nat.max_le.mpr ⟨d1, d2⟩⟩
      unfold keysOf
      rw [e1, e2]
theorem kB_ok : ∀ (n : Nat) (x : MV), kB n x = true → ∃ k, keyOf x = some k ∧ k.depth ≤ n
  | 0, x, h => by
    cases x with
    | int i => exact ⟨_, rfl, Nat.zero_le _⟩
    | str z => exact ⟨_, rfl, Nat.zero_le _⟩
    | non => exact ⟨_, rfl, Nat.zero_le _⟩
    | _ => cases h
  | n + 1, x, h => by
    cases x with
    | int i => exact ⟨_, rfl, Nat.zero_le _⟩
    | str z => exact ⟨_, rfl, Nat.zero_le _⟩
    | non => exact ⟨_, rfl, Nat.zero_le _⟩
    | tup xs =>
      obtain ⟨ks, e, d⟩ := allL_keys (kB_ok n) (show allL (kB n) xs = true from h)
      exact ⟨.tup ks, by unfold keyOf; rw [e], Nat.succ_le_succ d⟩
    | _ => cases h
/-- a tuple that may be a key -/
def isKT (x : MV) : Bool := match x with
  | .tup xs => allL (kB 7) xs
  | _ => false
theorem isKT_ok {x : MV} (h : isKT x = true) : ∃ nk, keyN x = some nk ∧ ∃ xs, x = .tup xs := by
  unfold isKT at h
  split at h
  · rename_i xs
    obtain ⟨ks, e, d⟩ := allL_keys (kB_ok 7) h
    refine ⟨.tup ks, ?_, xs, rfl⟩
    unfold keyN
    have e1 : keyOf (.tup xs) = some (.tup ks) := by unfold keyOf; rw [e]
    rw [e1]
    have d1 : (NestedKey.tup ks).depth ≤ 8 := Nat.succ_le_succ d
    simp only [Nat.ble_eq_true_of_le d1]
  · cases h
/-- an int or a text -/
def isKK (x : MV) : Bool := match x with
  | .int _ => true | .str _ => true
  | _ => false
def kOf : MV → Key
  | .int i => .inl i
  | .str z => .inr z
  | _ => .inl 0
def isK (k : Bool) (x : MV) : Bool := Bool.rec (motive := fun _ => Bool) (isKT x) (isKK x) k
section
variable {T : Tb} {K : PySem.W.Frag} {ρ : Rho} {M : Addr → Prop} {H : Hp}
theorem kk_den {x : MV} {v : V} (c : isKK x = true) (d : Den T K ρ M H x v) : v = kV (kOf x) := by
  unfold isKK at c
  split at c
  · cases d; rfl
  · cases d; rfl
  · cases c
theorem eqK_K {x y : MV} (c : isKK x = true) (c' : isKK y = true) : eqKf 10 x y = decide (kOf x = kOf y) := by
  cases x with
  | int i =>
    cases y with
    | int j =>
      show eqI i j = decide ((Sum.inl i : Key) = Sum.inl j)
      rw [eqI_ok]
      by_cases z : i = j
      · subst z; rw [decide_eq_true rfl, decide_eq_true rfl]
      · rw [decide_eq_false z, decide_eq_false (fun q => z (Sum.inl.inj q))]
    | str u => exact (decide_eq_false (fun q : (Sum.inl i : Key) = Sum.inr u => nomatch q)).symm
    | _ => cases c'
  | str u =>
    cases y with
    | int j => exact (decide_eq_false (fun q : (Sum.inr u : Key) = Sum.inl j => nomatch q)).symm
    | str z =>
      show decide (u = z) = decide ((Sum.inr u : Key) = Sum.inr z)
      by_cases q : u = z
      · subst q; rw [decide_eq_true rfl, decide_eq_true rfl]
      · rw [decide_eq_false q, decide_eq_false (fun w => q (Sum.inr.inj w))]
    | _ => cases c'
  | _ => cases c
theorem denK_key {k x : MV} {r : List (MV × MV)} {ps : List (Key × V)} (d : DenK T K ρ M H ((k, x) :: r) ps) : ∃ v r', ps = (kOf k, v) :: r' ∧ isKK k = true ∧ Den T K ρ M H x v ∧ DenK T K ρ M H r r' := by
  cases d with
  | consI d t => exact ⟨_, _, rfl, rfl, d, t⟩
  | consS d t => exact ⟨_, _, rfl, rfl, d, t⟩
theorem DenK.mk {k x : MV} {v : V} {r : List (MV × MV)} {r' : List (Key × V)} (c : isKK k = true) (d : Den T K ρ M H x v) (t : DenK T K ρ M H r r') : DenK T K ρ M H ((k, x) :: r) ((kOf k, v) :: r') := by
  unfold isKK at c
  split at c
  · exact .consI d t
  · exact .consS d t
  · cases c
theorem lkD_K {k : MV} (hk : isKK k = true) : ∀ {kvs : List (MV × MV)} {ps : List (Key × V)}, DenK T K ρ M H kvs ps → (∀ x, lkD k kvs = some x → ∃ v, valV ps (kOf k) = some v ∧ Den T K ρ M H x v) ∧ (lkD k kvs = none → valV ps (kOf k) = none)
  | [], _, d => by
    cases d
    exact ⟨fun x e => (by cases e), fun _ => rfl⟩
  | (k2, x2) :: r, _, d => by
    obtain ⟨v2, r', rfl, c2, d2, t⟩ := denK_key d
    obtain ⟨h1, h2⟩ := lkD_K hk t
    have u : lkD k ((k2, x2) :: r) = Bool.rec (motive := fun _ => Option MV) (lkD k r) (some x2) (eqKf 10 k k2) := rfl
    rw [u, eqK_K hk c2]
    by_cases z : kOf k = kOf k2
    · rw [decide_eq_true z, valV_pos (k := kOf k) z.symm]
      exact ⟨fun x e => (by cases e; exact ⟨_, rfl, d2⟩), fun e => (by cases e)⟩
    · rw [decide_eq_false z, valV_neg (k := kOf k) (fun y => z y.symm)]
      exact ⟨h1, h2⟩
theorem putK_cons {k j : Key} {v w : V} {r : List (Key × V)} (nd : j ∉ r.map (·.1)) : putK ((j, w) :: r) k v = if j = k then (j, v) :: r else (j, w) :: putK r k v := by
  unfold putK
  by_cases z : j = k
  · subst z
    rw [if_pos rfl]
    simp only [List.any_cons, decide_true, Bool.true_or, if_true, List.map_cons]
    congr 1
    have key : ∀ (l : List (Key × V)), j ∉ l.map (·.1) → l.map (fun x => if x.1 = j then (x.1, v) else x) = l := by
      intro l
      induction l with
      | nil => intro _; rfl
      | cons p l ih =>
        intro h
        simp only [List.map_cons, List.mem_cons, not_or] at h
        rw [List.map_cons, if_neg (fun e => h.1 e.symm), ih h.2]
    exact key r nd
  · rw [if_neg z]
    simp only [List.any_cons, z, decide_false, Bool.false_or]
    split
    · rename_i c; rw [List.map_cons, if_neg z]
    · rfl
end
section
variable {T : Tb} {K : PySem.W.Frag} {ρ : Rho} {M : Addr → Prop} {H : Hp}
theorem stD_K {k x : MV} {v : V} (hk : isKK k = true) (dx : Den T K ρ M H x v) : ∀ {kvs : List (MV × MV)} {ps : List (Key × V)}, DenK T K ρ M H kvs ps → (ps.map (·.1)).Nodup → DenK T K ρ M H (stD k x kvs) (putK ps (kOf k) v)
  | [], _, d, _ => by
    cases d
    exact DenK.mk hk dx .nil
  | (k2, x2) :: r, _, d, nd => by
    obtain ⟨v2, r', rfl, c2, d2, t⟩ := denK_key d
    have nd2 := List.nodup_cons.mp nd
    rw [putK_cons nd2.1]
    have u : stD k x ((k2, x2) :: r) = Bool.rec (motive := fun _ => List (MV × MV)) ((k2, x2) :: stD k x r) ((k2, x) :: r) (eqKf 10 k k2) := rfl
    rw [u, eqK_K hk c2]
    by_cases z : kOf k = kOf k2
    · rw [decide_eq_true z, if_pos z.symm]
      exact DenK.mk c2 dx t
    · rw [decide_eq_false z, if_neg (fun y => z y.symm)]
      exact DenK.mk c2 d2 (stD_K hk dx t nd2.2)
theorem DenK.length : ∀ {kvs : List (MV × MV)} {ps : List (Key × V)}, DenK T K ρ M H kvs ps → kvs.length = ps.length
  | _, _, .nil => rfl
  | _, _, .consI _ t => congrArg (· + 1) t.length
  | _, _, .consS _ t => congrArg (· + 1) t.length
/-- a dict's entries stand at a -/
def DictAt (T : Tb) (K : PySem.W.Frag) (ρ : Rho) (M : Addr → Prop) (H : Hp) (a : Addr) (kvs : List (MV × MV)) : Bool → Prop
  | true => ∃ ps, H a = some (.dK ps) ∧ DenK T K ρ M H kvs ps
  | false => ∃ ps, H a = some (dictH T.P T.w a ps) ∧ (a == sysModules) = false ∧ DenN T K ρ M H kvs ps
theorem den_asD {h : MH} {x : MV} {k : Bool} {kvs : List (MV × MV)} {v : V} (s : SimH T K ρ h H) (e : asD h x = some (k, kvs)) (d : Den T K ρ (Mu ρ h) H x v) : ∃ a, v = .ref a ∧ DictAt T K ρ (Mu ρ h) H a kvs k := by
  cases x with
  | dct k' kvs' =>
    cases e
    cases d with
    | dK n r d => exact ⟨_, rfl, _, r, d⟩
    | dN n r y d => exact ⟨_, rfl, _, r, y, d⟩
  | ref l =>
    have e1 : (match h.get l with
      | some (.dct k kvs) => some (k, kvs)
      | _ => none) = some (k, kvs) := e
    cases q : h.get l with
    | none => rw [q] at e1; cases e1
    | some o =>
      rw [q] at e1
      cases o with
      | dct k' kvs' =>
        cases e1
        cases d with
        | ref r =>
          obtain ⟨a, r', z⟩ := s.ob l _ q
          rw [r] at r'; cases r'
          cases k with
          | true => exact ⟨_, rfl, z⟩
          | false => exact ⟨_, rfl, z⟩
      | _ => cases e1
  | _ => cases e
end
section
variable {T : Tb} {X : Cx} {E : XW}
/-! ### d[k] -/
def opIxA (x i : MV) (h : MH) : Tr ER := match asD h x with
  | some (k, kvs) => ifT (isK k i) (okO (lkD i kvs) h)
  | none => opIx x i h
def rIxA (T : Tb) (K : PySem.W.Frag) : R2 := fun x y H Q => rIx K x y H Q ∨ rIxN T.P T.w K x y H Q ∨ rIxK x y H Q
theorem ix_A (hP : X.prog = T.P) (hw : X.w = T.w) (hu : X.A.units + 12 < cLine) : IxR X (rIxA T X.K) := by
  have h := ix_seq.or ((ix_N (X := X) hu).or (ix_K (X := X) hu))
  rw [hP, hw] at h
  exact h
theorem keyA_of {K : PySem.W.Frag} {ρ : Rho} {M : Addr → Prop} {H : Hp} {i : MV} {v : V} (c : isKT i = true) (d : Den T K ρ M H i v) : ∃ nk a, keyN i = some nk ∧ v = .ref a ∧ KeyA K H nk a := by
  obtain ⟨nk, e, xs, rfl⟩ := isKT_ok c
  obtain ⟨e1, e2⟩ := keyN_ok e
  have nv := den_nk d e1
  obtain ⟨a, vs, rfl, _, _⟩ := den_tup d
  exact ⟨nk, a, e, rfl, nv, e2⟩
theorem opIxA_ok : OpS T X (rIxA T X.K) opIxA := fun ρ h H x y v u E ms Q s dx dy w => by
  unfold opIxA at w
  split at w
  · rename_i k kvs e
    obtain ⟨c, w1⟩ := ifT_wp w
    clear w
    obtain ⟨a, rfl, da⟩ := den_asD s e dx
    cases el : lkD y kvs with
    | none => rw [el] at w1; exact w1.elim
    | some z =>
      rw [el] at w1
      cases k with
      | true =>
        obtain ⟨ps, r, dk⟩ := da
        have c : isKK y = true := c
        obtain ⟨v', e2, d2⟩ := (lkD_K c dk).1 z el
        exact .inr (.inr ⟨a, ps, kOf y, v', rfl, kk_den c dy, r, e2, post_den s d2 w1⟩)
      | false =>
        obtain ⟨ps, r, _, dn⟩ := da
        obtain ⟨nk, b, e1, rfl, ka⟩ := keyA_of (T := T) (show isKT y = true from c) dy
        obtain ⟨b', v', e2, d2⟩ := (lkD_N e1 dn).1 z el
        exact .inr (.inl ⟨a, ps, b, nk, b', v', rfl, rfl, r, denN_keys dn, ka, e2, post_den s d2 w1⟩)
  · exact .inl (opIx_ok ρ h H x y v u E ms Q s dx dy w)
theorem s_ixA {a b : Expr} {pos : Pos} {f g : RunE} (hP : X.prog = T.P) (hw : X.w = T.w) (hu : X.A.units + 12 < cLine) (ha : SE T X E a f) (hb : SE T X E b g) (hp : plainS b = true) : SE T X E (.Subscript a b pos) (run2 f g opIxA) := .ofV (peI (pe_ix (ix_A hP hw hu) ha.v hb.v (plain_ix hp)) (t_run2 opIxA_ok)) fun _ => rfl
/-! ### k in d -/
def isS {α : Type} (o : Option α) : Bool := Option.rec (motive := fun _ => Bool) false (fun _ => true) o
theorem isS_eq {α : Type} (o : Option α) : isS o = o.isSome := by cases o <;> rfl
def cInA : CF := fun x y h => match asD h y with
  | some (k, kvs) => match isK k x with
    | true => some (isS (lkD x kvs))
    | false => none
  | none => cIn x y h
def cNiA : CF := fun x y h => match asD h y with
  | some (k, kvs) => match isK k x with
    | true => some (!isS (lkD x kvs))
    | false => none
  | none => cNi x y h
def rInB (T : Tb) (K : PySem.W.Frag) : R2 := fun x y H Q => rInA K x y H Q ∨ rInN T.P T.w K false x y H Q ∨ rInK false x y H Q
def rNiB (T : Tb) (K : PySem.W.Frag) : R2 := fun x y H Q => rNiA K x y H Q ∨ rInN T.P T.w K true x y H Q ∨ rInK true x y H Q
theorem op_inB (hP : X.prog = T.P) (hw : X.w = T.w) (hu : X.A.units + 65 < cLine) : OpR X (compareOp .In) (rInB T X.K) := by
  have h := (op_inA (X := X) hu).or ((in_N (X := X) (by omega)).or (in_K (X := X) (by omega)))
  rw [hP, hw] at h
  exact h
theorem op_niB (hP : X.prog = T.P) (hw : X.w = T.w) (hu : X.A.units + 65 < cLine) : OpR X (compareOp .NotIn) (rNiB T X.K) := by
  have h := (op_niA (X := X) hu).or ((ni_N (X := X) (by omega)).or (ni_K (X := X) (by omega)))
  rw [hP, hw] at h
  exact h
theorem in_some {K : PySem.W.Frag} {ρ : Rho} {h : MH} {H : Hp} {x y : MV} {v u : V} {k : Bool} {kvs : List (MV × MV)} {n : Bool} {Q : VK} (s : SimH T K ρ h H) (e : asD h y = some (k, kvs)) (c : isK k x = true) (dx : Den T K ρ (Mu ρ h) H x v) (dy : Den T K ρ (Mu ρ h) H y u) (q : Q (.bl (n ^^ isS (lkD x kvs))) H) : rInN T.P T.w K n v u H Q ∨ rInK n v u H Q := by
  obtain ⟨a, rfl, da⟩ := den_asD s e dy
  cases k with
  | true =>
    obtain ⟨ps, r, dk⟩ := da
    have c : isKK x = true := c
    refine .inr ⟨a, ps, kOf x, kk_den c dx, rfl, r, ?_⟩
    obtain ⟨h1, h2⟩ := lkD_K c dk
    cases el : lkD x kvs with
    | none => rw [el] at q; rw [h2 el]; exact q
    | some z => rw [el] at q; obtain ⟨v', e2, _⟩ := h1 z el; rw [e2]; exact q
  | false =>
    obtain ⟨ps, r, sy, dn⟩ := da
    obtain ⟨nk, b, e1, rfl, ka⟩ := keyA_of (T := T) (show isKT x = true from c) dx
    refine .inl ⟨a, ps, b, nk, rfl, rfl, r, sy, denN_keys dn, ka, ?_⟩
    obtain ⟨h1, h2⟩ := lkD_N e1 dn
    cases el : lkD x kvs with
    | none => rw [el] at q; rw [h2 el]; exact q
    | some z => rw [el] at q; obtain ⟨b', v', e2, _⟩ := h1 z el; rw [e2]; exact q
theorem cInA_ok : OpS T X (rInB T X.K) (cOp cInA) := fun ρ h H x y v u E ms Q s dx dy w => by
  obtain ⟨b, e, w1⟩ := bO_wp w
  unfold cInA at e
  split at e
  · rename_i k kvs ed
    split at e
    · rename_i c
      cases e
      exact .inr (in_some (n := false) s ed c dx dy (by simpa using post_bl s w1))
    · cases e
  · refine .inl (cIn_ok ρ h H x y v u E ms Q s dx dy ?_)
    show (bO (cIn x y h) h).wp _
    rw [e]; exact w1
theorem cNiA_ok : OpS T X (rNiB T X.K) (cOp cNiA) := fun ρ h H x y v u E ms Q s dx dy w => by
  obtain ⟨b, e, w1⟩ := bO_wp w
  unfold cNiA at e
  split at e
  · rename_i k kvs ed
    split at e
    · rename_i c
      cases e
      exact .inr (in_some (n := true) s ed c dx dy (by simpa using post_bl s w1))
    · cases e
  · refine .inl (cNi_ok ρ h H x y v u E ms Q s dx dy ?_)
    show (bO (cNi x y h) h).wp _
    rw [e]; exact w1
end
end
end WK
set_option Elab.async false
set_option linter.all false
set_option maxRecDepth 100000
/-! o[i] = v, o[i] op= v, {} -/
namespace WK
noncomputable section
open PySem PySem.Spec PyProof.Rows L2
section
variable {X : Cx}
def pset_or {t t' : TSet} (h : PSet X t) (h' : PSet X t') : PSet X (fun o i v H Q => t o i v H Q ∨ t' o i v H Q) := fun pins s σ H o i v ov iv u Q I ro ri rv q => q.elim (fun q => h pins s σ H o i v ov iv u Q I ro ri rv q) fun q => h' pins s σ H o i v ov iv u Q I ro ri rv q
def pget_or {t t' : V → V → Hp → VK → Prop} (h : PGet X t) (h' : PGet X t') : PGet X (fun o i H Q => t o i H Q ∨ t' o i H Q) := fun pins s σ H o i ov iv Q I ro ri q => q.elim (fun q => h pins s σ H o i ov iv Q I ro ri q) fun q => h' pins s σ H o i ov iv Q I ro ri q
theorem get_L : PGet X (rIxL X.K) := by
  intro pins s σ H o i ov iv Q I ro ri h
  obtain ⟨p, xs, k, z, rfl, rfl, hq, he, q⟩ := h
  obtain rfl : ov = Value.ref p := ro
  obtain ⟨t, rfl⟩ := (show ∃ t, iv = Value.int k t from ri)
  obtain ⟨its, r, pl, hz⟩ := I.list hq
  obtain ⟨j, h1, h2, h3, h4, h5⟩ := atI_get he
  obtain ⟨w, ew, rw'⟩ := r.get h2
  have hl := r.length
  have hn := line63
  have fin : EP X pins σ Q w s := ⟨z, H, I, rw', q⟩
  by_cases h0 : 0 ≤ k
  · have hj : k.toNat = j := by
      rw [seqIndex_of h0 h5] at h1
      exact Option.some.inj h1
    exact wpAny_getItem_list pl.isList h0 (by omega) (by rw [hj]; simpa using ew) fin
  · have hj : (k + (its.toArray.size : Int)).toNat = j := by
      rw [seqIndex_neg (by omega) h4] at h1
      rw [List.size_toArray, ← hl]
      exact Option.some.inj h1
    exact wpAny_getItem_list_neg pl.isList (by omega) (by rw [List.size_toArray] <;> omega) (by omega) (by rw [hj]; simpa using ew) fin
theorem get_K (hu : X.A.units + 12 < cLine) : PGet X rIxK := by
  intro pins s σ H o i ov iv Q I ro ri h
  obtain ⟨d, ps, k, z, rfl, rfl, hd, e, q⟩ := h
  obtain rfl : ov = Value.ref d := ro
  exact d_getItem (by omega) I (.inl ⟨ps, k, .inl hd, rfl, e.symm⟩) ri fun w' s' I' r => ⟨z, H, I', r, q⟩
theorem get_N (hu : X.A.units + 12 < cLine) : PGet X (rIxN X.prog X.w X.K) := by
  intro pins s σ H o i ov iv Q I ro ri h
  obtain ⟨d, ps, a, k, b, z, rfl, rfl, hd, kk, ka, e, q⟩ := h
  obtain rfl : ov = Value.ref d := ro
  obtain rfl : iv = Value.ref a := ri
  obtain ⟨xs, r, hx⟩ := dict_at I hd kk
  obtain ⟨u, e2, ru⟩ := (at_rel r).1 _ e
  exact wpAny_getItem_heap (show X.A.in1.units + 8 < cLine by show X.A.units + 1 + 8 < _; omega) (ka.is I) hx e2 ⟨z, H, I.tok _, ru, q⟩
end
/-! ### by values -/
def lenN {α : Type} (xs : List α) : Nat := List.rec (motive := fun _ => Nat) 0 (fun _ _ ih => Nat.succ ih) xs
theorem lenN_eq {α : Type} : ∀ xs : List α, lenN xs = xs.length
  | [] => rfl
  | _ :: r => congrArg Nat.succ (lenN_eq r)
def updL (xs : List MV) (i : Nat) (v : MV) : List MV := List.rec (motive := fun _ => Nat → List MV) (fun _ => []) (fun x r ih i => Nat.rec (motive := fun _ => List MV) (v :: r) (fun j _ => x :: ih j) i) xs i
theorem updL_eq : ∀ (xs : List MV) (i : Nat) (v : MV), updL xs i v = xs.set i v
  | [], _, _ => rfl
  | _ :: _, 0, _ => rfl
  | x :: r, i + 1, v => congrArg (x :: ·) (updL_eq r i v)
def ixM (n : Nat) (i : Int) : Option Nat := match i with
  | .ofNat j => match Nat.ble (j + 1) n with
    | true => some j
    | false => none
  | .negSucc j => match Nat.ble (j + 1) n with
    | true => some (n - (j + 1))
    | false => none
theorem ixM_ok {n : Nat} {i : Int} {j : Nat} (h : ixM n i = some j) : ixN n i = some j := by
  unfold ixM at h
  unfold ixN
  split at h
  · rename_i k
    split at h
    · rename_i c
      have c := Nat.le_of_ble_eq_true c
      cases h
      rw [if_pos (by show (0 : Int) ≤ (j : Int); omega), if_pos (by show (j : Int) < _; omega)]
      rfl
    · cases h
  · rename_i k
    split at h
    · rename_i c
      have c := Nat.le_of_ble_eq_true c
      cases h
      rw [if_neg (by omega), if_pos (by omega)]
      congr 1
      omega
    · cases h
/-- a store -/
def stSub (x i v : MV) (h : MH) : Option MH := match x with
  | .ref l => match h.get l with
    | some (.dct k kvs) => match isK k i && Nat.ble (lenN kvs + 1) sizeLine with
      | true => some (h.put l (.dct k (stD i v kvs)))
      | false => none
    | some (.lst xs) => match i with
      | .int j => match ixM (lenN xs) j with
        | some n => some (h.put l (.lst (updL xs n v)))
        | none => none
      | _ => none
    | _ => none
  | _ => none
section
variable {T : Tb} {X : Cx} {E : XW}
theorem DenL.set {K : PySem.W.Frag} {ρ : Rho} {M : Addr → Prop} {H : Hp} {x : MV} {v : V} (d : Den T K ρ M H x v) : ∀ {xs : List MV} {vs : List V} (i : Nat), DenL T K ρ M H xs vs → DenL T K ρ M H (xs.set i x) (vs.set i v)
  | _, _, _, .nil => .nil
  | _, _, 0, .cons _ t => .cons d t
  | _, _, i + 1, .cons d1 t => .cons d1 (DenL.set d i t)
def rSt (T : Tb) (K : PySem.W.Frag) : TSet := fun o i v H Q => rSetL o i v H Q ∨ tSetN T.P T.w K o i v H Q ∨ tSetK o i v H Q
theorem set_A (hP : X.prog = T.P) (hw : X.w = T.w) (hu : X.A.units + 12 < cLine) : PSet X (rSt T X.K) := by
  have h := pset_or (X := X) set_list (pset_or (set_N hu) (set_K hu))
  rw [hP, hw] at h
  exact h
theorem stSub_ok {K : PySem.W.Frag} {ρ : Rho} {h h' : MH} {H : Hp} {x i v : MV} {ov iv vv : V} {Q : Hp → Prop} (s : SimH T K ρ h H) (e : stSub x i v h = some h') (dx : Den T K ρ (Mu ρ h) H x ov) (di : Den T K ρ (Mu ρ h) H i iv) (dv : Den T K ρ (Mu ρ h) H v vv)
    (q : ∀ H', Le ρ h H ρ h' H' → SimH T K ρ h' H' → Q H') : rSt T K ov iv vv H Q := by
  unfold stSub at e
  split at e
  · rename_i l
    cases dx with
    | ref r =>
      split at e
      · rename_i k kvs eg
        split at e
        · rename_i c
          cases e
          obtain ⟨c1, c2⟩ := Bool.and_eq_true_iff.mp c
          have c2 := Nat.le_of_ble_eq_true c2
          rw [lenN_eq] at c2
          obtain ⟨a, r', z⟩ := s.ob l _ eg
          have e9 := Option.some.inj (r'.symm.trans r)
          subst e9
          cases k with
          | true =>
            obtain ⟨ps, ea, dk⟩ := z
            have c1 : isKK i = true := c1
            have len := dk.length
            refine .inr (.inr ⟨_, ps, kOf i, rfl, kk_den c1 di, ea, by omega, fun nd => ?_⟩)
            have L := s.le_put (v := .dK (putK ps (kOf i) vv)) (o := .dct true (stD i v kvs)) eg r
            exact q _ L (s.put eg r ⟨_, upd_same, (stD_K c1 dv dk nd).le L⟩)
          | false =>
            obtain ⟨ps, ea, sy, dn⟩ := z
            obtain ⟨nk, b, e1, rfl, ka⟩ := keyA_of (T := T) (show isKT i = true from c1) di
            have len := dn.length
            refine .inr (.inl ⟨_, ps, b, nk, rfl, rfl, ea, by omega, denN_keys dn, ka, fun nd => ?_⟩)
            have L := s.le_put (v := dictH T.P T.w a (stP ps nk b vv)) (o := .dct false (stD i v kvs)) eg r
            exact q _ L (s.put eg r ⟨_, upd_same, sy, (stD_N e1 di dv dn nd).le L⟩)
        · cases e
      · rename_i xs eg
        split at e
        · split at e
          · rename_i n en
            cases e
            cases di
            obtain ⟨a, r', vs, ea, dl⟩ := s.ob l _ eg
            rw [r] at r'; cases r'
            have en := ixM_ok en
            rw [lenN_eq, dl.length] at en
            rw [updL_eq] at q
            have L := s.le_put (v := .lst (vs.set n vv)) (o := .lst (xs.set n v)) eg r
            exact .inl ⟨_, vs, _, n, rfl, rfl, ea, en, q _ L (s.put eg r ⟨_, upd_same, (DenL.set dv n dl).le L⟩)⟩
          · cases e
        · cases e
      · cases e
  · cases e
def gSubR (f g : RunE) : RunG := fun v ms h => (f ms h).be (fun o h1 => (g ms h1).be (fun i h2 => Option.rec (motive := fun _ => Tr GR) .bad (fun h3 => .ret (.ok ms h3)) (stSub o i v h2)) (fun x h => .ret (.ex x ms h))) (fun x h => .ret (.ex x ms h))
theorem g_sub {o i : Expr} {pos : Pos} {f g : RunE} (hP : X.prog = T.P) (hw : X.w = T.w) (hu : X.A.units + 12 < cLine) (ho : SE T X E o f) (hi : SE T X E i g)
    (ha : ∀ v, assign (.Subscript o i pos) X.env v = (do
      let ov ← holding [v] (eval o X.env)
      let iv ← holding [v, ov] (eval i X.env)
      standAt pos
      holding [v, ov, iv] (setItem ov iv v)
      release [v, ov, iv] [])) : SG T X E (.Subscript o i pos) (gSubR f g) :=
  pgI (pg_sub ho.v hi.v (set_A hP hw hu) ha) fun v σ H Q ⟨ρ, ms, h, x, s1, s2, dx, w⟩ => ⟨ρ, ms, h, s1, s2, Tr.wp_mono (Tr.wp_be w) fun r q => by
    cases r with
    | ex y h1 => exact q
    | ok y h1 =>
      intro ρ1 H1 ov l1 t1 d1
      refine ⟨ρ1, ms, h1, t1, s2.le l1, Tr.wp_mono (Tr.wp_be q) fun r q2 => ?_⟩
      cases r with
      | ex z h2 => exact exP.le l1 q2
      | ok z h2 =>
        intro ρ2 H2 iv l2 t2 d2
        have l12 := l1.trans l2
        dsimp only at q2
        cases e : stSub y z x h2 with
        | none => rw [e] at q2; exact q2.elim
        | some h3 =>
          rw [e] at q2
          exact stSub_ok t2 e (d1.le l2) d2 (dx.le l12) fun H3 l3 t3 => q2 ρ2 H3 σ (l12.trans l3) t3 (s2.le (l12.trans l3))⟩
/-! ### o[i] op= e -/
def rGet (T : Tb) (K : PySem.W.Frag) : V → V → Hp → VK → Prop := fun o i H Q => rIxL K o i H Q ∨ rIxN T.P T.w K o i H Q ∨ rIxK o i H Q
theorem get_A (hP : X.prog = T.P) (hw : X.w = T.w) (hu : X.A.units + 12 < cLine) : PGet X (rGet T X.K) := by
  have h := pget_or (X := X) get_L (pget_or (get_N hu) (get_K hu))
  rw [hP, hw] at h
  exact h
def getSub (x i : MV) (h : MH) : Tr ER := match asD h x with
  | some (k, kvs) => ifT (isK k i) (okO (lkD i kvs) h)
  | none => match i with
    | .int j => match asL h x with
      | some xs => okO (atM xs j) h
      | none => .bad
    | _ => .bad
theorem getSub_ok : OpS T X (rGet T X.K) getSub := fun ρ h H x y v u E ms Q s dx dy w => by
  unfold getSub at w
  split at w
  · rename_i k kvs e
    obtain ⟨c, w1⟩ := ifT_wp w
    clear w
    obtain ⟨a, rfl, da⟩ := den_asD s e dx
    cases el : lkD y kvs with
    | none => rw [el] at w1; exact w1.elim
    | some z =>
      rw [el] at w1
      cases k with
      | true =>
        obtain ⟨ps, r, dk⟩ := da
        have c : isKK y = true := c
        obtain ⟨v', e2, d2⟩ := (lkD_K c dk).1 z el
        exact .inr (.inr ⟨a, ps, kOf y, v', rfl, kk_den c dy, r, e2, post_den s d2 w1⟩)
      | false =>
        obtain ⟨ps, r, _, dn⟩ := da
        obtain ⟨nk, b, e1, rfl, ka⟩ := keyA_of (T := T) (show isKT y = true from c) dy
        obtain ⟨b', v', e2, d2⟩ := (lkD_N e1 dn).1 z el
        exact .inr (.inl ⟨a, ps, b, nk, b', v', rfl, rfl, r, denN_keys dn, ka, e2, post_den s d2 w1⟩)
  · split at w
    · split at w
      · rename_i xs e1
        cases dy
        obtain ⟨a, vs, rfl, r, d⟩ := den_asL s e1 dx
        cases e2 : atM xs _ with
        | none => rw [e2] at w; exact w.elim
        | some z =>
          rw [e2] at w
          obtain ⟨v', e3, d3⟩ := atM_ok d e2
          exact .inl ⟨a, vs, _, v', rfl, rfl, SqL.of r, e3, post_den s d3 w⟩
      · exact w.elim
    · exact w.elim
def runAugS (f g k : RunE) (op : MV → MV → MH → Tr ER) : RunS := fun ms h => (f ms h).be (fun o h1 => (g ms h1).be (fun i h2 => (getSub o i h2).be (fun x h3 => (k ms h3).be (fun y h4 => (op x y h4).be (fun z h5 => Option.rec (motive := fun _ => Tr SR) .bad (fun h6 => nxS ms h6) (stSub o i z h5)) (exS ms)) (exS ms)) (exS ms)) (exS ms)) (exS ms)
theorem s_augS {o i e : Expr} {op : Operator} {tpos pos : Pos} {f g k : RunE} {r : TIp} {om : MV → MV → MH → Tr ER} (hP : X.prog = T.P) (hw : X.w = T.w) (hu : X.A.units + 12 < cLine) (ho : SE T X E o f) (hi : SE T X E i g) (he : SE T X E e k) (hp : PIp X op r) (hr : IpS T X r om)
    (ha : ∀ ov iv new, augStore i ov iv new = (do holding [new, ov, iv] (setItem ov iv new); release [new, ov, iv] []; pure .next)) : SS T X E (.AugAssign (.Subscript o i tpos) op e pos) (runAugS f g k om) :=
  psI (ps_augS ho.v hi.v (get_A hP hw hu) he.v hp (set_A hP hw hu) ha) fun D σ H ⟨ρ, ms, h, s1, s2, w⟩ => ⟨ρ, ms, h, s1, s2, Tr.wp_mono (Tr.wp_be w) fun r q => by
    cases r with
    | ex y h1 => exact q
    | ok y h1 =>
      intro ρ1 H1 ov l1 t1 d1
      refine ⟨ρ1, ms, h1, t1, s2.le l1, Tr.wp_mono (Tr.wp_be q) fun r q2 => ?_⟩
      cases r with
      | ex z h2 => exact exP.le l1 q2
      | ok z h2 =>
        intro ρ2 H2 iv l2 t2 d2
        have l12 := l1.trans l2
        refine getSub_ok ρ2 h2 H2 y z ov iv E ms _ t2 (d1.le l2) d2 (Tr.wp_mono (Tr.wp_be q2) fun r q3 => ?_)
        cases r with
        | ex u h3 => exact exP.le l12 q3
        | ok u h3 =>
          intro ρ3 H3 xv l3 t3 d3
          have l13 := l12.trans l3
          refine ⟨ρ3, ms, h3, t3, s2.le l13, Tr.wp_mono (Tr.wp_be q3) fun r q4 => ?_⟩
          cases r with
          | ex u2 h4 => exact exP.le l13 q4
          | ok u2 h4 =>
            intro ρ4 H4 yv l4 t4 d4
            have l14 := l13.trans l4
            refine hr ρ4 h4 H4 u u2 xv yv E ms _ t4 (d3.le l4) d4 (Tr.wp_mono (Tr.wp_be q4) fun r q5 => ?_)
            cases r with
            | ex u3 h5 => exact exP.le l14 q5
            | ok u3 h5 =>
              intro ρ5 H5 zv l5 t5 d5
              have l15 := l14.trans l5
              have l35 := l3.trans (l4.trans l5)
              dsimp only at q5
              cases e5 : stSub y z u3 h5 with
              | none => rw [e5] at q5; exact q5.elim
              | some h6 =>
                rw [e5] at q5
                exact stSub_ok t5 e5 (d1.le (l2.trans l35)) (d2.le l35) d5 fun H6 l6 t6 => q5 ρ5 H6 σ (l15.trans l6) t6 (s2.le (l15.trans l6))⟩
end
end
end WK
set_option Elab.async false
set_option linter.all false
set_option maxRecDepth 100000
/-! methods of lists, texts, dicts; {} and len of dicts -/
namespace WK
noncomputable section
open PySem PySem.Spec PyProof.Rows L2
/-! ### the rule -/
def tyB (P : Program) (w : World) (K : PySem.W.Frag) (T : String) (x : V) (H : Hp) : Prop := tyV K T x H ∨ (T = "dict" ∧ ∃ a ps, x = .ref a ∧ H a = some (dictH P w a ps))
section
variable {X : Cx}
theorem tyB_is {pins : List (Addr × Obj)} {σ : L2.St} {H : Hp} {s : Shared} {T : String} {x : V} {v : Value} (I : Inv X pins σ H s) (r : RelV x v) (ty : tyB X.prog X.w X.K T x H) : s.TypeIs v T ∧ ∀ a, v = .ref a → ∃ ob, s.heap.get? a = some ob ∧ ob.dict = none := by
  rcases ty with ty | ⟨rfl, a, ps, rfl, e⟩
  · exact tyV_is I r ty
  · obtain rfl : v = Value.ref a := r
    obtain ⟨⟨xs, _, o, es, ep, h1, h2, _⟩, _, _⟩ := (show ObjOk X.prog X.w H s.heap a (dictH X.prog X.w a ps) from I.hok a _ e)
    exact ⟨⟨o, h1, h2.1⟩, fun b z => by cases z; exact ⟨o, h1, h2.2.1⟩⟩
def tBM0B (P : Program) (w : World) (K : PySem.W.Frag) (T : String) (r : V → List V → Hp → VK → Prop) (to : TE) : TE := fun σ H Q => to σ H fun x H1 => tyB P w K T x H1 ∧ r x [] H1 Q
def tBMB (P : Program) (w : World) (K : PySem.W.Frag) (T : String) (r : V → List V → Hp → VK → Prop) (to : TE) (t : TA) : TE := fun σ H Q => to σ H fun x H1 => tyB P w K T x H1 ∧ t σ H1 fun xs H2 => r x xs H2 Q
variable {o e : Expr} {es : List Expr} {to : TE} {t : TA} {name : Str} {apos cpos : Pos} {T id : String} {r : V → List V → Hp → VK → Prop}
theorem pe_bm0B (pa : PlainAttrs T) (slot : Slot T name id) (hty : typeOf (.builtin id) = pure (.type "method_descriptor")) (hm : MtR X id r) (ho : PE X o to)
    (hbase : attributeBase o name X.env (eval o X.env) = eval o X.env) (hline : (apos.endLine == cpos.line) = true) : PE X (.Call (.Attribute o name apos) [] [] cpos) (tBM0B X.prog X.w X.K T r to) := by
  refine ⟨fun pins s σ H Q I h => ?_⟩
  refine wpAny_Call_method0_late hbase hline (thn (ho.run pins s σ H _ I h) fun v s1 ⟨x, H1, I1, r1, ty, q1⟩ => ?_)
  obtain ⟨h1, h2⟩ := tyB_is I1 r1 ty
  exact ⟨T, id, pa, slot, hty, h1, h2, Calls.callWith_builtin rfl (PySem.evalArgs_none (hm pins s1 σ H1 x [] v [] Q I1 r1 .nil q1))⟩
theorem pe_bmB (pa : PlainAttrs T) (slot : Slot T name id) (hty : typeOf (.builtin id) = pure (.type "method_descriptor")) (hm : MtR X id r) (ho : PE X o to) (ha : PA X (e :: es) t)
    (hbase : attributeBase o name X.env (eval o X.env) = eval o X.env)
    (hfew : ((backTo cpos (starEach (e :: es) X.env)).all (fun x => !x.1) && (backToKw cpos (keywordEach [] X.env)).all (fun x => x.1.isSome)
      && decide ((e :: es).length + ([] : List Keyword).length + (if ([] : List Keyword).isEmpty then 0 else 1) < 30)) = true)
    (hline : (apos.endLine == cpos.line) = true) (hs : starEach (e :: es) X.env = (false, eval e X.env) :: starEach es X.env) (hplain : (backTo cpos (starEach es X.env)).any (·.1) = false) :
    PE X (.Call (.Attribute o name apos) (e :: es) [] cpos) (tBMB X.prog X.w X.K T r to t) := by
  refine ⟨fun pins s σ H Q I h => ?_⟩
  refine wpAny_Call_method_late hbase hfew hline rfl (thn (ho.run pins s σ H _ I h) fun v s1 ⟨x, H1, I1, r1, ty, q1⟩ => ?_)
  obtain ⟨h1, h2⟩ := tyB_is I1 r1 ty
  refine ⟨T, id, pa, slot, hty, h1, h2, ?_⟩
  have hA := ha.run cpos pins s1 σ H1 _ I1 q1
  rw [hs] at hA ⊢
  refine Calls.callWith_builtin (by show (false || (backTo cpos (starEach es X.env)).any (·.1)) = false; rw [hplain] <;> rfl) (Calls.evalArgs_plain ?_)
  exact thn hA fun us s2 ⟨vs, H2, I2, r2, q2⟩ => hm pins s2 σ H2 x vs v us Q I2 r1 r2 q2
end
section
variable {T : Tb} {X : Cx} {E : XW}
inductive BT where
  | list | str | dict | tuple
def BT.nm : BT → String
  | .list => "list" | .str => "str" | .dict => "dict" | .tuple => "tuple"
def isBT (t : BT) (x : MV) (h : MH) : Bool := match t with
  | .list => isS (asL h x)
  | .str => match x with
    | .str _ => true
    | _ => false
  | .dict => isS (asD h x)
  | .tuple => false
theorem isBT_ok {K : PySem.W.Frag} {ρ : Rho} {h : MH} {H : Hp} {t : BT} {x : MV} {v : V} (s : SimH T K ρ h H) (c : isBT t x h = true) (d : Den T K ρ (Mu ρ h) H x v) : tyB T.P T.w K t.nm v H := by
  cases t with
  | list =>
    have c : isS (asL h x) = true := c
    cases e : asL h x with
    | none => rw [e] at c; cases c
    | some xs =>
      obtain ⟨a, vs, rfl, r, _⟩ := den_asL s e d
      exact .inl (.inl ⟨rfl, vs, SqL.of r⟩)
  | str =>
    cases x with
    | str z => cases d; exact .inl rfl
    | _ => cases c
  | dict =>
    have c : isS (asD h x) = true := c
    cases e : asD h x with
    | none => rw [e] at c; cases c
    | some p =>
      obtain ⟨k, kvs⟩ := p
      obtain ⟨a, rfl, da⟩ := den_asD s e d
      cases k with
      | true => obtain ⟨ps, r, _⟩ := da; exact .inl (.inr (.inr (.inl ⟨rfl, .inl ⟨ps, r⟩⟩)))
      | false => obtain ⟨ps, r, _⟩ := da; exact .inr ⟨rfl, a, ps, rfl, r⟩
  | tuple => cases c
def MtS (T : Tb) (X : Cx) (r : V → List V → Hp → VK → Prop) (k : MV → List MV → MH → Tr ER) : Prop := ∀ ρ h H x v ys vs m E Q, SimH T X.K ρ h H → Den T X.K ρ (Mu ρ h) H x v → DenL T X.K ρ (Mu ρ h) H ys vs → (k x ys h).wp (postE T X.K E m ρ h H Q) → r v vs H Q
def runBm (t : BT) (f : RunE) (g : RunL) (k : MV → List MV → MH → Tr ER) : RunE := fun ms h => (f ms h).be (fun x h1 => ifT (isBT t x h1) (Tr.bl (g ms h1) (fun ys h2 => k x ys h2) exE)) exE
def runBm0 (t : BT) (f : RunE) (k : MV → List MV → MH → Tr ER) : RunE := fun ms h => (f ms h).be (fun x h1 => ifT (isBT t x h1) (k x [] h1)) exE
theorem s_bm {t : BT} {o e : Expr} {es : List Expr} {name : Str} {id : String} {apos cpos : Pos} {f : RunE} {g : RunL} {r : V → List V → Hp → VK → Prop} {k : MV → List MV → MH → Tr ER} (hP : X.prog = T.P) (hw : X.w = T.w) (pa : PlainAttrs t.nm) (slot : Slot t.nm name id) (hty : typeOf (.builtin id) = pure (.type "method_descriptor")) (hm : MtR X id r) (hk : MtS T X r k) (ho : SE T X E o f) (ha : SA T X E (e :: es) g)
    (hbase : attributeBase o name X.env (eval o X.env) = eval o X.env)
    (hfew : ((backTo cpos (starEach (e :: es) X.env)).all (fun x => !x.1) && (backToKw cpos (keywordEach [] X.env)).all (fun x => x.1.isSome)
      && decide ((e :: es).length + ([] : List Keyword).length + (if ([] : List Keyword).isEmpty then 0 else 1) < 30)) = true)
    (hline : (apos.endLine == cpos.line) = true) : SE T X E (.Call (.Attribute o name apos) (e :: es) [] cpos) (runBm t f g k) :=
  have hns : notStar e = true ∧ es.all notStar = true := Bool.and_eq_true_iff.mp ha.ns
  .ofV (peI (pe_bmB pa slot hty hm ho.v ha.a hbase hfew hline (star_cons hns.1) (by rw [backTo_any]; exact star_all hns.2)) fun σ H Q ⟨ρ, ms, h, s1, s2, w⟩ => ⟨ρ, ms, h, s1, s2, Tr.wp_mono (Tr.wp_be w) fun q w1 => by
    cases q with
    | ex x h1 => exact w1
    | ok x h1 =>
      intro ρ1 H1 v l1 t1 d1
      obtain ⟨c, w1⟩ := ifT_wp w1
      refine ⟨by rw [hP, hw]; exact isBT_ok t1 c d1, ρ1, ms, h1, t1, s2.le l1, Tr.wp_mono (Tr.wp_bl w1) fun q w2 => ?_⟩
      cases q with
      | ex y h2 => exact exP.le l1 w2
      | ok ys h2 => exact fun ρ2 H2 vs l2 t2 d2 => hk ρ2 h2 H2 x v ys vs ms E Q t2 (d1.le l2) d2 (Tr.wp_mono w2 (postE.le (l1.trans l2)))⟩) fun _ => rfl
theorem s_bm0 {t : BT} {o : Expr} {name : Str} {id : String} {apos cpos : Pos} {f : RunE} {r : V → List V → Hp → VK → Prop} {k : MV → List MV → MH → Tr ER} (hP : X.prog = T.P) (hw : X.w = T.w) (pa : PlainAttrs t.nm) (slot : Slot t.nm name id) (hty : typeOf (.builtin id) = pure (.type "method_descriptor")) (hm : MtR X id r) (hk : MtS T X r k) (ho : SE T X E o f)
    (hbase : attributeBase o name X.env (eval o X.env) = eval o X.env) (hline : (apos.endLine == cpos.line) = true) : SE T X E (.Call (.Attribute o name apos) [] [] cpos) (runBm0 t f k) :=
  .ofV (peI (pe_bm0B pa slot hty hm ho.v hbase hline) fun σ H Q ⟨ρ, ms, h, s1, s2, w⟩ => ⟨ρ, ms, h, s1, s2, Tr.wp_mono (Tr.wp_be w) fun q w1 => by
    cases q with
    | ex x h1 => exact w1
    | ok x h1 =>
      intro ρ1 H1 v l1 t1 d1
      obtain ⟨c, w1⟩ := ifT_wp w1
      exact ⟨by rw [hP, hw]; exact isBT_ok t1 c d1, hk ρ1 h1 H1 x v [] [] ms E Q t1 d1 .nil (Tr.wp_mono w1 (postE.le l1))⟩⟩) fun _ => rfl
/-! ### lists -/
theorem put_lst {K : PySem.W.Frag} {ρ : Rho} {m : MS} {h : MH} {H : Hp} {l : Nat} {a : Addr} {xs ys : List MV} {vs : List V} {Q : VK} (s : SimH T K ρ h H) (e : h.get l = some (.lst xs)) (r : ρ.at_ l = some a) (d : DenL T K ρ (Mu ρ h) H ys vs) {v : MV} {u : V} (dv : Den T K ρ (Mu ρ h) H v u) (w : (okE v (h.put l (.lst ys))).wp (postE T K E m ρ h H Q)) : Q u (upd H a (.lst vs)) :=
  have L := s.le_put (v := .lst vs) (o := .lst ys) e r
  w ρ _ u L (s.put e r ⟨vs, upd_same, d.le L⟩) (dv.le L)
def kAppend : MV → List MV → MH → Tr ER := fun x ys h => match x, ys with
  | .ref l, [y] => match h.get l with
    | some (.lst xs) => ifT (Nat.ble (lenN xs + 1) sizeLine) (okE .non (h.put l (.lst (xs ++ [y]))))
    | _ => .bad
  | _, _ => .bad
theorem kAppend_ok : MtS T X rAppend kAppend := fun ρ h H x v ys vs m E Q s dx dy w => by
  unfold kAppend at w
  split at w
  · split at w
    · rename_i xs eg
      obtain ⟨c, w⟩ := ifT_wp w
      have c := Nat.le_of_ble_eq_true c
      rw [lenN_eq] at c
      cases dx with
      | ref r =>
        obtain ⟨a, r', us, ea, dl⟩ := s.ob _ _ eg
        have e9 := Option.some.inj (r'.symm.trans r)
        subst e9
        cases dy with
        | cons d1 d2 =>
          cases d2
          have := dl.length
          exact ⟨a, us, _, rfl, rfl, ea, by omega, put_lst s eg r (dl.app (.cons d1 .nil)) .non w⟩
    · exact w.elim
  · exact w.elim
def kExtend : MV → List MV → MH → Tr ER := fun x ys h => match x, ys with
  | .ref l, [y] => match h.get l with
    | some (.lst xs) => match asL h y with
      | some zs => ifT (Nat.ble (lenN xs + lenN zs) sizeLine) (okE .non (h.put l (.lst (xs ++ zs))))
      | none => .bad
    | _ => .bad
  | _, _ => .bad
theorem kExtend_ok : MtS T X rExtend kExtend := fun ρ h H x v ys vs m E Q s dx dy w => by
  unfold kExtend at w
  split at w
  · split at w
    · rename_i xs eg
      split at w
      · rename_i zs ez
        obtain ⟨c, w⟩ := ifT_wp w
        have c := Nat.le_of_ble_eq_true c
        rw [lenN_eq, lenN_eq] at c
        cases dx with
        | ref r =>
          obtain ⟨a, r', us, ea, dl⟩ := s.ob _ _ eg
          have e9 := Option.some.inj (r'.symm.trans r)
          subst e9
          cases dy with
          | cons d1 d2 =>
            cases d2
            obtain ⟨b, us2, rfl, eb, dl2⟩ := den_asL s ez d1
            have h1 := dl.length
            have h2 := dl2.length
            exact ⟨a, b, us, us2, rfl, rfl, ea, eb, by omega, put_lst s eg r (dl.app dl2) .non w⟩
      · exact w.elim
    · exact w.elim
  · exact w.elim
def popL (xs : List MV) : Option (List MV × MV) := match xs.reverse with
  | y :: r => some (r.reverse, y)
  | [] => none
theorem popL_ok {xs ys : List MV} {y : MV} (h : popL xs = some (ys, y)) : ys = xs.dropLast ∧ xs[xs.length - 1]? = some y := by
  unfold popL at h
  split at h
  · rename_i y' r e
    cases h
    have e2 : xs = r.reverse ++ [y] := by rw [← List.reverse_reverse xs, e, List.reverse_cons]
    rw [e2]
    exact ⟨by simp, by simp⟩
  · cases h
theorem DenL.dropLast {K : PySem.W.Frag} {ρ : Rho} {M : Addr → Prop} {H : Hp} : ∀ {xs : List MV} {vs : List V}, DenL T K ρ M H xs vs → DenL T K ρ M H xs.dropLast vs.dropLast
  | _, _, .nil => .nil
  | _, _, .cons d .nil => .nil
  | _, _, .cons d (.cons d1 t) => .cons d (DenL.dropLast (.cons d1 t))
def kPop : MV → List MV → MH → Tr ER := fun x ys h => match x, ys with
  | .ref l, [] => match h.get l with
    | some (.lst xs) => match popL xs with
      | some (zs, y) => okE y (h.put l (.lst zs))
      | none => .bad
    | _ => .bad
  | _, _ => .bad
theorem kPop_ok : MtS T X rPop kPop := fun ρ h H x v ys vs m E Q s dx dy w => by
  unfold kPop at w
  split at w
  · split at w
    · rename_i xs eg
      split at w
      · rename_i zs y ep
        obtain ⟨rfl, e2⟩ := popL_ok ep
        cases dx with
        | ref r =>
          obtain ⟨a, r', us, ea, dl⟩ := s.ob _ _ eg
          have e9 := Option.some.inj (r'.symm.trans r)
          subst e9
          cases dy
          obtain ⟨u, e3, d3⟩ := dl.nthE e2
          rw [dl.length] at e3
          exact ⟨a, us, u, rfl, rfl, ea, e3, put_lst s eg r dl.dropLast d3 w⟩
      · exact w.elim
    · exact w.elim
  · exact w.elim
/-! ### {} -/
def kDnew (k : Bool) : RunE := fun _ h => okE (.ref h.nxt) (h.new (.dct k []))
theorem s_dnewK {pos : Pos} : SE T X E (.Dict [] [] pos) (kDnew true) := .ofV (peI pe_dnewK fun σ H Q ⟨ρ, m, h, s1, s2, w⟩ p n => w _ _ _ (s1.le_lab n) (s1.lab n ⟨[], upd_same, .nil⟩) (.ref rhoN_at)) fun _ => rfl
theorem s_dnewN {pos : Pos} (hP : X.prog = T.P) (hw : X.w = T.w) : SE T X E (.Dict [] [] pos) (kDnew false) := .ofV (peI pe_newN fun σ H Q ⟨ρ, m, h, s1, s2, w⟩ p n y => by
  rw [hP, hw]
  exact w _ _ _ (s1.le_lab n) (s1.lab n ⟨[], upd_same, y, .nil⟩) (.ref rhoN_at)) fun _ => rfl
end
end
end WK
set_option Elab.async false
set_option linter.all false
set_option maxRecDepth 100000
/-! exceptions: their __init__, raise -/
namespace WK
noncomputable section
open PySem PySem.Spec PyProof.Rows L2
/-- what __init__ leaves: one field and the word -/
def spI1 (C : Addr) (fn wd : Str) : Sp := fun vs H Q _ => ∃ a v, vs = [.ref a, v] ∧ H a = some (exo a C none) ∧ ∀ d, H d = none → d ≠ a → Q .non (upd (upd (upd H d (exd d [(fn, v)])) a (exo a C (some d))) d (exd d [("word", .str wd), (fn, v)]))
def spI0 (C : Addr) (wd : Str) : Sp := fun vs H Q _ => ∃ a, vs = [.ref a] ∧ H a = some (exo a C none) ∧ ∀ d, H d = none → d ≠ a → Q .non (upd (upd H d (exd d [("word", .str wd)])) a (exo a C (some d)))
section
variable {P : Program} {w : World} {K : PySem.W.Frag} {mg : Str → Option Value} {base : Heap} {x qual : Str} {params : Arguments} {body : List Stmt} {scope : Scope} {fI C BA : Addr} {fd : FuncData} {B pn fn wd z : Str} {mc : Value} {k k1 k2 : Nat} {p1 p2 p3 p4 p5 p6 p7 p8 p9 p10 p11 p12 p13 p14 : Pos}
/-- B.__init__(self, 'X') is called plainly -/
def VeCall (e : Expr) (B : Str) (p1 p2 : Pos) (args : List Expr) (p5 : Pos) : Prop := ∀ env : Env, ∃ pl : Sem Bool, eval e env = (do
      let ov ← eval (.Name B p1) env
      standAt p2.atName
      let (f, first) ← holding [ov] (getMethod ov "__init__" pl)
      callWith p5 f first (backTo p5 (starEach args env)) (backToKw p5 (keywordEach [] env)))
theorem init1_ok (F : FunD K x qual params body scope [] [] fI fd) (S : FnScope ["self", pn] ["self", pn] scope)
    (hb : body = [.Expr (.Call (.Attribute (.Name B p1) "__init__" p2) [.Name "self" p3, .Constant (.str z) k1 p4] [] p5) p6, .Assign [.Attribute (.Name "self" p7) fn p8] (.Name pn p9) p10, .Assign [.Attribute (.Name "self" p11) "word" p12] (.Constant (.str wd) k2 p13) p14])
    (hc : VeCall (.Call (.Attribute (.Name B p1) "__init__" p2) [.Name "self" p3, .Constant (.str z) k1 p4] [] p5) B p1 p2 [.Name "self" p3, .Constant (.str z) k1 p4] p5)
    (sw0 : ∀ env : Env, swapsWith (.Call (.Attribute (.Name B p1) "__init__" p2) [.Name "self" p3, .Constant (.str z) k1 p4] [] p5) none p6.line env = pure false)
    (sw1 : ∀ env : Env, swapsWith (.Name pn p9) (some (.Attribute (.Name "self" p7) fn p8)) p10.line env = pure false)
    (sw2 : ∀ env : Env, swapsWith (.Constant (.str wd) k2 p13) (some (.Attribute (.Name "self" p11) "word" p12)) p14.line env = pure false)
    (l0 : scope.names.lookup ("self" : Str) = some .local) (l1 : scope.names.lookup pn = some .local) (gl : scope.names.lookup B = some .globalImplicit) (hB : mg B = some (.ref BA)) (V : VeC K BA mc) (T : OexC K C)
    (n1 : PySem.W.findIn K (.ref C) fn = some none) (n2 : PySem.W.findIn K (.ref C) "word" = some none) (hx : (B == ("__debug__" : Str)) = false) (hp : (pn == ("__debug__" : Str)) = false) (hp2 : (pn == ("__classdict__" : Str)) = false) :
    FnOk P w K mg base (L2.CX P w) (k + 1) fI fd ["self", pn] (spI1 C fn wd) := by
  subst hb
  refine F.ok S (fun vs H Q E h => ?_) fun cdv A outer s H vs Q EK hr h => ⟨tSeq (tDrop (tVeI K (tCons (tVar 0) (tCons (tC (.str z)) tNil)))) (tSeq (tOst K fn (tVar 0) (tVar 1)) (tOst K "word" (tVar 0) (tC (.str wd)))), ?_, ?_⟩
  · obtain ⟨a, v, rfl, _⟩ := h; rfl
  · have he : ∀ X : Cx, starEach [.Name "self" p3, .Constant (.str z) k1 p4] X.env = (false, eval (.Name "self" p3) X.env) :: starEach [.Constant (.str z) k1 p4] X.env := fun X => star_cons rfl
    obtain ⟨pl, hc⟩ := hc (cxOf (L2.CX P w) P w K mg base ["self", pn] qual scope fI cdv A outer s H EK).env
    exact pss_cons (ps_expr (pe_cveinit gl hB hx V (pa_cons (pe_var rfl (.inl l0) (by decide) (by decide)) (pa_cons pe_str pa_nil (star_cons rfl)) (star_cons rfl)) hc (star_cons rfl) (by rw [backTo_any]; exact star_all rfl)) (sw0 _)) (pss_cons (ps_ost (pe_var rfl (.inl l0) (by decide) (by decide)) (pe_var rfl (.inl l1) hp hp2) (sw1 _)) (pss_one (ps_ost (pe_var rfl (.inl l0) (by decide) (by decide)) pe_str (sw2 _))))
  · obtain ⟨a, v, rfl, ea, q⟩ := h
    refine ⟨.ref a, rfl, a, C, [.str z], rfl, by show 1 ≤ 1000; omega, T, ea, ?_⟩
    refine ⟨v, rfl, .ref a, rfl, a, C, rfl, T, n1, .inl ⟨ea, fun d nd ne => ?_⟩⟩
    refine ⟨.ref a, rfl, a, C, rfl, T, n2, .inr ⟨d, [(fn, v)], upd_same, ?_, by show 1 ≤ 900; omega, q d nd ne⟩⟩
    rw [upd_ne ne]; exact upd_same
theorem init0_ok (F : FunD K x qual params body scope [] [] fI fd) (S : FnScope ["self"] ["self"] scope)
    (hb : body = [.Expr (.Call (.Attribute (.Name B p1) "__init__" p2) [.Name "self" p3, .Constant (.str z) k1 p4] [] p5) p6, .Assign [.Attribute (.Name "self" p11) "word" p12] (.Constant (.str wd) k2 p13) p14])
    (hc : VeCall (.Call (.Attribute (.Name B p1) "__init__" p2) [.Name "self" p3, .Constant (.str z) k1 p4] [] p5) B p1 p2 [.Name "self" p3, .Constant (.str z) k1 p4] p5)
    (sw0 : ∀ env : Env, swapsWith (.Call (.Attribute (.Name B p1) "__init__" p2) [.Name "self" p3, .Constant (.str z) k1 p4] [] p5) none p6.line env = pure false)
    (sw2 : ∀ env : Env, swapsWith (.Constant (.str wd) k2 p13) (some (.Attribute (.Name "self" p11) "word" p12)) p14.line env = pure false)
    (l0 : scope.names.lookup ("self" : Str) = some .local) (gl : scope.names.lookup B = some .globalImplicit) (hB : mg B = some (.ref BA)) (V : VeC K BA mc) (T : OexC K C)
    (n2 : PySem.W.findIn K (.ref C) "word" = some none) (hx : (B == ("__debug__" : Str)) = false) :
    FnOk P w K mg base (L2.CX P w) (k + 1) fI fd ["self"] (spI0 C wd) := by
  subst hb
  refine F.ok S (fun vs H Q E h => ?_) fun cdv A outer s H vs Q EK hr h => ⟨tSeq (tDrop (tVeI K (tCons (tVar 0) (tCons (tC (.str z)) tNil)))) (tOst K "word" (tVar 0) (tC (.str wd))), ?_, ?_⟩
  · obtain ⟨a, rfl, _⟩ := h; rfl
  · obtain ⟨pl, hc⟩ := hc (cxOf (L2.CX P w) P w K mg base ["self"] qual scope fI cdv A outer s H EK).env
    exact pss_cons (ps_expr (pe_cveinit gl hB hx V (pa_cons (pe_var rfl (.inl l0) (by decide) (by decide)) (pa_cons pe_str pa_nil (star_cons rfl)) (star_cons rfl)) hc (star_cons rfl) (by rw [backTo_any]; exact star_all rfl)) (sw0 _)) (pss_one (ps_ost (pe_var rfl (.inl l0) (by decide) (by decide)) pe_str (sw2 _)))
  · obtain ⟨a, rfl, ea, q⟩ := h
    refine ⟨.ref a, rfl, a, C, [.str z], rfl, by show 1 ≤ 1000; omega, T, ea, ?_⟩
    exact ⟨.ref a, rfl, a, C, rfl, T, n2, .inl ⟨ea, fun d nd ne => q d nd ne⟩⟩
end
end
end WK
set_option Elab.async false
set_option linter.all false
set_option maxRecDepth 100000
/-! what no run reaches; raise -/
namespace WK
noncomputable section
open PySem PySem.Spec PyProof.Rows L2
section
variable {T : Tb} {X : Cx} {E : XW}
/-! ### what no run reaches needs no rule -/
def badE : RunE := fun _ _ => .bad
def badS : RunS := fun _ _ => .bad
def badL : RunL := fun _ _ => .bad
def badG : RunG := fun _ _ _ => .bad
theorem z_e (e : Expr) : SE T X E e badE := ⟨⟨fun pins s σ H Q I ⟨ρ, m, h, s1, s2, w⟩ => w.elim⟩, ⟨fun pins s σ H Q I ⟨ρ, m, h, s1, s2, w⟩ => w.elim⟩⟩
theorem z_s (st : Stmt) : SS T X E st badS := ⟨fun pins s σ H D I ⟨ρ, m, h, s1, s2, w⟩ => w.elim⟩
theorem z_ss (st : List Stmt) : SSs T X E st badS := ⟨fun pins s σ H D I ⟨ρ, m, h, s1, s2, w⟩ => w.elim⟩
theorem z_g (e : Expr) : SG T X E e badG := ⟨fun pins s σ H v u Q I r ⟨ρ, m, h, x, s1, s2, d, w⟩ => w.elim⟩
/-! ### raise C(e) -/
def runRaise1 (c f fw : Nat) (wd : Str) (g : RunE) : RunS := fun m h => (g m h).be (fun x h1 => exS m (.exc c [(fw, .str wd), (f, x)]) h1) (exS m)
theorem s_raise1 {c d f fw : Nat} {fI : Addr} {fd : FuncData} {ps : List Str} {fn wd x : Str} {e : Expr} {p pos pos2 : Pos} {g : RunE} (hc : X.calm = true) (tk : Takes X (wx T X.K E)) (O : OexC X.K (cAd T X.K c))
    (iC : PySem.W.findIn X.K (.ref (cAd T X.K c)) "__init__" = some (some (.ref fI))) (tI : PySem.W.typeIn X.K (.ref fI) = some (.type "function"))
    (F1 : FnOk X.prog X.w X.K X.mg X.base (L2.CX X.prog X.w) d fI fd ps (spI1 (cAd T X.K c) fn wd)) (hr : Room (d + 1) X.A) (hb : Binds X.K fd ps []) (hx : Passes (L2.CX X.prog X.w) X (fun _ _ _ => False)) (hg : Gl X x) (hm : X.mg x = some (.ref (cAd T X.K c)))
    (he : SE T X E e g) (hf : f < T.nm.length) (hfw : fw < T.nm.length) (nf : nmS T f = fn) (nw : nmS T fw = "word") (hdb : (x == ("__debug__" : Str)) = false) (hn : notStar e = true) :
    SS T X E (.Raise (some (.Call (.Name x p) [e] [] pos)) none pos2) (runRaise1 c f fw wd g) := by
  have pm := pmk_oex (p := p) (pos := pos) (dvs := []) O iC tI F1 hr hb .nil hx hg hm (pa_cons he.v pa_nil (star_cons hn)) hdb (star_cons hn) (by rw [backTo_any]; rfl)
  refine psI (ps_raise hc tk pm) fun D σ H ⟨ρ, m, h, s1, s2, w⟩ => ?_
  refine ⟨ρ, m, h, s1, s2, Tr.wp_mono (Tr.wp_be w) fun r q => ?_⟩
  cases r with
  | ex y h1 => exact q
  | ok y h1 =>
    intro ρ1 H1 v l s dv
    refine ⟨by show 1 ≤ 1000; omega, fun a na => ⟨a, v, rfl, upd_same, fun da nd ne => ⟨rfl, da, [("word", .str wd), (fn, v)], ?_, upd_same, ?_, ?_⟩⟩⟩
    · rw [upd_ne (Ne.symm ne)]; exact upd_same
    · rw [upd_ne ne] at nd; exact nd
    · have ee : upd (del (upd (upd (upd (upd H1 a (exo a (cAd T X.K c) none)) da (exd da [(fn, v)])) a (exo a (cAd T X.K c) (some da))) da (exd da [("word", .str wd), (fn, v)])) a) da (.xd [("word", .str wd), (fn, v)]) = upd H1 da (.xd [("word", .str wd), (fn, v)]) := by
        funext b
        by_cases b1 : b = da
        · subst b1; rw [upd_same, upd_same]
        · rw [upd_ne b1, upd_ne b1]
          by_cases b2 : b = a
          · subst b2; rw [del_same, na]
          · rw [del_ne b2, upd_ne b1, upd_ne b2, upd_ne b1, upd_ne b2]
      have nd' : H1 da = none := by rw [upd_ne ne] at nd; exact nd
      rw [ee]
      have l2 : Le ρ1 h1 H1 ρ1 h1 (upd H1 da (.xd [("word", .str wd), (fn, v)])) := Le.neu nd'
      have s3 := s.neu (o := .xd [("word", .str wd), (fn, v)]) nd'
      refine ⟨ρ1, m, h1, _, s3, s2.le (l.trans l2), ⟨c, _, da, _, rfl, rfl, rfl, fun mu => ?_, upd_same, ?_⟩, q ρ1 _ (l.trans l2) s3⟩
      · rcases mu with mu | mu
        · obtain ⟨o, eo⟩ := s.am _ mu
          rw [nd'] at eo; cases eo
        · obtain ⟨o, eo⟩ := s.atO mu
          rw [nd'] at eo; cases eo
      · have z : DenF T X.K ρ1 (Mu ρ1 h1) (upd H1 da (.xd [("word", .str wd), (fn, v)])) [(fw, .str wd), (f, y)] [(nmS T fw, .str wd), (nmS T f, v)] := .cons hfw (.str _) (.cons hf (dv.le l2) .nil)
        rw [nf, nw] at z
        exact z
end
end
end WK
set_option Elab.async false
set_option linter.all false
set_option maxRecDepth 100000
set_option maxHeartbeats 4000000
/-! own exceptions over any builtin base: stores, __init__, making -/
namespace WK
noncomputable section
open PySem PySem.Spec PyProof.Rows L2
/-- own classes, then l -/
inductive Ch (l : List Value) : List Value → Prop where
  | nil : Ch l l
  | cons {c : Addr} {r : List Value} : Ch l r → Ch l (.ref c :: r)
theorem Ch.has {l m : List Value} {X : String} (c : Ch l m) : m.contains (.type X) = l.contains (.type X) := by
  induction c with
  | nil => rfl
  | cons _ ih => rw [List.contains_cons, ih]; rfl
theorem Ch.pass {l m : List Value} {self : Value} (h : refuseLoop self "__setattr__" l = pure ()) (c : Ch l m) : refuseLoop self "__setattr__" m = pure () := by
  induction c with
  | nil => exact h
  | cons _ ih => rw [refuseLoop_ref]; exact ih
theorem Ch.ne {l m : List Value} (h : l.isEmpty = false) (c : Ch l m) : m.isEmpty = false := by
  cases c with
  | nil => exact h
  | cons _ => rfl
/-- a builtin base -/
structure BsF (B nw ini : String) (l : List Value) : Prop where
  f : ExcBaseFacts B nw ini l
  pass : ∀ self, refuseLoop self "__setattr__" l = pure ()
  ob : l.contains (.type "object") = true
  ne : l.isEmpty = false
abbrev tVE : List Value := [.type "ValueError", .type "Exception", .type "BaseException", .type "object"]
abbrev tLE : List Value := [.type "LookupError", .type "Exception", .type "BaseException", .type "object"]
theorem bs_VE : BsF "ValueError" "ValueError.__new__" "ValueError.__init__" tVE := ⟨PySem.F.excBase_ValueError, PySem.F.store_ValueError.passes, by decide +kernel, rfl⟩
theorem bs_LE : BsF "LookupError" "LookupError.__new__" "LookupError.__init__" tLE := ⟨PySem.F.excBase_LookupError, PySem.F.store_LookupError.passes, by decide +kernel, rfl⟩
/-- what the text says of an own class -/
structure OxC (K : PySem.W.Frag) (nw : String) (l : List Value) (C : Addr) : Prop where
  cls : ∃ nm q N bs bm sn sub ab col dd k0 k1 k2 k3 k5, K.lookup C = some (excClassObj nm q C N bs bm true sn sub ab col dd k0 k1 k2 k3 k5 nw) ∧ Ch l bm
  sa : PySem.W.findIn K (.ref C) "__setattr__" = some (some (.builtin "object.__setattr__"))
  exC : PySem.W.subIn K (.ref C) (.type "BaseException") = some true
  tyC : PySem.W.typeIn K (.ref C) = some (.type "type")
  kC : PySem.W.keepIn K (.ref C) = true
section
open Builtin Builtin.ObjectAttr PySem.W PySem.Calls
variable {prog : Program} {w : World} {A : Around} {R : Result → Shared → Prop} {hp : Heap} {g : Array GenState} {d : Drawn} {t : Nat} {os : OsState} {B nw ini : String} {l : List Value}
/-- the walk to an instance's own dict -/
theorem to_dict {K : W.Frag} {name : Str} {tk : Tok} {v : Value} {x C : Addr} {ox : Obj} {od : Option Obj} {cd : ClassData} (Bf : BsF B nw ini l) (X : K.In hp) (J : W.InstAt hp x ox C od) (hcd : W.clsIn K C = some cd) (hm : Ch l cd.mro) (ha : W.findIn K (.ref C) name = some none)
    (hq : wpAny (model prog w) A.in1 (storeInOwnDict (.ref x) (.ref C) (.str name tk) name v false)
      (fun fin s' => match fin with | .done f => R (.ok f) s' | .again c' => c'.quiet = true ∧ codeAny (model prog w) A c' R s') (fun e s' => R (.error e) s') ⟨hp, g, d, t, os⟩) :
    codeAny (model prog w) A (.call (.builtin "object.__setattr__") ⟨[.ref x, .str name tk, v], []⟩) R ⟨hp, g, d, t, os⟩ := by
  have S := PySem.F.store_object
  have so : W.mroIn K C (.type "object") = some true := by
    unfold W.mroIn
    rw [hcd, Option.bind_some, if_neg (by rw [hm.ne Bf.ne]; decide), hm.has, Bf.ob]
  have isO : W.Looks (model prog w) hp (isInstance (.ref x) (.type "object")) true := J.type.andThen (W.looks_mroIn X so)
  refine codeAny_call_builtin S.slot.plain S.entry (@W.check_slot (model prog w) _ _ ⟨hp, g, d, t, os⟩ "object.__setattr__" "object" "__setattr__" (.ref x) [.str name tk, v] [] _ S.kind S.split isO (S.args (.ref x) (.str name tk) v) ?_)
  have lm : W.Looks (model prog w) hp (mroOf (.ref C)) cd.mro := (W.looks_clsIn X hcd).andThen .now
  have l3 : W.Looks (model prog w) hp (storeTaker? none) none := .now
  rw [W.osa_eq, refuse_eq]
  refine wpAny_bind (wpAny_bind (J.type.at (wpAny_bind (lm.at ?_))))
  rw [hm.pass (Bf.pass _)]
  exact wpAny_pure (wpAny_bind (J.type.at (wpAny_bind ((W.looks_findIn X ha).at (wpAny_bind (l3.at hq))))))
/-- the first field -/
theorem put_first {K : W.Frag} {name : Str} {tk : Tok} {v : Value} {x C : Addr} {fv : Array Value} {cd : ClassData} (Bf : BsF B nw ini l) (X : K.In hp) (hx : hp.get? x = some { cls := .ref C, data := .fields fv }) (hcd : W.clsIn K C = some cd) (hm : Ch l cd.mro) (hh : cd.hasDict = true) (ha : W.findIn K (.ref C) name = some none)
    (hq : ∀ h' tk' dx, (∀ b o, b ≠ x → hp.get? b = some o → h'.get? b = some o) → hp.objs.size ≤ dx → dx ≠ x → h'.get? x = some { cls := .ref C, dict := some dx, data := .fields fv } → h'.Ns1 dx (fun y => if y = name then some v else none) → R (.ok (.ret .none)) ⟨h', g, d, tk', os⟩) :
    codeAny (model prog w) A (.call (.builtin "object.__setattr__") ⟨[.ref x, .str name tk, v], []⟩) R ⟨hp, g, d, t, os⟩ := by
  have J : W.InstAt hp x { cls := .ref C, data := .fields fv } C none := ⟨hx, rfl, rfl, trivial⟩
  have ns : x ≠ hp.objs.size := Nat.ne_of_lt (Heap.lt_size hx)
  refine to_dict Bf X J hcd hm ha ?_
  have lc : W.Looks (model prog w) hp (classData C) cd := W.looks_clsIn X hcd
  obtain ⟨c1, c2, c3, c4, c5, hd, c7, c8, c9, c10, c11⟩ := cd
  obtain rfl : hd = true := hh
  unfold storeInOwnDict ownDictForStores
  repeat (first | with_reducible refine HandSPX.store_in_new ?_ ?_ | with_reducible refine wpAny_loadPart_at hx ?_ | with_reducible refine lc.at ?_ | wp_step)
  · exact ⟨_, #[], _, (Heap.get?_update_ne _ _ _ _ ns.symm).trans (Heap.get?_push_at rfl rfl), rfl, fun e q => absurd q (by simp), fun _ => rfl⟩
  · intro h' tk' n' same
    have hp1 : (hp.push { cls := .type "dict", data := .dict #[] }).get? x = some { cls := .ref C, data := .fields fv } := Heap.get?_push_of_some _ hx
    exact hq h' tk' hp.objs.size (fun b o nb e => (same.2 b (Nat.ne_of_lt (Heap.lt_size e))).trans ((Heap.get?_update_ne _ _ _ _ nb).trans (Heap.get?_push_of_some _ e))) (Nat.le_refl _) ns.symm ((same.2 x ns).trans (Heap.get?_update_self _ hp1 rfl)) n'
/-- a further field -/
theorem put_more {K : W.Frag} {name : Str} {tk : Tok} {v : Value} {x C dx : Addr} {fv : Array Value} {cd : ClassData} {m0 : Str → Option Value} {nl : List Str} (Bf : BsF B nw ini l) (X : K.In hp) (hx : hp.get? x = some { cls := .ref C, dict := some dx, data := .fields fv }) (hns : hp.Ns1 dx m0) (hw : Within m0 nl) (hz : nl.length ≤ 1000)
    (hcd : W.clsIn K C = some cd) (hm : Ch l cd.mro) (hh : cd.hasDict = true) (ha : W.findIn K (.ref C) name = some none) (hq : ∀ h' tk', (∀ b o, b ≠ dx → hp.get? b = some o → h'.get? b = some o) → h'.Ns1 dx (fun y => if y = name then some v else m0 y) → R (.ok (.ret .none)) ⟨h', g, d, tk', os⟩) :
    codeAny (model prog w) A (.call (.builtin "object.__setattr__") ⟨[.ref x, .str name tk, v], []⟩) R ⟨hp, g, d, t, os⟩ := by
  obtain ⟨od, _, _, eo, _, _⟩ := hns.count hw
  have J : W.InstAt hp x { cls := .ref C, dict := some dx, data := .fields fv } C (some od) := ⟨hx, rfl, rfl, eo⟩
  refine to_dict Bf X J hcd hm ha ?_
  have lc : W.Looks (model prog w) hp (classData C) cd := W.looks_clsIn X hcd
  obtain ⟨c1, c2, c3, c4, c5, hd, c7, c8, c9, c10, c11⟩ := cd
  obtain rfl : hd = true := hh
  unfold storeInOwnDict ownDictForStores
  repeat (first | with_reducible refine OEX.store_in_old hns hw hz ?_ | with_reducible refine wpAny_loadPart_at hx ?_ | with_reducible refine lc.at ?_ | wp_step)
  exact fun h' tk' n' same => hq h' tk' (fun b o nb e => (same.2 b nb).trans e) n'
end
/-! ### in the layer -/
section
variable {X : Cx} {pins : List (Addr × Obj)} {σ : L2.St} {H : Hp} {s : Shared} {a C dx : Addr} {f : Str} {y : V} {u : Value} {fs : List (Str × V)} {Q : Unit → Shared → Prop} {E : Value → Shared → Prop} {A : Around} {B nw ini : String} {l : List Value}
theorem OxC.cd {K : PySem.W.Frag} (T : OxC K nw l C) : ∃ cd : ClassData, PySem.W.clsIn K C = some cd ∧ Ch l cd.mro ∧ cd.hasDict = true := by
  obtain ⟨nm, q, N, bs, bm, sn, sub, ab, col, dd, k0, k1, k2, k3, k5, hC, hb⟩ := T.cls
  exact ⟨{ name := nm, bases := bs, mro := .ref C :: bm, ns := N, qualname := q, hasDict := true, slotNames := sn, subclasses := sub, abstract := ab, collection := col, hasDel := false }, by unfold PySem.W.clsIn; rw [hC] <;> rfl, .cons hb, rfl⟩
theorem xst_new (Bf : BsF B nw ini l) (T : OxC X.K nw l C) (I : Inv X pins σ H s) (e : H a = some (exo a C none)) (hno : PySem.W.findIn X.K (.ref C) f = some none) (ry : RelV y u)
    (h : ∀ dx s', H dx = none → dx ≠ a → Inv X pins σ (upd (upd H dx (exd dx [(f, y)])) a (exo a C (some dx))) s' → Q () s') : wpAny (model X.prog X.w) A (setAttr (.ref a) f u) Q E s := by
  obtain ⟨cd, hcl, hm, hh⟩ := T.cd
  obtain ⟨t1, ho⟩ := exo_at I.hok e
  obtain ⟨hp, g, d, t, os⟩ := s
  refine PySem.W.set_plain I.kIn (ox := { cls := .ref C, dict := none, data := .fields #[.ref t1, .none, .none, .none, .bool false, .none] }) (od := none) ⟨ho, rfl, rfl, trivial⟩ T.sa ?_
  refine put_first Bf I.kIn ho hcl hm hh hno fun h' tk' dx k dn dne hx hn => ?_
  have fd : H dx = none := I.hok.fresh dn
  have nd : ∀ {b : Addr} {o : Obj}, hp.get? b = some o → b ≠ dx := fun {b o} q => Nat.ne_of_lt (Nat.lt_of_lt_of_le (Heap.lt_size q) dn)
  have na : ∀ {b : Addr}, H b = none → b ≠ a := fun {b} n z => by rw [z, e] at n; cases n
  have U : Un X.fs [] H (upd (upd H dx (exd dx [(f, y)])) a (exo a C (some dx))) hp h' := {
    keep := fun b o q n _ _ => k b o (na n) q
    slot := fun b o q n _ _ => ⟨o.slots, k b o (na n) q⟩
    free := fun b o q n _ => by rw [upd_ne (na n), upd_ne (nd q)]; exact n
    there := fun b o q _ => by
      by_cases hb : b = a
      · subst hb; exact ⟨_, hx⟩
      · exact ⟨o, k b o hb q⟩
    tups := fun b xs q => by rw [upd_ne (at_ne e q exo_tup), upd_ne (ne_of_none q fd)]; exact q
    frzs := fun b o v q => by rw [upd_ne (at_ne e q exo_frz), upd_ne (ne_of_none q fd)]; exact q
    tbls := fun b ps q => ⟨#[], by rw [upd_ne (at_ne e q exo_tbl), upd_ne (ne_of_none q fd), q]; simp⟩ }
  refine h dx _ fd dne (I.un (t' := tk') U fun b o q => ?_)
  by_cases hb : b = a
  · subst hb; rw [upd_same] at q; cases q; exact exo_ok hx
  · rw [upd_ne hb] at q
    by_cases hd : b = dx
    · subst hd; rw [upd_same] at q; cases q; exact exd_ok hn (relO_put (fs := []) ry fun g => True.intro)
    · rw [upd_ne hd] at q
      exact (I.hok b o q).stay (fun c v hc z => k c v (hc.elim (fun z => by rw [z]; exact hb) fun z => at_ne e z exo_own) z)
        (fun c hc => by rw [upd_ne (at_ne e hc exo_own), upd_ne (ne_of_none hc fd)]; exact hc) fun c xs hc => by rw [upd_ne (at_ne e hc exo_tup), upd_ne (ne_of_none hc fd)]; exact hc
theorem xst_old (Bf : BsF B nw ini l) (T : OxC X.K nw l C) (I : Inv X pins σ H s) (e : H a = some (exo a C (some dx))) (ed : H dx = some (exd dx fs)) (hl : fs.length ≤ 900) (hno : PySem.W.findIn X.K (.ref C) f = some none) (ry : RelV y u)
    (h : ∀ s', Inv X pins σ (upd H dx (exd dx ((f, y) :: fs))) s' → Q () s') : wpAny (model X.prog X.w) A (setAttr (.ref a) f u) Q E s := by
  obtain ⟨cd, hcl, hm, hh⟩ := T.cd
  obtain ⟨t1, ho⟩ := exo_at I.hok e
  obtain ⟨mA, hns, rel⟩ := exd_at I.hok ed
  have hw := within_of rel
  obtain ⟨hp, g, d, t, os⟩ := s
  obtain ⟨od, _, _, eo, _, _⟩ := hns.count hw
  refine PySem.W.set_plain I.kIn (ox := { cls := .ref C, dict := some dx, data := .fields #[.ref t1, .none, .none, .none, .bool false, .none] }) (od := some od) ⟨ho, rfl, rfl, eo⟩ T.sa ?_
  refine put_more Bf I.kIn ho hns hw (by rw [List.length_map]; omega) hcl hm hh hno fun h' tk' k hn => ?_
  have there : ∃ o, h'.get? dx = some o := let ⟨o, _, _, q, _⟩ := hn; ⟨o, q⟩
  exact h _ (I.write (t' := tk') (x := dx) (e := dx) (o := exd dx ((f, y) :: fs)) (by rw [ed]; exact True.intro) (.inl rfl) k there (exd_ok hn (relO_put ry rel)))
theorem xinit {us : List Value} {Q : Value → Shared → Prop} (Bf : BsF B nw ini l) (T : OxC X.K nw l C) (I : Inv X pins σ H s) (e : H a = some (exo a C none)) (hl : us.length ≤ sizeLine) (h : ∀ s', Inv X pins σ H s' → Q .none s') :
    wpAny (model X.prog X.w) A (call (.builtin ini) (.ref a :: us)) Q E s := by
  obtain ⟨nm, q, N, bs, bm, sn, sub, ab, col, dd, k0, k1, k2, k3, k5, hC, hb⟩ := T.cls
  obtain ⟨t1, ho⟩ := exo_at I.hok e
  obtain ⟨hp, g, d, t, os⟩ := s
  refine wpAny_call (PySem.HandSPX.init_base Bf.f (fun Y => hb.has) (I.kIn _ _ hC) ho hl fun h' t2 k hx => ?_)
  have J := I.write (t' := t) (x := a) (e := a) (o := exo a C none) (by rw [e]; exact True.intro) (.inl rfl) k ⟨_, hx⟩ (exo_ok hx)
  have eu : upd H a (exo a C none) = H := funext fun b => if hb : b = a then by rw [hb, upd_same, e] else by rw [upd_ne hb]
  rw [eu] at J
  exact h _ J
end
end
end WK
set_option Elab.async false
set_option linter.all false
set_option maxRecDepth 100000
set_option maxHeartbeats 4000000
/-! own exceptions over any builtin base: rules -/
namespace WK
noncomputable section
open PySem PySem.Spec PyProof.Rows L2
/-- D.__init__ is the base's -/
structure CiC (K : PySem.W.Frag) (ini : String) (D : Addr) (mc : Value) : Prop where
  rd : ClX.CRead K D mc
  at_ : PySem.W.findCls K (.ref D) mc "__init__" = some (.val (.builtin ini))
  hi : PySem.W.handedIn (.builtin ini) = true
/-- the base's __init__(self, ..) -/
def tXi (K : PySem.W.Frag) (nw : String) (l : List Value) (ta : TA) : TE := fun σ H Q => ta σ H fun vs H1 => ∃ (a C : Addr) (ws : List V), vs = .ref a :: ws ∧ ws.length ≤ 1000 ∧ OxC K nw l C ∧ H1 a = some (exo a C none) ∧ Q .non H1
/-- self.f = e -/
def tXs (K : PySem.W.Frag) (nw : String) (l : List Value) (f : Str) (to te : TE) : TS := fun D σ H => te σ H fun y H1 => to σ H1 fun x H2 => ∃ a C : Addr, x = .ref a ∧ OxC K nw l C ∧ PySem.W.findIn K (.ref C) f = some none ∧
  ((H2 a = some (exo a C none) ∧ ∀ dx, H2 dx = none → dx ≠ a → D.nx σ (upd (upd H2 dx (exd dx [(f, y)])) a (exo a C (some dx)))) ∨
    ∃ (dx : Addr) (fs : List (Str × V)), H2 a = some (exo a C (some dx)) ∧ H2 dx = some (exd dx fs) ∧ fs.length ≤ 900 ∧ D.nx σ (upd H2 dx (exd dx ((f, y) :: fs))))
section
variable {X : Cx} {o e : Expr} {es : List Expr} {to te : TE} {ta : TA} {f : Str} {p p' p1 p2 pos : Pos} {B nw ini : String} {l : List Value}
theorem pe_xi {pl : Sem Bool} {D : Addr} {mc : Value} {x : Str} (Bf : BsF B nw ini l) (hg : Gl X x) (hm : X.mg x = some (.ref D)) (hx : (x == ("__debug__" : Str)) = false) (V : CiC X.K ini D mc) (ha : PA X (e :: es) ta)
    (hc : eval (.Call (.Attribute (.Name x p1) "__init__" p2) (e :: es) [] pos) X.env = (do
      let ov ← eval (.Name x p1) X.env
      standAt p2.atName
      let (f, first) ← holding [ov] (getMethod ov "__init__" pl)
      callWith pos f first (backTo pos (starEach (e :: es) X.env)) (backToKw pos (keywordEach [] X.env))))
    (he : starEach (e :: es) X.env = (false, eval e X.env) :: starEach es X.env) (hpl : (backTo pos (starEach es X.env)).any (·.1) = false) :
    PE X (.Call (.Attribute (.Name x p1) "__init__" p2) (e :: es) [] pos) (tXi X.K nw l ta) := by
  refine ⟨fun pins s σ H Q I h => ?_⟩
  refine PySem.W.methodCall_KW (ld_glob I hg hm ?_ hx) hc
  refine PySem.W.method_cls I.kIn V.rd.ga (PySem.W.cls_value I.kIn V.rd.rd V.at_ V.hi ?_)
  show wpAny _ _ (callWith pos (Value.builtin ini) [] (backTo pos (starEach (e :: es) X.env)) []) _ _ _
  refine PyProof.Rows.callWith_method1 (thn (ha.run pos pins _ σ H _ (I.tok _) h) fun us s1 ⟨vs, H1, I1, r1, a, C, ws, ev, hl, T, ea, q⟩ => ?_) he hpl
  subst ev
  cases r1 with
  | @cons _ u0 _ ur ra rw' =>
    obtain rfl : u0 = Value.ref a := ra
    have hlen : ur.length ≤ sizeLine := by
      rw [← Paired.length rw', sizeLine_eq]
      omega
    exact xinit Bf T I1 ea hlen fun s' J => ⟨.non, H1, J, rfl, q⟩
theorem ps_xs (Bf : BsF B nw ini l) (ho : PE X o to) (he : PE X e te) (hs : swapsWith e (some (.Attribute o f p')) pos.line X.env = pure false) : PS X (.Assign [.Attribute o f p'] e pos) (tXs X.K nw l f to te) := by
  refine ⟨fun pins s σ H D I h => ?_⟩
  refine plainObj_wpAny_Assign_Attribute (thn (he.run pins s σ H _ I h) fun v s1 ⟨y, H1, I1, r1, q1⟩ => thn (ho.run pins s1 σ H1 _ I1 q1) fun u s2 ⟨x, H2, I2, r2, a, C, ex, T, hno, q⟩ => ?_) hs
  subst ex
  obtain rfl : u = Value.ref a := r2
  rcases q with ⟨ea, q⟩ | ⟨dx, fs, ea, ed, hl, q⟩
  · exact xst_new Bf T I2 ea hno r1 fun dx s' n ne J => ⟨σ, _, J, q dx n ne⟩
  · exact xst_old Bf T I2 ea ed hl hno r1 fun s' J => ⟨σ, _, J, q⟩
end
/-! ### the two forms of __init__ -/
section
variable {P : Program} {w : World} {K : PySem.W.Frag} {mg : Str → Option Value} {base : Heap} {x qual : Str} {params : Arguments} {body : List Stmt} {scope : Scope} {fI C DA : Addr} {fd : FuncData} {D pn fn wd z : Str} {mc : Value} {k k1 k2 : Nat} {p1 p2 p3 p4 p5 p6 p7 p8 p9 p10 p11 p12 p13 p14 : Pos} {B nw ini : String} {l : List Value}
theorem initA_ok (Bf : BsF B nw ini l) (F : FunD K x qual params body scope [] [] fI fd) (S : FnScope ["self", pn] ["self", pn] scope)
    (hb : body = [.Expr (.Call (.Attribute (.Name D p1) "__init__" p2) [.Name "self" p3, .Constant (.str z) k1 p4] [] p5) p6, .Assign [.Attribute (.Name "self" p7) fn p8] (.Name pn p9) p10, .Assign [.Attribute (.Name "self" p11) "word" p12] (.Constant (.str wd) k2 p13) p14])
    (hc : VeCall (.Call (.Attribute (.Name D p1) "__init__" p2) [.Name "self" p3, .Constant (.str z) k1 p4] [] p5) D p1 p2 [.Name "self" p3, .Constant (.str z) k1 p4] p5)
    (sw0 : ∀ env : Env, swapsWith (.Call (.Attribute (.Name D p1) "__init__" p2) [.Name "self" p3, .Constant (.str z) k1 p4] [] p5) none p6.line env = pure false)
    (sw1 : ∀ env : Env, swapsWith (.Name pn p9) (some (.Attribute (.Name "self" p7) fn p8)) p10.line env = pure false)
    (sw2 : ∀ env : Env, swapsWith (.Constant (.str wd) k2 p13) (some (.Attribute (.Name "self" p11) "word" p12)) p14.line env = pure false)
    (l0 : scope.names.lookup ("self" : Str) = some .local) (l1 : scope.names.lookup pn = some .local) (gl : scope.names.lookup D = some .globalImplicit) (hD : mg D = some (.ref DA)) (V : CiC K ini DA mc) (T : OxC K nw l C)
    (n1 : PySem.W.findIn K (.ref C) fn = some none) (n2 : PySem.W.findIn K (.ref C) "word" = some none) (hx : (D == ("__debug__" : Str)) = false) (hp : (pn == ("__debug__" : Str)) = false) (hp2 : (pn == ("__classdict__" : Str)) = false) :
    FnOk P w K mg base (L2.CX P w) (k + 1) fI fd ["self", pn] (spI1 C fn wd) := by
  subst hb
  refine F.ok S (fun vs H Q E h => ?_) fun cdv A outer s H vs Q EK hr h => ⟨tSeq (tDrop (tXi K nw l (tCons (tVar 0) (tCons (tC (.str z)) tNil)))) (tSeq (tXs K nw l fn (tVar 0) (tVar 1)) (tXs K nw l "word" (tVar 0) (tC (.str wd)))), ?_, ?_⟩
  · obtain ⟨a, v, rfl, _⟩ := h; rfl
  · obtain ⟨pl, hc⟩ := hc (cxOf (L2.CX P w) P w K mg base ["self", pn] qual scope fI cdv A outer s H EK).env
    exact pss_cons (ps_expr (pe_xi Bf gl hD hx V (pa_cons (pe_var rfl (.inl l0) (by decide) (by decide)) (pa_cons pe_str pa_nil (star_cons rfl)) (star_cons rfl)) hc (star_cons rfl) (by rw [backTo_any]; exact star_all rfl)) (sw0 _)) (pss_cons (ps_xs Bf (pe_var rfl (.inl l0) (by decide) (by decide)) (pe_var rfl (.inl l1) hp hp2) (sw1 _)) (pss_one (ps_xs Bf (pe_var rfl (.inl l0) (by decide) (by decide)) pe_str (sw2 _))))
  · obtain ⟨a, v, rfl, ea, q⟩ := h
    refine ⟨.ref a, rfl, a, C, [.str z], rfl, by show 1 ≤ 1000; omega, T, ea, ?_⟩
    refine ⟨v, rfl, .ref a, rfl, a, C, rfl, T, n1, .inl ⟨ea, fun d nd ne => ?_⟩⟩
    refine ⟨.ref a, rfl, a, C, rfl, T, n2, .inr ⟨d, [(fn, v)], upd_same, ?_, by show 1 ≤ 900; omega, q d nd ne⟩⟩
    rw [upd_ne ne]; exact upd_same
theorem initB_ok (Bf : BsF B nw ini l) (F : FunD K x qual params body scope [] [] fI fd) (S : FnScope ["self"] ["self"] scope)
    (hb : body = [.Expr (.Call (.Attribute (.Name D p1) "__init__" p2) [.Name "self" p3, .Constant (.str z) k1 p4] [] p5) p6, .Assign [.Attribute (.Name "self" p11) "word" p12] (.Constant (.str wd) k2 p13) p14])
    (hc : VeCall (.Call (.Attribute (.Name D p1) "__init__" p2) [.Name "self" p3, .Constant (.str z) k1 p4] [] p5) D p1 p2 [.Name "self" p3, .Constant (.str z) k1 p4] p5)
    (sw0 : ∀ env : Env, swapsWith (.Call (.Attribute (.Name D p1) "__init__" p2) [.Name "self" p3, .Constant (.str z) k1 p4] [] p5) none p6.line env = pure false)
    (sw2 : ∀ env : Env, swapsWith (.Constant (.str wd) k2 p13) (some (.Attribute (.Name "self" p11) "word" p12)) p14.line env = pure false)
    (l0 : scope.names.lookup ("self" : Str) = some .local) (gl : scope.names.lookup D = some .globalImplicit) (hD : mg D = some (.ref DA)) (V : CiC K ini DA mc) (T : OxC K nw l C)
    (n2 : PySem.W.findIn K (.ref C) "word" = some none) (hx : (D == ("__debug__" : Str)) = false) :
    FnOk P w K mg base (L2.CX P w) (k + 1) fI fd ["self"] (spI0 C wd) := by
  subst hb
  refine F.ok S (fun vs H Q E h => ?_) fun cdv A outer s H vs Q EK hr h => ⟨tSeq (tDrop (tXi K nw l (tCons (tVar 0) (tCons (tC (.str z)) tNil)))) (tXs K nw l "word" (tVar 0) (tC (.str wd))), ?_, ?_⟩
  · obtain ⟨a, rfl, _⟩ := h; rfl
  · obtain ⟨pl, hc⟩ := hc (cxOf (L2.CX P w) P w K mg base ["self"] qual scope fI cdv A outer s H EK).env
    exact pss_cons (ps_expr (pe_xi Bf gl hD hx V (pa_cons (pe_var rfl (.inl l0) (by decide) (by decide)) (pa_cons pe_str pa_nil (star_cons rfl)) (star_cons rfl)) hc (star_cons rfl) (by rw [backTo_any]; exact star_all rfl)) (sw0 _)) (pss_one (ps_xs Bf (pe_var rfl (.inl l0) (by decide) (by decide)) pe_str (sw2 _)))
  · obtain ⟨a, rfl, ea, q⟩ := h
    refine ⟨.ref a, rfl, a, C, [.str z], rfl, by show 1 ≤ 1000; omega, T, ea, ?_⟩
    exact ⟨.ref a, rfl, a, C, rfl, T, n2, .inl ⟨ea, fun d nd ne => q d nd ne⟩⟩
end
end
end WK
set_option Elab.async false
set_option linter.all false
set_option maxRecDepth 100000
set_option maxHeartbeats 4000000
/-! own exceptions as values: made, their fields, isinstance -/
namespace WK
noncomputable section
open PySem PySem.Spec PyProof.Rows L2
/-- C(..), C's own __init__ keeping sp: the exception is held -/
def tMkX (C : Addr) (sp : Sp) (ta : TA) : TE := fun σ H Q => ta σ H fun vs H1 => vs.length ≤ 1000 ∧ ∀ a, H1 a = none → sp (.ref a :: vs) (upd H1 a (exo a C none)) (fun v H2 => v = .non ∧ Q (.ref a) H2) (fun _ _ _ => False)
section
variable {X : Cx} {e : Expr} {es : List Expr} {ta : TA} {p pos : Pos} {B nw ini : String} {l : List Value} {x : Str} {C fI : Addr} {k : Nat} {fd : FuncData} {ps : List Str} {sp : Sp}
theorem mkx_run {pins : List (Addr × Obj)} {σ : L2.St} {H1 : Hp} {s1 : Shared} {Q : VK} {us : List Value} {vs : List V} (Bf : BsF B nw ini l) (T : OxC X.K nw l C) (iC : PySem.W.findIn X.K (.ref C) "__init__" = some (some (.ref fI))) (tI : PySem.W.typeIn X.K (.ref fI) = some (.type "function"))
    (F1 : FnOk X.prog X.w X.K X.mg X.base (L2.CX X.prog X.w) k fI fd ps sp) (hr : Room (k + 1) X.A) (hb : Binds X.K fd ps []) (hx : Passes (L2.CX X.prog X.w) X (fun _ _ _ => False)) (I1 : Inv X pins σ H1 s1) (r1 : Vals vs us) (hz : vs.length ≤ 1000)
    (q1 : ∀ a, H1 a = none → sp (.ref a :: vs) (upd H1 a (exo a C none)) (fun v H2 => v = .non ∧ Q (.ref a) H2) (fun _ _ _ => False)) : wpAny (model X.prog X.w) X.A (call (.ref C) us) (EP X pins σ Q) X.xe s1 := by
  obtain ⟨nm, q, N, bs, bm, sn, sub, ab, col, dd, k0, k1, k2, k3, k5, hC, hch⟩ := T.cls
  obtain ⟨hp, g, dr, tk, os⟩ := s1
  have sz : hp.objs.size ≤ hp.objs.size + 1 := Nat.le_succ _
  have hn : H1 (hp.objs.size + 1) = none := I1.hok.fresh sz
  have hq := q1 (hp.objs.size + 1) hn
  have kk : ∀ b o, hp.get? b = some o → ((hp.push (PySem.W.kdv_tup us)).push (PySem.HandSPX.excO C hp.objs.size)).get? b = some o := fun b o e => Heap.get?_push_of_some _ (Heap.get?_push_of_some _ e)
  have there : ((hp.push (PySem.W.kdv_tup us)).push (PySem.HandSPX.excO C hp.objs.size)).get? (hp.objs.size + 1) = some (PySem.HandSPX.excO C hp.objs.size) := by heap_get
  have I2 : Inv X pins σ (upd H1 (hp.objs.size + 1) (exo (hp.objs.size + 1) C none)) ⟨(hp.push (PySem.W.kdv_tup us)).push (PySem.HandSPX.excO C hp.objs.size), g, dr, tk, os⟩ :=
    I1.laid (t' := tk) (a := hp.objs.size + 1) (o := exo (hp.objs.size + 1) C none) (h' := (hp.push (PySem.W.kdv_tup us)).push (PySem.HandSPX.excO C hp.objs.size)) kk sz (exo_ok there)
  have r2 : Vals (V.ref (hp.objs.size + 1) :: vs) (Value.ref (hp.objs.size + 1) :: us) := .cons rfl r1
  have hl : (Value.ref (hp.objs.size + 1) :: us).length = ps.length := by
    have z := r2.length
    rw [F1.len _ _ _ _ hq] at z
    exact z.symm
  have hus : us.length ≤ sizeLine := by
    rw [← Paired.length r1, sizeLine_eq]; omega
  refine wpAny_call (PySem.HandSPX.call_own Bf.f (fun Y => hch.has) (I1.kIn _ _ hC) (PySem.W.looks_findIn I1.kIn iC) (fun self => PySem.W.bind_fn I1.kIn self tI) hus
    (codeAny_mono (F1.run _ X.stack _ _ ⟨Value.ref (hp.objs.size + 1) :: us, []⟩ (Value.ref (hp.objs.size + 1) :: us) _ _ (fun _ _ _ => False) (hr.make C us []) (I2.env0.make C us []) (by have z := hb _ (Value.ref (hp.objs.size + 1) :: us) I2.kIn (by rw [List.append_nil]; exact hl); rw [List.append_nil] at z; exact z) r2 hq) fun r s' hq' => ?_))
  cases r with
  | error er => exact hx pins σ _ _ er s' I2 hq'
  | ok fl =>
    cases fl with
    | ret u =>
      obtain ⟨v, H2, I3, rv, ev, q2⟩ := I2.after hq'
      subst ev
      exact ⟨rv, .ref (hp.objs.size + 1), H2, I3, rfl, q2⟩
    | next => exact False.elim hq'
    | brk => exact False.elim hq'
    | cont => exact False.elim hq'
theorem pe_mkx (Bf : BsF B nw ini l) (T : OxC X.K nw l C) (iC : PySem.W.findIn X.K (.ref C) "__init__" = some (some (.ref fI))) (tI : PySem.W.typeIn X.K (.ref fI) = some (.type "function"))
    (F1 : FnOk X.prog X.w X.K X.mg X.base (L2.CX X.prog X.w) k fI fd ps sp) (hr : Room (k + 1) X.A) (hb : Binds X.K fd ps []) (hx : Passes (L2.CX X.prog X.w) X (fun _ _ _ => False)) (hg : Gl X x) (hm : X.mg x = some (.ref C)) (ha : PA X (e :: es) ta)
    (hdb : (x == ("__debug__" : Str)) = false) (he : starEach (e :: es) X.env = (false, eval e X.env) :: starEach es X.env) (hpl : (backTo pos (starEach es X.env)).any (·.1) = false) :
    PE X (.Call (.Name x p) (e :: es) [] pos) (tMkX C sp ta) := by
  refine ⟨fun pins s σ H Q I h => ?_⟩
  refine wpAny_Call_Name_kw (ld_glob I hg hm ?_ hdb)
  refine PySem.W.callWith_K (h₀ := X.base) I.ok.mod.kin T.kC (thn (ha.run pos pins s σ H _ I h) fun us s1 ⟨vs, H1, I1, r1, hz, q1⟩ => ⟨I1.kIn, ?_⟩) he hpl
  exact mkx_run Bf T iC tI F1 hr hb hx I1 r1 hz q1
theorem pe_mkx0 (Bf : BsF B nw ini l) (T : OxC X.K nw l C) (iC : PySem.W.findIn X.K (.ref C) "__init__" = some (some (.ref fI))) (tI : PySem.W.typeIn X.K (.ref fI) = some (.type "function"))
    (F1 : FnOk X.prog X.w X.K X.mg X.base (L2.CX X.prog X.w) k fI fd ps sp) (hr : Room (k + 1) X.A) (hb : Binds X.K fd ps []) (hx : Passes (L2.CX X.prog X.w) X (fun _ _ _ => False)) (hg : Gl X x) (hm : X.mg x = some (.ref C))
    (hdb : (x == ("__debug__" : Str)) = false) : PE X (.Call (.Name x p) [] [] pos) (tMkX C sp tNil) := by
  refine ⟨fun pins s σ H Q I h => ?_⟩
  refine wpAny_Call_Name_kw (ld_glob I hg hm ?_ hdb)
  obtain ⟨hz, q1⟩ := h
  exact PySem.W.callWith_K0 I.kIn T.kC (mkx_run (us := []) Bf T iC tI F1 hr hb hx I .nil hz q1)
end
/-! ### a field -/
/-- e.f, e an own exception that is held -/
def tXg (K : PySem.W.Frag) (f : Str) (te : TE) : TE := fun σ H Q => te σ H fun x H1 => ∃ (a C d : Addr) (fs : List (Str × V)) (v : V), x = .ref a ∧ H1 a = some (exo a C (some d)) ∧ H1 d = some (exd d fs) ∧ XfC K C ∧ PySem.W.findIn K (.ref C) f = some none ∧ fs.lookup f = some v ∧ Q v H1
theorem pe_xg {X : Cx} {e : Expr} {te : TE} {pos : Pos} {n : Str} (he : PE X e te) (hb : attributeBase e n X.env (eval e X.env) = eval e X.env) : PE X (.Attribute e n pos) (tXg X.K n te) := by
  refine ⟨fun pins s σ H Q I h => ?_⟩
  refine attr_of hb (thn (he.run pins s σ H _ I h) fun u s1 ⟨x, H1, I1, rx, a, C, d, fs, v, ex, ea, ed, T, hno, lf, q⟩ => ?_)
  subst ex
  obtain rfl : u = Value.ref a := rx
  obtain ⟨t1, ho⟩ := exo_at I1.hok ea
  obtain ⟨mA, hns, hr⟩ := exd_at I1.hok ed
  obtain ⟨od, hod, hl⟩ := lookIn_ns hns
  obtain ⟨u, hu, ru⟩ := RelO.some_of (v := v) (o := mA n) (by rw [← lf]; exact hr n)
  have J : PySem.W.InstAt s1.heap a _ C (some od) := ⟨ho, rfl, rfl, hod⟩
  exact HandSPX.exc_get I1.kIn J T.ga T.gg T.exC (PySem.W.findObj_own T.hdC hno rfl (by rw [hl, hu])) (handed_of ru) ⟨v, H1, I1.tok _, ru, q⟩
end
end WK
set_option Elab.async false
set_option linter.all false
set_option maxRecDepth 100000
/-! own exceptions as values: runs -/
namespace WK
noncomputable section
open PySem PySem.Spec PyProof.Rows L2
section
variable {T : Tb} {X : Cx} {E : XW}
/-! ### C(e), C() -/
theorem le_exc {K : PySem.W.Frag} {ρ : Rho} {h : MH} {H : Hp} {a d : Addr} {u w : HO} (s : SimH T K ρ h H) (na : H a = none) (nd : H d = none) (ne : d ≠ a) : Le ρ h H ρ h (upd (upd H d w) a u) ∧ SimH T K ρ h (upd (upd H d w) a u) ∧ ¬ Mu ρ h a ∧ ¬ Mu ρ h d := by
  have n1 : upd H d w a = none := by rw [upd_ne (Ne.symm ne)]; exact na
  have nm : ∀ b, H b = none → ¬ Mu ρ h b := fun b n mu => by
    rcases mu with mu | mu
    · obtain ⟨o, eo⟩ := s.am b mu
      rw [n] at eo; cases eo
    · obtain ⟨o, eo⟩ := s.atO mu
      rw [n] at eo; cases eo
  have l1 : Le ρ h H ρ h (upd H d w) := Le.neu nd
  have s1 := s.neu (o := w) nd
  exact ⟨l1.trans (Le.neu n1), s1.neu n1, nm a na, nm d nd⟩
def mkX (c f fw : Nat) (wd : Str) (x : MV) (h : MH) : Tr ER := okE (.exc c [(fw, .str wd), (f, x)]) h
def mkX0 (c fw : Nat) (wd : Str) : RunE := fun _ h => okE (.exc c [(fw, .str wd)]) h
structure MkX (T : Tb) (X : Cx) (B nw ini : String) (l : List Value) (d c fw : Nat) (fI : Addr) : Prop where
  bf : BsF B nw ini l
  ox : OxC X.K nw l (cAd T X.K c)
  iC : PySem.W.findIn X.K (.ref (cAd T X.K c)) "__init__" = some (some (.ref fI))
  tI : PySem.W.typeIn X.K (.ref fI) = some (.type "function")
  hw : fw < T.nm.length
  nw : nmS T fw = "word"
theorem exc_heap {H1 : Hp} {a da C : Addr} {f1 fs : List (Str × V)} (ne : da ≠ a) : upd (upd (upd (upd H1 a (exo a C none)) da (exd da f1)) a (exo a C (some da))) da (exd da fs) = upd (upd H1 da (exd da fs)) a (exo a C (some da)) := by
  funext b
  by_cases b1 : b = da
  · subst b1; rw [upd_same, upd_ne ne, upd_same]
  · rw [upd_ne b1]
    by_cases b2 : b = a
    · subst b2; rw [upd_same, upd_same]
    · rw [upd_ne b2, upd_ne b1, upd_ne b2, upd_ne b2, upd_ne b1]
theorem exc_heap0 {H1 : Hp} {a da C : Addr} {fs : List (Str × V)} (ne : da ≠ a) : upd (upd (upd H1 a (exo a C none)) da (exd da fs)) a (exo a C (some da)) = upd (upd H1 da (exd da fs)) a (exo a C (some da)) := by
  funext b
  by_cases b2 : b = a
  · subst b2; rw [upd_same, upd_same]
  · rw [upd_ne b2, upd_ne b2]
    by_cases b1 : b = da
    · subst b1; rw [upd_same, upd_same]
    · rw [upd_ne b1, upd_ne b2, upd_ne b1]
theorem s_mkX {B nw ini : String} {l : List Value} {c d f fw : Nat} {fI : Addr} {fd : FuncData} {ps : List Str} {fn wd x : Str} {e : Expr} {p pos : Pos} {g : RunE} (M : MkX T X B nw ini l d c fw fI)
    (F1 : FnOk X.prog X.w X.K X.mg X.base (L2.CX X.prog X.w) d fI fd ps (spI1 (cAd T X.K c) fn wd)) (hr : Room (d + 1) X.A) (hb : Binds X.K fd ps []) (hx : Passes (L2.CX X.prog X.w) X (fun _ _ _ => False)) (hg : Gl X x) (hm : X.mg x = some (.ref (cAd T X.K c)))
    (he : SE T X E e g) (hf : f < T.nm.length) (nf : nmS T f = fn) (hdb : (x == ("__debug__" : Str)) = false) (hn : notStar e = true) : SE T X E (.Call (.Name x p) [e] [] pos) (run1 g (mkX c f fw wd)) := by
  refine .ofV (peI (pe_mkx M.bf M.ox M.iC M.tI F1 hr hb hx hg hm (pa_cons he.v pa_nil (star_cons hn)) hdb (star_cons hn) (by rw [backTo_any]; rfl)) (t_run1 fun ρ h H y v m E' Q s dv w => ?_)) fun _ => rfl
  refine ⟨by show 1 ≤ 1000; omega, fun a na => ⟨a, v, rfl, upd_same, fun da nd ne => ⟨rfl, ?_⟩⟩⟩
  rw [upd_ne ne] at nd
  rw [exc_heap ne]
  obtain ⟨L, S, m1, m2⟩ := le_exc (u := exo a (cAd T X.K c) (some da)) (w := exd da [("word", .str wd), (fn, v)]) s na nd ne
  refine w ρ _ _ L S (.exc m1 upd_same m2 (by rw [upd_ne ne]; exact upd_same) ?_)
  have z : DenF T X.K ρ (Mu ρ h) (upd (upd H da (exd da [("word", .str wd), (fn, v)])) a (exo a (cAd T X.K c) (some da))) [(fw, .str wd), (f, y)] [(nmS T fw, .str wd), (nmS T f, v)] := .cons M.hw (.str _) (.cons hf (dv.le L) .nil)
  rw [nf, M.nw] at z
  exact z
theorem s_mkX0 {B nw ini : String} {l : List Value} {c d fw : Nat} {fI : Addr} {fd : FuncData} {ps : List Str} {wd x : Str} {p pos : Pos} (M : MkX T X B nw ini l d c fw fI)
    (F1 : FnOk X.prog X.w X.K X.mg X.base (L2.CX X.prog X.w) d fI fd ps (spI0 (cAd T X.K c) wd)) (hr : Room (d + 1) X.A) (hb : Binds X.K fd ps []) (hx : Passes (L2.CX X.prog X.w) X (fun _ _ _ => False)) (hg : Gl X x) (hm : X.mg x = some (.ref (cAd T X.K c)))
    (hdb : (x == ("__debug__" : Str)) = false) : SE T X E (.Call (.Name x p) [] [] pos) (mkX0 c fw wd) := by
  refine .ofV (peI (pe_mkx0 M.bf M.ox M.iC M.tI F1 hr hb hx hg hm hdb) fun σ H Q ⟨ρ, m, h, s, s2, w⟩ => ?_) fun _ => rfl
  refine ⟨by show 0 ≤ 1000; omega, fun a na => ⟨a, rfl, upd_same, fun da nd ne => ⟨rfl, ?_⟩⟩⟩
  rw [upd_ne ne] at nd
  rw [exc_heap0 ne]
  obtain ⟨L, S, m1, m2⟩ := le_exc (u := exo a (cAd T X.K c) (some da)) (w := exd da [("word", .str wd)]) s na nd ne
  refine w ρ _ _ L S (.exc m1 upd_same m2 (by rw [upd_ne ne]; exact upd_same) ?_)
  have z : DenF T X.K ρ (Mu ρ h) (upd (upd H da (exd da [("word", .str wd)])) a (exo a (cAd T X.K c) (some da))) [(fw, .str wd)] [(nmS T fw, .str wd)] := .cons M.hw (.str _) .nil
  rw [M.nw] at z
  exact z
/-! ### a field -/
def opXg (cs : List Nat) (f : Nat) (x : MV) (h : MH) : Tr ER := match x with
  | .exc c fs => match memN c cs with
    | true => match lk f fs with
      | some y => okE y h
      | none => .bad
    | false => .bad
  | _ => .bad
def XgOk (T : Tb) (K : PySem.W.Frag) (cs : List Nat) (f : Nat) : Prop := ∀ c ∈ cs, XfC K (cAd T K c) ∧ PySem.W.findIn K (.ref (cAd T K c)) (nmS T f) = some none
theorem s_xg {e : Expr} {n : Str} {pos : Pos} {g : RunE} {cs : List Nat} {f : Nat} (he : SE T X E e g) (hn : nmS T f = n) (hc : XgOk T X.K cs f) (hb : attributeBase e n X.env (eval e X.env) = eval e X.env) : SE T X E (.Attribute e n pos) (run1 g (opXg cs f)) :=
  .ofV (peI (pe_xg he.v hb) (t_run1 fun ρ h H x v m E Q s d w => by
    unfold opXg at w
    split at w
    · rename_i c fs
      split at w
      · rename_i k
        split at w
        · rename_i y e2
          cases d with
          | exc n1 r1 n2 r2 df =>
            obtain ⟨u, q1, q2, _⟩ := den_lk df e2
            obtain ⟨c1, c2⟩ := hc c (memN_ok k)
            rw [hn] at q1 c2
            exact ⟨_, _, _, _, u, rfl, r1, r2, c1, c2, q1, post_den s q2 w⟩
        · exact w.elim
      · exact w.elim
    · exact w.elim)) fun _ => rfl
end
end
end WK
set_option Elab.async false
set_option linter.all false
set_option maxRecDepth 100000
/-! isinstance of own exceptions -/
namespace WK
noncomputable section
open PySem PySem.Spec PyProof.Rows L2
/-- isinstance(e, c), e an own exception that is held -/
def rIsX (K : PySem.W.Frag) : List V → Hp → VK → Prop := fun xs H Q => ∃ (a C d : Addr) (fs : List (Str × V)) (c : V) (cv : Value) (b : Bool), xs = [.ref a, c] ∧ H a = some (exo a C (some d)) ∧ H d = some (exd d fs) ∧ ExcC K C ∧ (∀ u, RelV c u → u = cv) ∧ PySem.W.kitOne K (.ref C) cv = some b ∧ Q (.bl b) H
theorem call_isX {X : Cx} : CallR X (.builtin "isinstance") (rIsX X.K) := by
  intro pins s σ H xs us Q I r h
  obtain ⟨a, C, d, fs, c, cv, b, rfl, ea, ed, T, hcv, k, q⟩ := h
  obtain ⟨u1, u2, rfl, r1, r2⟩ := vals2 r
  obtain rfl : u1 = Value.ref a := r1
  obtain rfl := hcv _ r2
  obtain ⟨t1, ho⟩ := exo_at I.hok ea
  obtain ⟨mA, hns, _⟩ := exd_at I.hok ed
  obtain ⟨od, _, _, hod, _⟩ := hns
  have J : PySem.W.InstAt s.heap a _ C (some od) := ⟨ho, rfl, rfl, hod⟩
  have hcl : (PySem.W.clsIn X.K C).isSome = true := by
    obtain ⟨cd, hc, _⟩ := PySem.W.any_some T.hd
    rw [hc]; rfl
  exact PySem.W.kia_one (PySem.W.kitx_exc hcl T.hg T.hk T.hs T.ha T.hn T.ht T.hm) I.kIn J k (fun z => nomatch z) fun tk => ⟨.bl b, H, I.tok tk, rfl, q⟩
section
variable {T : Tb} {X : Cx} {E : XW}
def opIsX (tbl : List (Nat × Bool)) (x : MV) (h : MH) : Tr ER := match x with
  | .exc c _ => match asc c tbl with
    | some b => okE (.bl b) h
    | none => .bad
  | _ => .bad
def IsXOk (T : Tb) (K : PySem.W.Frag) (cv : Value) (tbl : List (Nat × Bool)) : Prop := ∀ c b, (c, b) ∈ tbl → ExcC K (cAd T K c) ∧ PySem.W.kitOne K (.ref (cAd T K c)) cv = some b
theorem isX_run {cv : Value} {c : V} {tbl : List (Nat × Bool)} (hc : IsXOk T X.K cv tbl) (hcv : ∀ u, RelV c u → u = cv) : ∀ ρ h H x v m (E : XW) Q, SimH T X.K ρ h H → Den T X.K ρ (Mu ρ h) H x v → (opIsX tbl x h).wp (postE T X.K E m ρ h H Q) → rIsX X.K [v, c] H Q := fun ρ h H x v m E Q s d w => by
  unfold opIsX at w
  split at w
  · rename_i k fs
    split at w
    · rename_i b e1
      cases d with
      | exc n1 r1 n2 r2 df =>
        obtain ⟨c1, c2⟩ := hc _ _ (asc_mem e1)
        exact ⟨_, _, _, _, c, cv, b, rfl, r1, r2, c1, hcv, c2, post_bl s w⟩
    · exact w.elim
  · exact w.elim
theorem s_isX {e : Expr} {g : RunE} {n : Str} {D : Addr} {tbl : List (Nat × Bool)} {p q pos : Pos} (he : SE T X E e g) (hst : notStar e = true) (hg : Gl X "isinstance") (hm : X.mg "isinstance" = none) (hgt : Gl X n) (hmt : X.mg n = some (.ref D)) (hd : (n == ("__debug__" : Str)) = false) (hc : IsXOk T X.K (.ref D) tbl) :
    SE T X E (.Call (.Name "isinstance" p) [e, .Name n q] [] pos) (run1 g (opIsX tbl)) :=
  .ofV (peI (pe_callB call_isX hg hm rfl (pa_cons he.v (pa_cons (pe_glob (v := .ref D) hgt hmt rfl hd) pa_nil) (star_cons hst)) (by decide) (by decide) (star_cons hst)) (t_run1 (isX_run hc fun u r => r))) fun _ => rfl
theorem s_isXb {e : Expr} {g : RunE} {n : Str} {t : String} {tbl : List (Nat × Bool)} {p q pos : Pos} (he : SE T X E e g) (hst : notStar e = true) (hg : Gl X "isinstance") (hm : X.mg "isinstance" = none) (hgt : Gl X n) (hmt : X.mg n = none) (hvt : bootBuiltins n = some (.type t)) (hn : n ≠ "__name__") (hd : (n == ("__debug__" : Str)) = false) (hc : IsXOk T X.K (.type t) tbl) :
    SE T X E (.Call (.Name "isinstance" p) [e, .Name n q] [] pos) (run1 g (opIsX tbl)) :=
  .ofV (peI (pe_callB call_isX hg hm rfl (pa_cons he.v (pa_cons (pe_bltn hgt hmt hvt (show RelV (.ty t) (.type t) from rfl) hn hd) pa_nil) (star_cons hst)) (by decide) (by decide) (star_cons hst)) (t_run1 (isX_run hc fun u r => r))) fun _ => rfl
end
end
end WK
set_option Elab.async false
set_option linter.all false
set_option maxRecDepth 100000
set_option maxHeartbeats 0
namespace WK
noncomputable section
open PySem L2
abbrev top (i : Nat) : Stmt := PySem.Challenge.pw_windowkin_k56_classes_of_errors.main.body.getD i (.Pass ⟨0, 0, 0, 0⟩)
abbrev NPl : List Str := ["_law_bag_here", "_law_many", "_law_cell", "_law_got", "_law_seed"]
abbrev cI (i : Int) : RunE := fun _ h => okE (.int i) h
abbrev bx (i : Int) : RunE := run2 (runVar 0) (cI i) opIx
abbrev cGe : CF := cInt fun i j => decide (j ≤ i)
abbrev cGt : CF := cInt fun i j => decide (j < i)
/-- // by a positive divisor of up to a hundred digits -/
def opFdivW (x y : MV) (h : MH) : Tr ER := match x, y with
  | .int i, .int j => ifT (decide (0 < j) && Nat.ble j.natAbs (10 ^ 30)) (okE (.int (i / j)) h)
  | _, _ => .bad
abbrev ten18 : RunE := run2 (cI 10) (cI 18) opPow
def rPull : RunS :=
  runSeq (runIf (runAnd (run2 (bx 2) (cI 0) (cOp cEq)) (run2 (bx 1) (runArgs (runCons (bx 0) runNil) kLen) (cOp cLt)))
    (runSeq (runAsg (run2 (bx 0) (bx 1) opIx) (gNm 2))
    (runSeq (runAsg (run2 (bx 1) (cI 1) (opAdd false)) (gSubR (runVar 0) (cI 1)))
      (runIf (run2 (runVar 2) ten18 (cOp cGe))
        (runAsg (run2 (runVar 2) ten18 opSub) (gSubR (runVar 0) (cI 2)))
        (runAsg (run2 (run2 (run2 (run2 (bx 3) (cI 48271) (opMul false)) (run2 (run2 (runVar 2) (cI 2147483563) opMod) (cI 69621) (opMul false)) (opAdd false)) (cI 7) (opAdd false)) (cI 2147483563) opMod) (gSubR (runVar 0) (cI 3)))))) nxS)
  (runSeq (runIf (run2 (bx 2) (cI 0) (cOp cGt))
    (runSeq (runAsg (run2 (bx 2) (runVar 1) opMod) (gNm 3))
    (runSeq (runAsg (run2 (bx 2) (runVar 1) opFdivW) (gSubR (runVar 0) (cI 2)))
      (runRet (runVar 3)))) nxS)
  (runSeq (runAsg (bx 3) (gNm 4))
  (runSeq (runAsg (run2 (run2 (run2 (run2 (run2 (runVar 4) (runVar 4) (opMul false)) (cI 3) (opMul false)) (run2 (runVar 4) (cI 16807) (opMul false)) (opAdd false)) (cI 1013904223) (opAdd false)) (cI 2147483563) opMod) (gSubR (runVar 0) (cI 3)))
    (runRet (run2 (run2 (run2 (bx 3) (cI 61) opFdiv) (run2 (run2 (bx 3) (cI 8191) opMod) (cI 17) (opMul false)) (opAdd false)) (runVar 1) opMod)))))
section
variable {T : Tb} {X : Cx} {E : XW}
theorem opFdivW_ok : OpS T X (rI CDivW fun i j => .int (i / j)) opFdivW := fun ρ h H x y v u E ms Q s dx dy w => by
  unfold opFdivW at w
  split at w
  · rename_i i j
    cases dx; cases dy
    obtain ⟨c, w⟩ := ifT_wp w
    obtain ⟨c1, c2⟩ := Bool.and_eq_true_iff.mp c
    have h1 : (0 : Int) < j := of_decide_eq_true c1
    have h2 : j.natAbs ≤ 10 ^ 30 := Nat.le_of_ble_eq_true c2
    exact ⟨i, j, rfl, rfl, wide_div (b := 200) h1 (Nat.lt_of_le_of_lt h2 (by decide)) (by decide) (by decide), post_int s w⟩
  · exact w.elim
end
theorem scPl : FnScope NPl ["_law_bag_here", "_law_many"] (defScope (top 29)) := ⟨rfl, rfl, rfl, by decide +kernel, rfl, by decide +kernel, by decide +kernel⟩
section
variable {T : Tb} {P : Program} {w : World} {K : PySem.W.Frag} {mg : Str → Option Value} {base : Heap} {cdv : Value} {A : Around} {outer : List Env} {s : Shared} {H : Hp} {EK : XK} {E : XW} {f : Addr} {k : Nat}
abbrev XPl (P : Program) (w : World) (K : PySem.W.Frag) (mg : Str → Option Value) (base : Heap) (cdv : Value) (A : Around) (outer : List Env) (s : Shared) (H : Hp) (EK : XK) (f : Addr) : Cx := cxOf (L2.CX P w) P w K mg base NPl "_law_pull" (defScope (top 29)) f cdv A outer s H EK
theorem bPl (gl : mg "len" = none) (hP : P = T.P) (hw : w = T.w) (hu : (XPl P w K mg base cdv A outer s H EK f).A.units + 200 < cLine) : SSs T (XPl P w K mg base cdv A outer s H EK f) E (defBody (top 29)) rPull := by
  have nd : (XPl P w K mg base cdv A outer s H EK f).N.Nodup := scPl.nd
  have v0 : ∀ p, SE T (XPl P w K mg base cdv A outer s H EK f) E (.Name "_law_bag_here" p) (runVar 0) := fun p => s_var rfl (.inl rfl) rfl rfl
  have v1 : ∀ p, SE T (XPl P w K mg base cdv A outer s H EK f) E (.Name "_law_many" p) (runVar 1) := fun p => s_var rfl (.inl rfl) rfl rfl
  have v2 : ∀ p, SE T (XPl P w K mg base cdv A outer s H EK f) E (.Name "_law_cell" p) (runVar 2) := fun p => s_var rfl (.inl rfl) rfl rfl
  have v3 : ∀ p, SE T (XPl P w K mg base cdv A outer s H EK f) E (.Name "_law_got" p) (runVar 3) := fun p => s_var rfl (.inl rfl) rfl rfl
  have v4 : ∀ p, SE T (XPl P w K mg base cdv A outer s H EK f) E (.Name "_law_seed" p) (runVar 4) := fun p => s_var rfl (.inl rfl) rfl rfl
  have ci : ∀ {i : Int} {j : Nat} {p : Pos}, SE T (XPl P w K mg base cdv A outer s H EK f) E (.Constant (.int i) j p) (cI i) := fun {i j p} => s_con pe_int (fun _ _ _ => .int i) fun _ => rfl
  have ln : ∀ {e g p q}, SE T (XPl P w K mg base cdv A outer s H EK f) E e g → notStar e = true → SE T (XPl P w K mg base cdv A outer s H EK f) E (.Call (.Name "len" p) [e] [] q) (runArgs (runCons g runNil) kLen) := fun he hn => s_biB cr_len kLen_ok rfl gl boot_len (a_cons he a_nil hn) (by decide) (by decide)
  have gb : ∀ {i : Int} {j : Nat} {p q r}, SG T (XPl P w K mg base cdv A outer s H EK f) E (.Subscript (.Name "_law_bag_here" p) (.Constant (.int i) j q) r) (gSubR (runVar 0) (cI i)) := fun {i j p q r} => g_sub hP hw (by omega) (v0 p) ci fun _ => rfl
  have ten : ∀ {p q r j j'}, SE T (XPl P w K mg base cdv A outer s H EK f) E (.BinOp (.Constant (.int 10) j p) .Pow (.Constant (.int 18) j' q) r) ten18 := s_bin op_pow opPow_ok ci ci
  refine ss_cons (s_if (s_bool (sb_and (s_cmp (op_eqA (by omega)) cEq_ok (s_ix (v0 _) ci rfl) ci rfl) (sb_and1 (s_cmp (op_ltA ?_) cLt_ok (s_ix (v0 _) ci rfl) (ln (s_ix (v0 _) ci rfl) rfl) rfl))))
    (ss_cons (s_asg (s_ix (s_ix (v0 _) ci rfl) (s_ix (v0 _) ci rfl) rfl) (g_name nd rfl (.inl rfl) (.inr rfl)) rfl rfl rfl)
      (ss_cons (s_asg (s_bin op_addA (opAdd_ok false) (s_ix (v0 _) ci rfl) ci) gb rfl rfl rfl)
        (ss_one (s_if (s_cmp op_ge (cInt_ok _) (v2 _) ten rfl) (ss_one (s_asg (s_bin op_sub opSub_ok (v2 _) ten) gb rfl rfl rfl))
          (ss_one (s_asg (s_bin op_modN opMod_ok (s_bin op_addA (opAdd_ok false) (s_bin op_addA (opAdd_ok false) (s_bin op_mulA (opMul_ok false) (s_ix (v0 _) ci rfl) ci) (s_bin op_mulA (opMul_ok false) (s_bin op_modN opMod_ok (v2 _) ci) ci)) ci) ci) gb rfl rfl rfl)))))) ss_nil) ?_
  · omega
  · exact ss_cons (s_if (s_cmp op_gt (cInt_ok _) (s_ix (v0 _) ci rfl) ci rfl)
      (ss_cons (s_asg (s_bin op_modN opMod_ok (s_ix (v0 _) ci rfl) (v1 _)) (g_name nd rfl (.inl rfl) (.inr rfl)) rfl rfl rfl)
        (ss_cons (s_asg (s_bin op_fdivW opFdivW_ok (s_ix (v0 _) ci rfl) (v1 _)) gb rfl rfl rfl)
          (ss_one (s_ret (v3 _))))) ss_nil)
      (ss_cons (s_asg (s_ix (v0 _) ci rfl) (g_name nd rfl (.inl rfl) (.inr rfl)) rfl rfl rfl)
        (ss_cons (s_asg (s_bin op_modN opMod_ok (s_bin op_addA (opAdd_ok false) (s_bin op_addA (opAdd_ok false) (s_bin op_mulA (opMul_ok false) (s_bin op_mulA (opMul_ok false) (v4 _) (v4 _)) ci) (s_bin op_mulA (opMul_ok false) (v4 _) ci)) ci) ci) gb rfl rfl rfl)
          (ss_one (s_ret (s_bin op_modN opMod_ok (s_bin op_addA (opAdd_ok false) (s_bin op_fdivN opFdiv_ok (s_ix (v0 _) ci rfl) ci) (s_bin op_mulA (opMul_ok false) (s_bin op_modN opMod_ok (s_ix (v0 _) ci rfl) ci) ci)) (v1 _))))))
end
end
end WK
set_option Elab.async false
set_option linter.all false
set_option maxRecDepth 100000
namespace WK
noncomputable section
open PySem L2
abbrev bagL (cs : List MV) (i z q : Int) : MO := .lst [.lst cs, .int i, .int z, .int q]
section
variable {h : MH} {l : Nat} {cs : List MV} {i z q n : Int} {a b c : Option MV} (e : h.get l = some (bagL cs i z q))
include e
theorem bx_0 : bx 0 [some (.ref l), some (.int n), a, b, c] h = okE (.lst cs) h := by
  show opIx (.ref l) (.int 0) h = _
  simp [opIx, asQ, asL, e, atM]; try rfl
theorem bx_1 : bx 1 [some (.ref l), some (.int n), a, b, c] h = okE (.int i) h := by
  show opIx (.ref l) (.int 1) h = _
  simp [opIx, asQ, asL, e, atM]; try rfl
theorem bx_2 : bx 2 [some (.ref l), some (.int n), a, b, c] h = okE (.int z) h := by
  show opIx (.ref l) (.int 2) h = _
  simp [opIx, asQ, asL, e, atM]; try rfl
theorem bx_3 : bx 3 [some (.ref l), some (.int n), a, b, c] h = okE (.int q) h := by
  show opIx (.ref l) (.int 3) h = _
  simp [opIx, asQ, asL, e, atM]; try rfl
theorem sb_1 (v : Int) : gSubR (runVar 0) (cI 1) (.int v) [some (.ref l), some (.int n), a, b, c] h = .ret (.ok [some (.ref l), some (.int n), a, b, c] (h.put l (bagL cs v z q))) := by
  show Option.rec (motive := fun _ => Tr GR) _ _ (stSub (.ref l) (.int 1) (.int v) h) = _
  unfold stSub
  simp only [e]
  rfl
theorem sb_2 (v : Int) : gSubR (runVar 0) (cI 2) (.int v) [some (.ref l), some (.int n), a, b, c] h = .ret (.ok [some (.ref l), some (.int n), a, b, c] (h.put l (bagL cs i v q))) := by
  show Option.rec (motive := fun _ => Tr GR) _ _ (stSub (.ref l) (.int 2) (.int v) h) = _
  unfold stSub
  simp only [e]
  rfl
theorem sb_3 (v : Int) : gSubR (runVar 0) (cI 3) (.int v) [some (.ref l), some (.int n), a, b, c] h = .ret (.ok [some (.ref l), some (.int n), a, b, c] (h.put l (bagL cs i z v))) := by
  show Option.rec (motive := fun _ => Tr GR) _ _ (stSub (.ref l) (.int 3) (.int v) h) = _
  unfold stSub
  simp only [e]
  rfl
end
end
end WK
set_option Elab.async false
set_option linter.all false
set_option maxRecDepth 100000
namespace WK
noncomputable section
open PySem L2
theorem smI_in {j : Int} (h0 : 0 ≤ j) (h1 : j < 2147483563) : smI j = true := by
  unfold smI
  rw [Nat.ble_eq]
  omega
theorem be_okE {α : Type} {v : MV} {h : MH} {f g : MV → MH → Tr α} : (okE v h).be f g = f v h := rfl
theorem bind_ret {α β : Type} {a : α} {f : α → Tr β} : (Tr.ret a).bind f = f a := rfl
theorem ifT_true {α : Type} {t : Tr α} : ifT true t = t := rfl
theorem mul_in {m : Bool} {i j : Int} {h : MH} (c : (smI i || smI j) = true) : opMul m (.int i) (.int j) h = okE (.int (i * j)) h := by
  show ifT _ _ = _
  rw [c]; rfl
theorem add_in {m : Bool} {i j : Int} {h : MH} : opAdd m (.int i) (.int j) h = okE (.int (i + j)) h := rfl
theorem mod_in {i j : Int} {h : MH} (c : j ≠ 0) : opMod (.int i) (.int j) h = okE (.int (i.fmod j)) h := by
  unfold opMod
  simp [c]
  try rfl
def P3 : RunS := runSeq (runAsg (bx 3) (gNm 4))
  (runSeq (runAsg (run2 (run2 (run2 (run2 (run2 (runVar 4) (runVar 4) (opMul false)) (cI 3) (opMul false)) (run2 (runVar 4) (cI 16807) (opMul false)) (opAdd false)) (cI 1013904223) (opAdd false)) (cI 2147483563) opMod) (gSubR (runVar 0) (cI 3)))
    (runRet (run2 (run2 (run2 (bx 3) (cI 61) opFdiv) (run2 (run2 (bx 3) (cI 8191) opMod) (cI 17) (opMul false)) (opAdd false)) (runVar 1) opMod)))
section
variable {h : MH} {l : Nat} {cs : List MV} {i z q n : Int} {a b c : Option MV}
theorem put_at (e : h.get l = some (bagL cs i z q)) (o : MO) : (h.put l o).get l = some o := by
  rw [put_get e, if_pos rfl]
theorem p3_run (e : h.get l = some (bagL cs i z q)) (q0 : 0 ≤ q) (q1 : q < 2147483563) (hn : n ≠ 0) :
    P3 [some (.ref l), some (.int n), a, b, c] h = .ret (.rt (.int ((((q * q * 3 + q * 16807 + 1013904223).fmod 2147483563).fdiv 61 + ((q * q * 3 + q * 16807 + 1013904223).fmod 2147483563).fmod 8191 * 17).fmod n)) (h.put l (bagL cs i z ((q * q * 3 + q * 16807 + 1013904223).fmod 2147483563)))) := by
  have m1 : (smI q || smI q) = true := by rw [smI_in q0 q1]; rfl
  have m2 : (smI (q * q) || smI 3) = true := by rw [show smI 3 = true from by decide]; simp
  have m3 : (smI q || smI 16807) = true := by rw [smI_in q0 q1]; rfl
  have e2 := put_at e (bagL cs i z ((q * q * 3 + q * 16807 + 1013904223).fmod 2147483563))
  have st1 : runAsg (bx 3) (gNm 4) [some (.ref l), some (.int n), a, b, c] h = nxS [some (.ref l), some (.int n), a, b, some (.int q)] h := by
    show (bx 3 _ h).be _ _ = _
    rw [bx_3 e]; rfl
  have v4 : runVar 4 [some (.ref l), some (.int n), a, b, some (.int q)] h = okE (.int q) h := rfl
  have st2 : run2 (run2 (run2 (run2 (run2 (runVar 4) (runVar 4) (opMul false)) (cI 3) (opMul false)) (run2 (runVar 4) (cI 16807) (opMul false)) (opAdd false)) (cI 1013904223) (opAdd false)) (cI 2147483563) opMod [some (.ref l), some (.int n), a, b, some (.int q)] h = okE (.int ((q * q * 3 + q * 16807 + 1013904223).fmod 2147483563)) h := by
    simp only [run2, v4, be_okE, mul_in m1, mul_in m2, mul_in m3, add_in, cI]
    exact mod_in (by decide)
  have st3 : runAsg (run2 (run2 (run2 (run2 (run2 (runVar 4) (runVar 4) (opMul false)) (cI 3) (opMul false)) (run2 (runVar 4) (cI 16807) (opMul false)) (opAdd false)) (cI 1013904223) (opAdd false)) (cI 2147483563) opMod) (gSubR (runVar 0) (cI 3)) [some (.ref l), some (.int n), a, b, some (.int q)] h = nxS [some (.ref l), some (.int n), a, b, some (.int q)] (h.put l (bagL cs i z ((q * q * 3 + q * 16807 + 1013904223).fmod 2147483563))) := by
    show (run2 _ _ _ _ h).be _ _ = _
    rw [st2]
    show toS (gSubR _ _ _ _ h) = _
    rw [sb_3 e]; rfl
  have st4 : run2 (run2 (run2 (bx 3) (cI 61) opFdiv) (run2 (run2 (bx 3) (cI 8191) opMod) (cI 17) (opMul false)) (opAdd false)) (runVar 1) opMod [some (.ref l), some (.int n), a, b, some (.int q)] (h.put l (bagL cs i z ((q * q * 3 + q * 16807 + 1013904223).fmod 2147483563))) = okE (.int ((((q * q * 3 + q * 16807 + 1013904223).fmod 2147483563).fdiv 61 + ((q * q * 3 + q * 16807 + 1013904223).fmod 2147483563).fmod 8191 * 17).fmod n)) (h.put l (bagL cs i z ((q * q * 3 + q * 16807 + 1013904223).fmod 2147483563))) := by
    have b3 := bx_3 (n := n) (a := a) (b := b) (c := some (.int q)) e2
    have v1 : ∀ h', runVar 1 [some (.ref l), some (.int n), a, b, some (.int q)] h' = okE (.int n) h' := fun _ => rfl
    have d1 : ∀ (x : Int) h', opFdiv (.int x) (.int 61) h' = okE (.int (x.fdiv 61)) h' := fun x h' => rfl
    have d2 : ∀ (x : Int) h', opMod (.int x) (.int 8191) h' = okE (.int (x.fmod 8191)) h' := fun x h' => rfl
    have d3 : ∀ (x : Int) h', opMul false (.int x) (.int 17) h' = okE (.int (x * 17)) h' := fun x h' => mul_in (by rw [show smI 17 = true from by decide]; simp)
    have key : ∀ (B : RunE) (y : Int) (h2 : MH), B [some (.ref l), some (.int n), a, b, some (.int q)] h2 = okE (.int y) h2 → run2 (run2 (run2 B (cI 61) opFdiv) (run2 (run2 B (cI 8191) opMod) (cI 17) (opMul false)) (opAdd false)) (runVar 1) opMod [some (.ref l), some (.int n), a, b, some (.int q)] h2 = okE (.int ((y.fdiv 61 + y.fmod 8191 * 17).fmod n)) h2 := fun B y h2 hB => by
      simp only [run2, hB, be_okE, cI, d1, d2, d3, v1, add_in]
      exact mod_in hn
    exact key _ _ _ b3
  show ((runAsg (bx 3) (gNm 4) _ h).bind _) = _
  rw [st1]
  show ((runAsg _ _ _ h).bind _) = _
  rw [st3]
  show ((run2 _ _ _ _ _).be _ _) = _
  rw [st4]
  rfl
end
end
end WK
set_option Elab.async false
set_option linter.all false
set_option maxRecDepth 100000
namespace WK
noncomputable section
open PySem L2
def P2 : RunS := runIf (run2 (bx 2) (cI 0) (cOp cGt))
    (runSeq (runAsg (run2 (bx 2) (runVar 1) opMod) (gNm 3))
    (runSeq (runAsg (run2 (bx 2) (runVar 1) opFdivW) (gSubR (runVar 0) (cI 2)))
      (runRet (runVar 3)))) nxS
section
variable {h : MH} {l : Nat} {cs : List MV} {i z q n : Int} {a b c : Option MV}
theorem p2_no (e : h.get l = some (bagL cs i z q)) (hz : ¬ 0 < z) : P2 [some (.ref l), some (.int n), a, b, c] h = nxS [some (.ref l), some (.int n), a, b, c] h := by
  have t : run2 (bx 2) (cI 0) (cOp cGt) [some (.ref l), some (.int n), a, b, c] h = okE (.bl false) h := by
    show (bx 2 _ h).be _ _ = _
    rw [bx_2 e]
    show okE (.bl (decide (0 < z))) h = _
    rw [decide_eq_false hz]
  show (run2 _ _ _ _ h).be _ _ = _
  rw [t]; rfl
theorem p2_yes (e : h.get l = some (bagL cs i z q)) (hz : 0 < z) (hn : 0 < n) (hb : n.natAbs ≤ 10 ^ 30) : P2 [some (.ref l), some (.int n), a, b, c] h = .ret (.rt (.int (z.fmod n)) (h.put l (bagL cs i (z / n) q))) := by
  have t : run2 (bx 2) (cI 0) (cOp cGt) [some (.ref l), some (.int n), a, b, c] h = okE (.bl true) h := by
    show (bx 2 _ h).be _ _ = _
    rw [bx_2 e]
    show okE (.bl (decide (0 < z))) h = _
    rw [decide_eq_true hz]
  have st1 : runAsg (run2 (bx 2) (runVar 1) opMod) (gNm 3) [some (.ref l), some (.int n), a, b, c] h = nxS [some (.ref l), some (.int n), a, some (.int (z.fmod n)), c] h := by
    show ((bx 2 _ h).be _ _).be _ _ = _
    rw [bx_2 e]
    show (opMod (.int z) (.int n) h).be _ _ = _
    rw [mod_in (by omega)]; rfl
  have st2 : runAsg (run2 (bx 2) (runVar 1) opFdivW) (gSubR (runVar 0) (cI 2)) [some (.ref l), some (.int n), a, some (.int (z.fmod n)), c] h = nxS [some (.ref l), some (.int n), a, some (.int (z.fmod n)), c] (h.put l (bagL cs i (z / n) q)) := by
    show ((bx 2 _ h).be _ _).be _ _ = _
    rw [bx_2 e]
    show (opFdivW (.int z) (.int n) h).be _ _ = _
    have d : opFdivW (.int z) (.int n) h = okE (.int (z / n)) h := by
      show ifT _ _ = _
      rw [decide_eq_true hn, Nat.ble_eq.mpr hb]; rfl
    rw [d]
    show toS (gSubR _ _ _ _ h) = _
    rw [sb_2 e]; rfl
  show (run2 _ _ _ _ h).be _ _ = _
  rw [t]
  show ((runAsg _ _ _ h).bind _) = _
  rw [st1]
  show ((runAsg _ _ _ h).bind _) = _
  rw [st2]
  rfl
end
end
end WK
set_option Elab.async false
set_option linter.all false
set_option maxRecDepth 100000
namespace WK
noncomputable section
open PySem L2
theorem setL_setL (l : Nat) (o u : MO) : ∀ es, setL l o (setL l u es) = setL l o es
  | [] => rfl
  | (k, w) :: r => by
    unfold setL
    cases e : Nat.beq l k with
    | true => simp only [setL, e]
    | false => simp only [setL, e]; rw [setL_setL l o u r]
theorem put_put {h : MH} {l : Nat} {o u : MO} : (h.put l u).put l o = h.put l o := by
  unfold MH.put
  simp only [setL_setL]
abbrev c1 : RunE := runAnd (run2 (bx 2) (cI 0) (cOp cEq)) (run2 (bx 1) (runArgs (runCons (bx 0) runNil) kLen) (cOp cLt))
abbrev s1a : RunS := runAsg (run2 (bx 0) (bx 1) opIx) (gNm 2)
abbrev s1b : RunS := runAsg (run2 (bx 1) (cI 1) (opAdd false)) (gSubR (runVar 0) (cI 1))
abbrev s1c : RunS := runIf (run2 (runVar 2) ten18 (cOp cGe))
        (runAsg (run2 (runVar 2) ten18 opSub) (gSubR (runVar 0) (cI 2)))
        (runAsg (run2 (run2 (run2 (run2 (bx 3) (cI 48271) (opMul false)) (run2 (run2 (runVar 2) (cI 2147483563) opMod) (cI 69621) (opMul false)) (opAdd false)) (cI 7) (opAdd false)) (cI 2147483563) opMod) (gSubR (runVar 0) (cI 3)))
def P1 : RunS := runIf c1 (runSeq s1a (runSeq s1b s1c)) nxS
theorem rPull_parts : rPull = runSeq P1 (runSeq P2 P3) := rfl
section
variable {h : MH} {l : Nat} {cs : List Int} {i z q n : Int} {a b c : Option MV}
theorem c1_run (e : h.get l = some (bagL (cs.map .int) i z q)) : c1 [some (.ref l), some (.int n), a, b, c] h = okE (.bl (decide (z = 0) && decide (i < cs.length))) h := by
  have t1 : run2 (bx 2) (cI 0) (cOp cEq) [some (.ref l), some (.int n), a, b, c] h = okE (.bl (decide (z = 0))) h := by
    show (bx 2 _ h).be _ _ = _
    rw [bx_2 e]; rfl
  have t2 : run2 (bx 1) (runArgs (runCons (bx 0) runNil) kLen) (cOp cLt) [some (.ref l), some (.int n), a, b, c] h = okE (.bl (decide (i < cs.length))) h := by
    show (bx 1 _ h).be _ _ = _
    rw [bx_1 e]
    show (Tr.bl ((bx 0 _ h).be _ _) _ _).be _ _ = _
    rw [bx_0 e]
    show okE (.bl (decide (i < (List.length (cs.map MV.int) : Int)))) h = _
    rw [List.length_map]
  show (run2 _ _ _ _ h).be _ _ = _
  rw [t1]
  show br h (.bl (decide (z = 0))) _ _ = _
  by_cases hz : z = 0
  · rw [decide_eq_true hz]
    exact t2
  · rw [decide_eq_false hz]; rfl
end
end
end WK
set_option Elab.async false
set_option linter.all false
set_option maxRecDepth 100000
namespace WK
noncomputable section
open PySem L2
section
variable {h : MH} {l : Nat} {cs : List Int} {i z q n : Int} {a b c : Option MV}
theorem nthR_map {cs : List Int} {j : Nat} {x : Int} (e : cs[j]? = some x) : nthR (cs.map MV.int) j = some (.int x) := by
  induction cs generalizing j with
  | nil => cases e
  | cons y r ih =>
    cases j with
    | zero => cases e; rfl
    | succ j => exact ih e
theorem s1a_run (e : h.get l = some (bagL (cs.map .int) i z q)) (h0 : 0 ≤ i) (h1 : i < cs.length) : ∃ x, s1a [some (.ref l), some (.int n), a, b, c] h = nxS [some (.ref l), some (.int n), some (.int x), b, c] h := by
  obtain ⟨j, rfl⟩ : ∃ j : Nat, i = j := ⟨i.toNat, by omega⟩
  obtain ⟨x, hx⟩ : ∃ x, cs[j]? = some x := ⟨cs[j]'(by omega), List.getElem?_eq_getElem _⟩
  refine ⟨x, ?_⟩
  have t : opIx (.lst (cs.map .int)) (.int j) h = okE (.int x) h := by
    have m : atM (cs.map MV.int) (j : Int) = some (.int x) := nthR_map hx
    simp only [opIx, asQ, asL, m]
  have u : run2 (bx 0) (bx 1) opIx [some (.ref l), some (.int n), a, b, c] h = okE (.int x) h := by
    show (bx 0 _ h).be _ _ = _
    rw [bx_0 e]
    show (bx 1 _ h).be _ _ = _
    rw [bx_1 e]
    exact t
  show (run2 _ _ _ _ h).be _ _ = _
  rw [u]; rfl
end
end
end WK
set_option Elab.async false
set_option linter.all false
set_option maxRecDepth 100000
namespace WK
noncomputable section
open PySem L2
section
variable {h : MH} {l : Nat} {cs : List MV} {i z q n : Int} {a b c : Option MV}
theorem s1b_run (e : h.get l = some (bagL cs i z q)) : s1b [some (.ref l), some (.int n), a, b, c] h = nxS [some (.ref l), some (.int n), a, b, c] (h.put l (bagL cs (i + 1) z q)) := by
  have u : run2 (bx 1) (cI 1) (opAdd false) [some (.ref l), some (.int n), a, b, c] h = okE (.int (i + 1)) h := by
    show (bx 1 _ h).be _ _ = _
    rw [bx_1 e]; rfl
  show (run2 _ _ _ _ h).be _ _ = _
  rw [u]
  show toS (gSubR _ _ _ _ h) = _
  rw [sb_1 e]; rfl
end
end
end WK
set_option Elab.async false
set_option linter.all false
set_option maxRecDepth 100000
namespace WK
noncomputable section
open PySem L2
section
variable {h : MH} {l : Nat} {cs : List MV} {i q n x : Int} {b c : Option MV}
theorem ten_run (m : MS) (h : MH) : ten18 m h = okE (.int 1000000000000000000) h := by
  show opPow (.int 10) (.int 18) h = _
  rfl
theorem s1c_run (e : h.get l = some (bagL cs i 0 q)) (q0 : 0 ≤ q) (q1 : q < 2147483563) : ∃ z' q', 0 ≤ z' ∧ 0 ≤ q' ∧ q' < 2147483563 ∧ s1c [some (.ref l), some (.int n), some (.int x), b, c] h = nxS [some (.ref l), some (.int n), some (.int x), b, c] (h.put l (bagL cs i z' q')) := by
  have t : run2 (runVar 2) ten18 (cOp cGe) [some (.ref l), some (.int n), some (.int x), b, c] h = okE (.bl (decide (1000000000000000000 ≤ x))) h := by
    have v2 : runVar 2 [some (.ref l), some (.int n), some (.int x), b, c] h = okE (.int x) h := rfl
    show (runVar 2 _ h).be _ _ = _
    rw [v2, be_okE, ten_run]; rfl
  by_cases hx : (1000000000000000000 : Int) ≤ x
  · refine ⟨x - 1000000000000000000, q, by omega, q0, q1, ?_⟩
    show (run2 _ _ _ _ h).be _ _ = _
    rw [t, decide_eq_true hx]
    have u : run2 (runVar 2) ten18 opSub [some (.ref l), some (.int n), some (.int x), b, c] h = okE (.int (x - 1000000000000000000)) h := by
      have v2 : runVar 2 [some (.ref l), some (.int n), some (.int x), b, c] h = okE (.int x) h := rfl
      show (runVar 2 _ h).be _ _ = _
      rw [v2, be_okE, ten_run]; rfl
    rw [be_okE]
    show (runAsg (run2 (runVar 2) ten18 opSub) (gSubR (runVar 0) (cI 2)) [some (.ref l), some (.int n), some (.int x), b, c] h) = _
    unfold runAsg
    rw [u]
    show toS (gSubR _ _ _ _ h) = _
    rw [sb_2 e]; rfl
  · refine ⟨0, (q * 48271 + x.fmod 2147483563 * 69621 + 7).fmod 2147483563, by omega, Int.fmod_nonneg_of_pos _ (by decide), Int.fmod_lt_of_pos _ (by decide), ?_⟩
    have key : ∀ (B : RunE) (h2 : MH), B [some (.ref l), some (.int n), some (.int x), b, c] h2 = okE (.int q) h2 → run2 (run2 (run2 (run2 B (cI 48271) (opMul false)) (run2 (run2 (runVar 2) (cI 2147483563) opMod) (cI 69621) (opMul false)) (opAdd false)) (cI 7) (opAdd false)) (cI 2147483563) opMod [some (.ref l), some (.int n), some (.int x), b, c] h2 = okE (.int ((q * 48271 + x.fmod 2147483563 * 69621 + 7).fmod 2147483563)) h2 := fun B h2 hB => by
      have v2 : ∀ h', runVar 2 [some (.ref l), some (.int n), some (.int x), b, c] h' = okE (.int x) h' := fun _ => rfl
      have m1 : ∀ (y : Int) h', opMul false (.int y) (.int 48271) h' = okE (.int (y * 48271)) h' := fun y h' => mul_in (by rw [show smI 48271 = true from by decide]; simp)
      have m2 : ∀ (y : Int) h', opMul false (.int y) (.int 69621) h' = okE (.int (y * 69621)) h' := fun y h' => mul_in (by rw [show smI 69621 = true from by decide]; simp)
      have d1 : ∀ (y : Int) h', opMod (.int y) (.int 2147483563) h' = okE (.int (y.fmod 2147483563)) h' := fun y h' => rfl
      simp only [run2, hB, be_okE, cI, d1, m1, m2, v2, add_in]
    show (run2 _ _ _ _ h).be _ _ = _
    rw [t, decide_eq_false hx, be_okE]
    show (runAsg _ _ _ h) = _
    unfold runAsg
    rw [key _ h (bx_3 e)]
    show toS (gSubR _ _ _ _ h) = _
    rw [sb_3 e]; rfl
end
end
end WK
set_option Elab.async false
set_option linter.all false
set_option maxRecDepth 100000
namespace WK
noncomputable section
open PySem L2
theorem setL_self (l : Nat) (o : MO) : ∀ es, getL l es = some o → setL l o es = es
  | [], e => by cases e
  | (k, w) :: r, e => by
    unfold getL at e
    unfold setL
    cases z : Nat.beq l k with
    | true => rw [z] at e; cases e; rfl
    | false => rw [z] at e; dsimp only at e ⊢; rw [setL_self l o r e]
theorem put_self {h : MH} {l : Nat} {o : MO} (e : h.get l = some o) : h.put l o = h := by
  unfold MH.put
  rw [setL_self l o _ e]
section
variable {h : MH} {l : Nat} {cs : List Int} {i z q n : Int} {a b c : Option MV}
theorem p1_run (e : h.get l = some (bagL (cs.map .int) i z q)) (i0 : 0 ≤ i) (z0 : 0 ≤ z) (q0 : 0 ≤ q) (q1 : q < 2147483563) : ∃ i' z' q' a', 0 ≤ i' ∧ 0 ≤ z' ∧ 0 ≤ q' ∧ q' < 2147483563 ∧ P1 [some (.ref l), some (.int n), a, b, c] h = nxS [some (.ref l), some (.int n), a', b, c] (h.put l (bagL (cs.map .int) i' z' q')) := by
  have st : P1 [some (.ref l), some (.int n), a, b, c] h = br h (.bl (decide (z = 0) && decide (i < cs.length))) (runSeq s1a (runSeq s1b s1c) [some (.ref l), some (.int n), a, b, c] h) (nxS [some (.ref l), some (.int n), a, b, c] h) := by
    show (c1 _ h).be _ _ = _
    rw [c1_run e]; rfl
  rw [st]
  by_cases hc : z = 0 ∧ i < cs.length
  · obtain ⟨hz, hi⟩ := hc
    subst hz
    obtain ⟨x, hx⟩ := s1a_run (n := n) (a := a) (b := b) (c := c) e i0 hi
    have hb := s1b_run (n := n) (a := some (.int x)) (b := b) (c := c) e
    obtain ⟨z', q', hz', hq', hq2, hcx⟩ := s1c_run (n := n) (x := x) (b := b) (c := c) (put_at e (bagL (cs.map .int) (i + 1) 0 q)) q0 q1
    refine ⟨i + 1, z', q', some (.int x), by omega, hz', hq', hq2, ?_⟩
    rw [decide_eq_true rfl, decide_eq_true hi]
    show ((s1a _ h).bind _) = _
    rw [hx]
    show ((s1b _ h).bind _) = _
    rw [hb]
    show s1c _ _ = _
    rw [hcx, put_put]
  · refine ⟨i, z, q, a, i0, z0, q0, q1, ?_⟩
    have hd : (decide (z = 0) && decide (i < cs.length)) = false := by
      rw [Bool.and_eq_false_iff]
      by_cases hz : z = 0
      · exact .inr (decide_eq_false fun hi => hc ⟨hz, hi⟩)
      · exact .inl (decide_eq_false hz)
    rw [hd, put_self e]; rfl
theorem pull_run (e : h.get l = some (bagL (cs.map .int) i z q)) (i0 : 0 ≤ i) (z0 : 0 ≤ z) (q0 : 0 ≤ q) (q1 : q < 2147483563) (n0 : 0 < n) (n1 : n.natAbs ≤ 10 ^ 30) : ∃ r i' z' q', 0 ≤ r ∧ r < n ∧ 0 ≤ i' ∧ 0 ≤ z' ∧ 0 ≤ q' ∧ q' < 2147483563 ∧ rPull [some (.ref l), some (.int n), a, b, c] h = .ret (.rt (.int r) (h.put l (bagL (cs.map .int) i' z' q'))) := by
  obtain ⟨i1, z1, q2, a1, hi, hz, hq, hq2, h1⟩ := p1_run (n := n) (a := a) (b := b) (c := c) e i0 z0 q0 q1
  have e1 := put_at e (bagL (cs.map .int) i1 z1 q2)
  rw [rPull_parts]
  by_cases hp : 0 < z1
  · refine ⟨z1.fmod n, i1, z1 / n, q2, Int.fmod_nonneg_of_pos _ n0, Int.fmod_lt_of_pos _ n0, hi, Int.ediv_nonneg hz (by omega), hq, hq2, ?_⟩
    show ((P1 _ h).bind _) = _
    rw [h1]
    show ((P2 _ _).bind _) = _
    rw [p2_yes e1 hp n0 n1, put_put]; rfl
  · refine ⟨(((q2 * q2 * 3 + q2 * 16807 + 1013904223).fmod 2147483563).fdiv 61 + ((q2 * q2 * 3 + q2 * 16807 + 1013904223).fmod 2147483563).fmod 8191 * 17).fmod n, i1, z1, (q2 * q2 * 3 + q2 * 16807 + 1013904223).fmod 2147483563, Int.fmod_nonneg_of_pos _ n0, Int.fmod_lt_of_pos _ n0, hi, hz, Int.fmod_nonneg_of_pos _ (by decide), Int.fmod_lt_of_pos _ (by decide), ?_⟩
    show ((P1 _ h).bind _) = _
    rw [h1]
    show ((P2 _ _).bind _) = _
    rw [p2_no e1 hp]
    show P3 _ _ = _
    rw [p3_run e1 hq hq2 (by omega), put_put]
end
end
end WK
set_option Elab.async false
set_option linter.all false
set_option maxRecDepth 100000
namespace WK
noncomputable section
open PySem L2
/-! ### a fresh atom -/
def rhoV (ρ : Rho) (l : Nat) (v : V) : Rho := ⟨ρ.at_, ρ.amb, fun k => if k = l then some v else ρ.sv k⟩
def bump (h : MH) : MH := ⟨h.nxt + 1, h.es⟩
theorem rhoV_at {ρ : Rho} {l : Nat} {v : V} : (rhoV ρ l v).sv l = some v := if_pos rfl
section
variable {T : Tb} {K : PySem.W.Frag} {ρ : Rho} {h : MH} {H : Hp} {v : V}
theorem own_V {a : Addr} : Own (rhoV ρ h.nxt v) (bump h) a ↔ Own ρ h a := Iff.rfl
theorem Le.atom (s : SimH T K ρ h H) : Le ρ h H (rhoV ρ h.nxt v) (bump h) H :=
  ⟨fun _ _ e => e, fun l u e => by
    have n : l ≠ h.nxt := Nat.ne_of_lt (s.ltv l u e)
    show (if l = h.nxt then some v else ρ.sv l) = some u
    rw [if_neg n]; exact e, Nat.le_succ _, fun _ m => m, fun _ m => .inl m, fun _ m => .inl m, fun _ _ e _ _ => e, fun _ o e => ⟨o, e⟩⟩
theorem SimH.atom (s : SimH T K ρ h H) : SimH T K (rhoV ρ h.nxt v) (bump h) H :=
  ⟨fun l a e => Nat.lt_succ_of_lt (s.lt l a e), fun l u e => by
    show l < h.nxt + 1
    have e : (if l = h.nxt then some v else ρ.sv l) = some u := e
    by_cases z : l = h.nxt
    · omega
    · rw [if_neg z] at e
      have := s.ltv l u e
      omega, s.tb.mv (fun _ _ e _ => e) (fun _ _ e => e) (fun _ _ _ m => m), s.inj, fun l o e => by
    obtain ⟨a, r, q⟩ := s.ob l o e
    exact ⟨a, r, q.le (Le.atom s) fun _ _ z => z⟩, s.am, s.dis⟩
/-! ### the bag hidden, the bag open -/
theorem denL_ints {M : Addr → Prop} : ∀ {ns : List Int} {vs : List V}, DenL T K ρ M H (ns.map MV.int) vs → vs = ns.map V.int
  | [], _, d => by cases d; rfl
  | i :: r, _, d => by
    have d : DenL T K ρ M H (.int i :: r.map MV.int) _ := d
    cases d with
    | cons d1 d2 => cases d1; rw [denL_ints d2]; rfl
theorem ints_denL {M : Addr → Prop} : ∀ ns : List Int, DenL T K ρ M H (ns.map MV.int) (ns.map V.int)
  | [] => .nil
  | i :: r => .cons (.int i) (ints_denL r)
theorem own_same {l : Nat} {o u : MO} (e : h.get l = some u) {a : Addr} : Mu ρ (h.put l o) a ↔ Mu ρ h a := or_congr Iff.rfl (own_put e)
theorem upd_self {H : Hp} {a : Addr} {o : HO} (e : H a = some o) : upd H a o = H := by
  funext b
  by_cases z : b = a
  · rw [z, upd_same, e]
  · rw [upd_ne z]
/-- the heap stays, what is told of the label's object changes -/
theorem SimH.view (s : SimH T K ρ h H) {l : Nat} {a : Addr} {o u : MO} (e : h.get l = some u) (r : ρ.at_ l = some a) (q : ObR T K ρ (Mu ρ (h.put l o)) H a o) : SimH T K ρ (h.put l o) H := by
  obtain ⟨b, hb⟩ := q.at
  have z := s.put (v := b) e r (by rw [upd_self hb]; exact q)
  rw [upd_self hb] at z; exact z
theorem Le.view {l : Nat} {o u : MO} (e : h.get l = some u) : Le ρ h H ρ (h.put l o) H :=
  ⟨fun _ _ e => e, fun _ _ e => e, Nat.le_refl _, fun _ m => m, fun _ m => .inl m, fun _ m => .inl ((own_put e).mp m), fun _ _ e _ _ => e, fun _ o e => ⟨o, e⟩⟩
theorem Le.view' {l : Nat} {o u : MO} (e : h.get l = some u) : Le ρ (h.put l o) H ρ h H :=
  ⟨fun _ _ e => e, fun _ _ e => e, Nat.le_refl _, fun _ m => m, fun _ m => .inl m, fun _ m => .inl ((own_put e).mpr m), fun _ _ e _ _ => e, fun _ o e => ⟨o, e⟩⟩
theorem ObR.open (s : SimH T K ρ h H) {l : Nat} (e : h.get l = some .bag) : ∃ (ns : List Int) (i z q : Int), 0 ≤ i ∧ 0 ≤ z ∧ 0 ≤ q ∧ q < 2147483563 ∧ SimH T K ρ (h.put l (bagL (ns.map .int) i z q)) H := by
  obtain ⟨a, r, b, i, z, q, ns, e1, n, e2, i0, z0, q0, q1⟩ := s.ob l _ e
  refine ⟨ns, i, z, q, i0, z0, q0, q1, s.view e r ⟨_, e1, .cons (.lst (fun m => n ((own_same e).mp m)) e2 (ints_denL ns)) (.cons (.int i) (.cons (.int z) (.cons (.int q) .nil)))⟩⟩
theorem ObR.close (s : SimH T K ρ h H) {l : Nat} {ns : List Int} {i z q : Int} (e : h.get l = some (bagL (ns.map .int) i z q)) (i0 : 0 ≤ i) (z0 : 0 ≤ z) (q0 : 0 ≤ q) (q1 : q < 2147483563) : SimH T K ρ (h.put l .bag) H := by
  obtain ⟨a, r, vs, e1, d⟩ := s.ob l _ e
  refine s.view e r ?_
  cases d with
  | cons d1 d =>
    cases d with
    | cons d2 d =>
      cases d with
      | cons d3 d =>
        cases d with
        | cons d4 d =>
          cases d
          cases d1 with
          | lst n e2 d1 =>
            cases d2; cases d3; cases d4
            rw [denL_ints d1] at e2
            exact ⟨_, i, z, q, ns, e1, fun m => n ((own_same e).mp m), e2, i0, z0, q0, q1⟩
end
/-- a draw: a small one is asked for, a big one is an atom -/
def drawT (n : Int) (h : MH) : Tr ER := match decide (n ≤ 1000) with
  | true => .ask n fun r => okE (.int r) h
  | false => okE (.ati h.nxt) (bump h)
def runPull (xs : List MV) (h : MH) : Tr ER := match xs with
  | [.ref l, .int n] => match h.get l with
    | some .bag => ifT (decide (0 < n) && Nat.ble n.natAbs (10 ^ 30)) (drawT n h)
    | _ => .bad
  | _ => .bad
section
variable {T : Tb} {K : PySem.W.Frag} {ρ : Rho} {h : MH} {H : Hp} {Q : VK} {E : XK}
theorem drawT_ok {n r : Int} (s : SimH T K ρ h H) (r0 : 0 ≤ r) (r1 : r < n) (w : (drawT n h).wp (postF T K ρ h H Q E)) {ρ' : Rho} {H' : Hp} (l : Le ρ h H ρ' h H') (s' : SimH T K ρ' h H') : Q (.int r) H' := by
  unfold drawT at w
  split at w
  · exact w r r0 r1 ρ' H' _ l s' (.int r)
  · exact w (rhoV ρ' h.nxt (.int r)) H' _ (l.trans (Le.atom s')) s'.atom (.ati rhoV_at)
theorem pull_ok {P : Program} {w : World} {mg : Str → Option Value} {base : Heap} {k : Nat} {f : Addr} {fd : FuncData} {ps : List Str} (F : FnOk P w K mg base (L2.CX P w) k f fd ps (spF T K 2 (runDef 3 rPull))) : FnOk P w K mg base (L2.CX P w) k f fd ps (spF T K 2 runPull) := by
  refine F.imp fun vs H Q E h => ?_
  obtain ⟨hl, ρ, xs, h, s, d, w⟩ := h
  refine ⟨hl, ?_⟩
  unfold runPull at w
  split at w
  · rename_i l n
    split at w
    · rename_i e
      obtain ⟨c, w⟩ := ifT_wp w
      obtain ⟨c1, c2⟩ := Bool.and_eq_true_iff.mp c
      have n0 : (0 : Int) < n := of_decide_eq_true c1
      have n1 : n.natAbs ≤ 10 ^ 30 := Nat.le_of_ble_eq_true c2
      obtain ⟨ns, i, z, q, i0, z0, q0, q1, s2⟩ := ObR.open s e
      have e2 : (h.put l (bagL (ns.map .int) i z q)).get l = some (bagL (ns.map .int) i z q) := by rw [put_get e, if_pos rfl]
      obtain ⟨r, i', z', q', r0, r1, i0', z0', q0', q1', hr⟩ := pull_run (n := n) (a := none) (b := none) (c := none) e2 i0 z0 q0 q1 n0 n1
      refine ⟨ρ, _, _, s2, d.le (Le.view e), ?_⟩
      show ((rPull _ _).bind _).wp _
      have hr' : rPull (appS [.ref l, .int n] (slots 3)) (h.put l (bagL (ns.map .int) i z q)) = _ := hr
      rw [hr']
      show postF T K ρ _ H Q E (.ok (.int r) _)
      intro ρ' H' v l' s' dv
      cases dv
      rw [put_put] at l' s'
      have e3 : (h.put l (bagL (ns.map .int) i' z' q')).get l = some (bagL (ns.map .int) i' z' q') := by rw [put_get e, if_pos rfl]
      have s3 := ObR.close s' e3 i0' z0' q0' q1'
      rw [put_put, put_self e] at s3
      exact drawT_ok s r0 r1 w ((Le.view e).trans (l'.trans (Le.view' e))) s3
    · exact w.elim
  · exact w.elim
end
end
end WK
set_option Elab.async false
set_option linter.all false
set_option maxRecDepth 100000
/-! texts' slices and join; callees and classes in bundles -/
namespace WK
noncomputable section
open PySem PySem.Spec PyProof.Rows L2
section
variable {T : Tb} {X : Cx} {E : XW}
/-! ### texts -/
def runSlX (f : RunE) (lo hi : RunO) : RunE := fun ms h => (f ms h).be (fun x h1 => Tr.bo (lo ms h1) (fun l h2 => Tr.bo (hi ms h2) (fun u h3 => match x with
  | .str z => ifT (leB z.length sizeLine) (okE (.str (cutS z l u)) h3)
  | _ => .bad) exE) exE) exE
theorem s_slX {e : Expr} {lo hi : Option Expr} {pos p2 : Pos} {f : RunE} {fl fh : RunO} (he : SE T X E e f) (hl : SO T X E lo fl) (hh : SO T X E hi fh) : SE T X E (.Subscript e (.Slice lo hi none p2) pos) (runSlX f fl fh) :=
  .ofV (peI (pe_slice sl_str he.v hl hh) fun σ H Q ⟨ρ, m, h, s1, s2, w⟩ => ⟨ρ, m, h, s1, s2, Tr.wp_mono (Tr.wp_be w) fun r q => by
    cases r with
    | ex x h1 => exact q
    | ok x h1 =>
      intro ρ1 H1 v l s d
      refine ⟨ρ1, m, h1, s, s2.le l, Tr.wp_mono (Tr.wp_bo q) fun r q => ?_⟩
      cases r with
      | ex x h2 => exact exP.le l q
      | ok lo' h2 =>
        intro ρ2 H2 l2 s'
        refine ⟨ρ2, m, h2, s', s2.le (l.trans l2), Tr.wp_mono (Tr.wp_bo q) fun r q => ?_⟩
        cases r with
        | ex x h3 => exact exP.le (l.trans l2) q
        | ok hi' h3 =>
          intro ρ3 H3 l3 s''
          dsimp only at q
          split at q
          · obtain ⟨c, q⟩ := ifT_wp q
            cases d
            exact ⟨_, rfl, leB_ok c, q ρ3 H3 _ ((l.trans l2).trans l3) s'' (.str _)⟩
          · exact q.elim⟩) fun _ => rfl
def strsM : List MV → Option (List Str)
  | [] => some []
  | .str b :: r => match strsM r with
    | some bs => some (b :: bs)
    | none => none
  | _ => none
theorem strsM_ok {K : PySem.W.Frag} {ρ : Rho} {M : Addr → Prop} {H : Hp} : ∀ {xs : List MV} {vs : List V} {bs : List Str}, strsM xs = some bs → DenL T K ρ M H xs vs → vs = bs.map V.str
  | [], _, _, e, d => by cases e; cases d; rfl
  | .str b :: r, _, _, e, d => by
    have e1 : (match strsM r with
      | some bs => some (b :: bs)
      | none => none) = some _ := e
    cases q : strsM r with
    | none => rw [q] at e1; cases e1
    | some bs =>
      rw [q] at e1; cases e1
      cases d with
      | cons d1 d2 => cases d1; rw [strsM_ok q d2]; rfl
def opJoin (a : Str) (x : MV) (h : MH) : Tr ER := match asQ h x with
  | some xs => match strsM xs with
    | some ys => ifT (leB ((ys.map (·.length)).sum + ys.length * a.length) 16777216) (okE (.str (Str.join a ys)) h)
    | none => .bad
  | none => .bad
/-- a.join(e), a written -/
theorem s_join {a : Str} {j : Nat} {e : Expr} {g : RunE} {p apos pos : Pos} (he : SE T X E e g) (hs : starEach [e] X.env = [(false, eval e X.env)]) (hbase : attributeBase (.Constant (.str a) j p) "join" X.env (eval (.Constant (.str a) j p) X.env) = eval (.Constant (.str a) j p) X.env) (hline : (apos.endLine == pos.line) = true) :
    SE T X E (.Call (.Attribute (.Constant (.str a) j p) "join" apos) [e] [] pos) (run1 g (opJoin a)) :=
  .ofV (peI (pe_join pe_str he.v hs hbase hline) fun σ H Q w => ⟨⟨a, rfl⟩, t_run1 (op := opJoin a) (r := fun y H2 Q => ∃ a0 p, ∃ ys : List Str, V.str a = .str a0 ∧ [y] = [.ref p] ∧ (SqL X.K H2 p (ys.map V.str) ∨ SqT X.K H2 p (ys.map V.str)) ∧ (ys.map (·.length)).sum + ys.length * a0.length ≤ 16777216 ∧ Q (.str (Txt.join a0 ys)) H2) (fun ρ h H x v m E Q s d w => by
    unfold opJoin at w
    split at w
    · rename_i xs e1
      split at w
      · rename_i ys e2
        obtain ⟨c, w⟩ := ifT_wp w
        obtain ⟨b, vs, rfl, r, d1⟩ := den_asQ s e1 d
        have e3 := strsM_ok e2 d1
        subst e3
        exact ⟨_, b, ys, rfl, rfl, r, leB_ok c, by rw [TL.join_eq]; exact post_str s w⟩
      · exact w.elim
    · exact w.elim) σ H Q w⟩) fun _ => rfl
/-! ### callees -/
structure Cal (T : Tb) (P : Program) (w : World) (K : PySem.W.Frag) (mg : Str → Option Value) (base : Heap) (x : Str) (d n : Nat) (run : List MV → MH → Tr ER) : Prop where
  ex : ∃ (f : Addr) (fd : FuncData) (ps : List Str), mg x = some (.ref f) ∧ PySem.W.keepIn K (.ref f) = true ∧ Binds K fd ps [] ∧ ps.length = n ∧ FnOk P w K mg base (L2.CX P w) d f fd ps (spF T K ps.length run)
theorem s_cal {d n : Nat} {run : List MV → MH → Tr ER} {x : Str} {e : Expr} {es : List Expr} {p pos : Pos} {g : RunL} (C : Cal T X.prog X.w X.K X.mg X.base x d n run) (tk : Takes X (wx T X.K E)) (hr : Room d X.A) (hg : Gl X x) (ha : SA T X E (e :: es) g) (hl : (e :: es).length = n) (hx : (x == ("__debug__" : Str)) = false) :
    SE T X E (.Call (.Name x p) (e :: es) [] pos) (runArgs g (runF false [] run)) := by
  obtain ⟨f, fd, ps, h1, h2, h3, h4, h5⟩ := C.ex
  exact s_call (dfl := []) tk h5 hr hg h1 h2 h3 rfl .nil ha (by rw [List.length_nil, Nat.add_zero, h4]; exact hl) hx
theorem takesF : Takes X (wx T X.K EF) := fun _ _ ⟨_, _, _, _, _, _, _, _, _, _, _, _, _, _, _, _, _, _, _, _, _, _, _, w⟩ => w.elim
theorem pass_wx (tk : Takes X (wx T X.K E)) : Passes (L2.CX X.prog X.w) X (fun _ _ _ => False) := passes_call tk fun _ _ _ _ h => h.elim
/-! ### own exceptions' classes -/
structure MkC (T : Tb) (P : Program) (w : World) (K : PySem.W.Frag) (mg : Str → Option Value) (base : Heap) (x : Str) (d c fw : Nat) (n : Nat) (spi : Addr → Sp) : Prop where
  ex : ∃ (B nw ini : String) (l : List Value) (fI : Addr) (fd : FuncData) (ps : List Str), BsF B nw ini l ∧ OxC K nw l (cAd T K c) ∧ PySem.W.findIn K (.ref (cAd T K c)) "__init__" = some (some (.ref fI)) ∧ PySem.W.typeIn K (.ref fI) = some (.type "function") ∧
    mg x = some (.ref (cAd T K c)) ∧ Binds K fd ps [] ∧ FnOk P w K mg base (L2.CX P w) d fI fd ps (spi (cAd T K c))
theorem s_exc1 {d c f fw : Nat} {fn wd x : Str} {e : Expr} {p pos : Pos} {g : RunE} (M : MkC T X.prog X.w X.K X.mg X.base x d c fw 1 fun C => spI1 C fn wd) (tk : Takes X (wx T X.K E)) (hr : Room (d + 1) X.A) (hg : Gl X x) (he : SE T X E e g) (hf : f < T.nm.length) (nf : nmS T f = fn) (hw : fw < T.nm.length) (nw : nmS T fw = "word")
    (hdb : (x == ("__debug__" : Str)) = false) (hn : notStar e = true) : SE T X E (.Call (.Name x p) [e] [] pos) (run1 g (mkX c f fw wd)) := by
  obtain ⟨B, n, ini, l, fI, fd, ps, h1, h2, h3, h4, h5, h6, h7⟩ := M.ex
  exact s_mkX ⟨h1, h2, h3, h4, hw, nw⟩ h7 hr h6 (pass_wx tk) hg h5 he hf nf hdb hn
theorem s_exc0 {d c fw : Nat} {wd x : Str} {p pos : Pos} (M : MkC T X.prog X.w X.K X.mg X.base x d c fw 0 fun C => spI0 C wd) (tk : Takes X (wx T X.K E)) (hr : Room (d + 1) X.A) (hg : Gl X x) (hw : fw < T.nm.length) (nw : nmS T fw = "word")
    (hdb : (x == ("__debug__" : Str)) = false) : SE T X E (.Call (.Name x p) [] [] pos) (mkX0 c fw wd) := by
  obtain ⟨B, n, ini, l, fI, fd, ps, h1, h2, h3, h4, h5, h6, h7⟩ := M.ex
  exact s_mkX0 ⟨h1, h2, h3, h4, hw, nw⟩ h7 hr h6 (pass_wx tk) hg h5 hdb
/-- isinstance(e, D), D an own class by its name -/
structure IsD (T : Tb) (K : PySem.W.Frag) (mg : Str → Option Value) (x : Str) (tbl : List (Nat × Bool)) : Prop where
  ex : ∃ D, mg x = some (.ref D) ∧ IsXOk T K (.ref D) tbl
theorem s_isD {e : Expr} {g : RunE} {n : Str} {tbl : List (Nat × Bool)} {p q pos : Pos} (C : IsD T X.K X.mg n tbl) (he : SE T X E e g) (hst : notStar e = true) (hg : Gl X "isinstance") (hm : X.mg "isinstance" = none) (hgt : Gl X n) (hd : (n == ("__debug__" : Str)) = false) :
    SE T X E (.Call (.Name "isinstance" p) [e, .Name n q] [] pos) (run1 g (opIsX tbl)) := by
  obtain ⟨D, h1, h2⟩ := C.ex
  exact s_isX he hst hg hm hgt h1 hd h2
/-! ### looks at scopes -/
def visB (o : Option NameKind) : Bool := match o with
  | some .local => true | some .cell => true | some .free => true | _ => false
theorem vis_by {sc : Scope} {x : Str} (h : visB (sc.names.lookup x) = true) : Vis sc x := by
  unfold Vis
  cases e : sc.names.lookup x with
  | none => rw [e] at h; cases h
  | some k => rw [e] at h; cases k <;> first | exact .inl rfl | exact .inr (.inl rfl) | exact .inr (.inr rfl) | cases h
def locB (o : Option NameKind) : Bool := match o with
  | some .local => true | some .cell => true | _ => false
theorem loc_by {sc : Scope} {x : Str} (h : locB (sc.names.lookup x) = true) : L2.Loc sc x := by
  unfold L2.Loc
  cases e : sc.names.lookup x with
  | none => rw [e] at h; cases h
  | some k => rw [e] at h; cases k <;> first | exact .inl rfl | exact .inr rfl | cases h
end
end
end WK
set_option Elab.async false
set_option linter.all false
set_option maxRecDepth 100000
set_option maxHeartbeats 0
namespace WK
noncomputable section
open PySem L2
abbrev cN : RunE := fun _ h => okE .non h
abbrev cB (b : Bool) : RunE := fun _ h => okE (.bl b) h
abbrev cS (x : Str) : RunE := fun _ h => okE (.str x) h
abbrev cLeP : Int → Int → Bool := fun i j => decide (i ≤ j)
abbrev cGtP : Int → Int → Bool := fun i j => decide (j < i)
abbrev cGeP : Int → Int → Bool := fun i j => decide (j ≤ i)
abbrev allB2 : List Bool → Bool := fun bs => bs.all id
abbrev anyB2 : List Bool → Bool := fun bs => bs.any id
section
variable {T : Tb} {X : Cx} {E : XW}
theorem cn {j : Nat} {p : Pos} : SE T X E (.Constant .none j p) cN := s_con pe_non (fun _ _ _ => .non) fun _ => rfl
theorem cb {b : Bool} {j : Nat} {p : Pos} : SE T X E (.Constant (.bool b) j p) (cB b) := s_con pe_bl (fun _ _ _ => .bl b) fun _ => rfl
theorem ci {i : Int} {j : Nat} {p : Pos} : SE T X E (.Constant (.int i) j p) (cI i) := s_con pe_int (fun _ _ _ => .int i) fun _ => rfl
theorem cs {x : Str} {j : Nat} {p : Pos} : SE T X E (.Constant (.str x) j p) (cS x) := s_con pe_str (fun _ _ _ => .str x) fun _ => rfl
end
theorem u0 {k : Nat} {A : Around} (hr : Room k A) : A.units < cLine := hr.units0
theorem u64 {k : Nat} {A : Around} (hr : Room k A) : A.units + 64 < cLine := hr.units
theorem u65 {k : Nat} {A : Around} (hr : Room k A) : A.units + 65 < cLine := by have := hr.un; omega
theorem u200 {k : Nat} {A : Around} (hr : Room k A) : A.units + 200 < cLine := by have := hr.un; omega
theorem owns_cx {P : Program} {w : World} {K : PySem.W.Frag} {mg : Str → Option Value} {base : Heap} {N : List Str} {qual : Str} {scope : Scope} {f : Addr} {cdv : Value} {A : Around} {outer : List Env} {s : Shared} {H : Hp} {EK : XK} :
    PassesOwn (model P w) (cxOf (L2.CX P w) P w K mg base N qual scope f cdv A outer s H EK).A (cxOf (L2.CX P w) P w K mg base N qual scope f cdv A outer s H EK).env (cxOf (L2.CX P w) P w K mg base N qual scope f cdv A outer s H EK).xe :=
  passes_of (X := cxOf (L2.CX P w) P w K mg base N qual scope f cdv A outer s H EK) rfl
abbrev FnP (K : PySem.W.Frag) (x : Str) (i : Nat) (f : Addr) (fd : FuncData) : Prop := FunD K x x (defArgs (top i)) (defBody (top i)) (defScope (top i)) [] [] f fd
def cs24 : List Nat := [0, 1, 2, 3, 4, 5, 6, 7, 8, 9, 10, 11, 12, 13, 14, 15, 16, 17, 18, 19, 20, 21, 22, 23]
def tb_InvalidGraph : List (Nat × Bool) := [(0, true), (1, false), (2, false), (3, false), (4, false), (5, false), (6, false), (7, false), (8, false), (9, false), (10, false), (11, false), (12, false), (13, false), (14, false), (15, false), (16, false), (17, false), (18, false), (19, false), (20, false), (21, false), (22, false), (23, false)]
def tb_LimitExceeded : List (Nat × Bool) := [(0, false), (1, true), (2, false), (3, false), (4, false), (5, false), (6, false), (7, false), (8, false), (9, false), (10, false), (11, false), (12, false), (13, false), (14, false), (15, false), (16, false), (17, false), (18, false), (19, false), (20, false), (21, false), (22, false), (23, false)]
def tb_OutOfRange : List (Nat × Bool) := [(0, false), (1, false), (2, true), (3, false), (4, false), (5, false), (6, false), (7, false), (8, false), (9, false), (10, false), (11, false), (12, false), (13, false), (14, false), (15, false), (16, false), (17, false), (18, false), (19, false), (20, false), (21, false), (22, false), (23, false)]
def tb_InvalidRow : List (Nat × Bool) := [(0, false), (1, false), (2, false), (3, true), (4, false), (5, false), (6, false), (7, false), (8, false), (9, false), (10, false), (11, false), (12, false), (13, false), (14, false), (15, false), (16, false), (17, false), (18, false), (19, false), (20, false), (21, false), (22, false), (23, false)]
def tb_InvalidPath : List (Nat × Bool) := [(0, false), (1, false), (2, false), (3, false), (4, true), (5, false), (6, false), (7, false), (8, false), (9, false), (10, false), (11, false), (12, false), (13, false), (14, false), (15, false), (16, false), (17, false), (18, false), (19, false), (20, false), (21, false), (22, false), (23, false)]
def tb_InvalidWidth : List (Nat × Bool) := [(0, false), (1, false), (2, false), (3, false), (4, false), (5, true), (6, false), (7, false), (8, false), (9, false), (10, false), (11, false), (12, false), (13, false), (14, false), (15, false), (16, false), (17, false), (18, false), (19, false), (20, false), (21, false), (22, false), (23, false)]
def tb_InvalidCode : List (Nat × Bool) := [(0, false), (1, false), (2, false), (3, false), (4, false), (5, false), (6, true), (7, false), (8, false), (9, false), (10, false), (11, false), (12, false), (13, false), (14, false), (15, false), (16, false), (17, false), (18, false), (19, false), (20, false), (21, false), (22, false), (23, false)]
def tb_InvalidLength : List (Nat × Bool) := [(0, false), (1, false), (2, false), (3, false), (4, false), (5, false), (6, false), (7, true), (8, false), (9, false), (10, false), (11, false), (12, false), (13, false), (14, false), (15, false), (16, false), (17, false), (18, false), (19, false), (20, false), (21, false), (22, false), (23, false)]
def tb_InvalidCount : List (Nat × Bool) := [(0, false), (1, false), (2, false), (3, false), (4, false), (5, false), (6, false), (7, false), (8, true), (9, false), (10, false), (11, false), (12, false), (13, false), (14, false), (15, false), (16, false), (17, false), (18, false), (19, false), (20, false), (21, false), (22, false), (23, false)]
def tb_GraphMismatch : List (Nat × Bool) := [(0, false), (1, false), (2, false), (3, false), (4, false), (5, false), (6, false), (7, false), (8, false), (9, true), (10, false), (11, false), (12, false), (13, false), (14, false), (15, false), (16, false), (17, false), (18, false), (19, false), (20, false), (21, false), (22, false), (23, false)]
def tb_InvalidStep : List (Nat × Bool) := [(0, false), (1, false), (2, false), (3, false), (4, false), (5, false), (6, false), (7, false), (8, false), (9, false), (10, true), (11, false), (12, false), (13, false), (14, false), (15, false), (16, false), (17, false), (18, false), (19, false), (20, false), (21, false), (22, false), (23, false)]
def tb_NotOneToOne : List (Nat × Bool) := [(0, false), (1, false), (2, false), (3, false), (4, false), (5, false), (6, false), (7, false), (8, false), (9, false), (10, false), (11, true), (12, false), (13, false), (14, false), (15, false), (16, false), (17, false), (18, false), (19, false), (20, false), (21, false), (22, false), (23, false)]
def tb_NotOnto : List (Nat × Bool) := [(0, false), (1, false), (2, false), (3, false), (4, false), (5, false), (6, false), (7, false), (8, false), (9, false), (10, false), (11, false), (12, true), (13, false), (14, false), (15, false), (16, false), (17, false), (18, false), (19, false), (20, false), (21, false), (22, false), (23, false)]
def tb_EndlessOrigins : List (Nat × Bool) := [(0, false), (1, false), (2, false), (3, false), (4, false), (5, false), (6, false), (7, false), (8, false), (9, false), (10, false), (11, false), (12, false), (13, true), (14, false), (15, false), (16, false), (17, false), (18, false), (19, false), (20, false), (21, false), (22, false), (23, false)]
def tb_InvalidName : List (Nat × Bool) := [(0, false), (1, false), (2, false), (3, false), (4, false), (5, false), (6, false), (7, false), (8, false), (9, false), (10, false), (11, false), (12, false), (13, false), (14, true), (15, false), (16, false), (17, false), (18, false), (19, false), (20, false), (21, false), (22, false), (23, false)]
def tb_DuplicateName : List (Nat × Bool) := [(0, false), (1, false), (2, false), (3, false), (4, false), (5, false), (6, false), (7, false), (8, false), (9, false), (10, false), (11, false), (12, false), (13, false), (14, false), (15, true), (16, false), (17, false), (18, false), (19, false), (20, false), (21, false), (22, false), (23, false)]
def tb_CapacityExceeded : List (Nat × Bool) := [(0, false), (1, false), (2, false), (3, false), (4, false), (5, false), (6, false), (7, false), (8, false), (9, false), (10, false), (11, false), (12, false), (13, false), (14, false), (15, false), (16, true), (17, false), (18, false), (19, false), (20, false), (21, false), (22, false), (23, false)]
def tb_InvalidCapacity : List (Nat × Bool) := [(0, false), (1, false), (2, false), (3, false), (4, false), (5, false), (6, false), (7, false), (8, false), (9, false), (10, false), (11, false), (12, false), (13, false), (14, false), (15, false), (16, false), (17, true), (18, false), (19, false), (20, false), (21, false), (22, false), (23, false)]
def tb_NameInUse : List (Nat × Bool) := [(0, false), (1, false), (2, false), (3, false), (4, false), (5, false), (6, false), (7, false), (8, false), (9, false), (10, false), (11, false), (12, false), (13, false), (14, false), (15, false), (16, false), (17, false), (18, true), (19, false), (20, false), (21, false), (22, false), (23, false)]
def tb_InvalidCommand : List (Nat × Bool) := [(0, false), (1, false), (2, false), (3, false), (4, false), (5, false), (6, false), (7, false), (8, false), (9, false), (10, false), (11, false), (12, false), (13, false), (14, false), (15, false), (16, false), (17, false), (18, false), (19, true), (20, false), (21, false), (22, false), (23, false)]
def tb_ParseError : List (Nat × Bool) := [(0, false), (1, false), (2, false), (3, false), (4, false), (5, false), (6, false), (7, false), (8, false), (9, false), (10, false), (11, false), (12, false), (13, false), (14, false), (15, false), (16, false), (17, false), (18, false), (19, false), (20, true), (21, false), (22, false), (23, false)]
def tb_InvalidFile : List (Nat × Bool) := [(0, false), (1, false), (2, false), (3, false), (4, false), (5, false), (6, false), (7, false), (8, false), (9, false), (10, false), (11, false), (12, false), (13, false), (14, false), (15, false), (16, false), (17, false), (18, false), (19, false), (20, false), (21, true), (22, false), (23, false)]
def tb_UnknownName : List (Nat × Bool) := [(0, false), (1, false), (2, false), (3, false), (4, false), (5, false), (6, false), (7, false), (8, false), (9, false), (10, false), (11, false), (12, false), (13, false), (14, false), (15, false), (16, false), (17, false), (18, false), (19, false), (20, false), (21, false), (22, true), (23, false)]
def tb_EmptyHistory : List (Nat × Bool) := [(0, false), (1, false), (2, false), (3, false), (4, false), (5, false), (6, false), (7, false), (8, false), (9, false), (10, false), (11, false), (12, false), (13, false), (14, false), (15, false), (16, false), (17, false), (18, false), (19, false), (20, false), (21, false), (22, false), (23, true)]
def tb_WindowError : List (Nat × Bool) := [(0, true), (1, true), (2, true), (3, true), (4, true), (5, true), (6, true), (7, true), (8, true), (9, true), (10, true), (11, true), (12, true), (13, true), (14, true), (15, true), (16, true), (17, true), (18, true), (19, true), (20, true), (21, true), (22, false), (23, false)]
def tb_Absent : List (Nat × Bool) := [(0, false), (1, false), (2, false), (3, false), (4, false), (5, false), (6, false), (7, false), (8, false), (9, false), (10, false), (11, false), (12, false), (13, false), (14, false), (15, false), (16, false), (17, false), (18, false), (19, false), (20, false), (21, false), (22, true), (23, true)]
def tb_ValueError : List (Nat × Bool) := [(0, true), (1, true), (2, true), (3, true), (4, true), (5, true), (6, true), (7, true), (8, true), (9, true), (10, true), (11, true), (12, true), (13, true), (14, true), (15, true), (16, true), (17, true), (18, true), (19, true), (20, true), (21, true), (22, false), (23, false)]
def tb_LookupError : List (Nat × Bool) := [(0, false), (1, false), (2, false), (3, false), (4, false), (5, false), (6, false), (7, false), (8, false), (9, false), (10, false), (11, false), (12, false), (13, false), (14, false), (15, false), (16, false), (17, false), (18, false), (19, false), (20, false), (21, false), (22, true), (23, true)]
def tb_KeyError : List (Nat × Bool) := [(0, false), (1, false), (2, false), (3, false), (4, false), (5, false), (6, false), (7, false), (8, false), (9, false), (10, false), (11, false), (12, false), (13, false), (14, false), (15, false), (16, false), (17, false), (18, false), (19, false), (20, false), (21, false), (22, false), (23, false)]
def tb_IndexError : List (Nat × Bool) := [(0, false), (1, false), (2, false), (3, false), (4, false), (5, false), (6, false), (7, false), (8, false), (9, false), (10, false), (11, false), (12, false), (13, false), (14, false), (15, false), (16, false), (17, false), (18, false), (19, false), (20, false), (21, false), (22, false), (23, false)]
def nm56 : List Str := ["word", "place", "limit", "number", "length", "count", "name", "position", "line"]
theorem nm_at {T : Tb} {l : List Str} {f : Nat} {n : Str} (h : T.nm = l) (e : l.getD f "" = n) : nmS T f = n := by
  unfold nmS; rw [h]; exact e
theorem nm_lt {T : Tb} {l : List Str} {f : Nat} (h : T.nm = l) (e : f < l.length) : f < T.nm.length := by rw [h]; exact e
abbrev N_of : List Str := ["_law_bag_here", "_law_things"]
theorem sc_of : FnScope N_of ["_law_bag_here", "_law_things"] (defScope (top 30)) := ⟨rfl, rfl, rfl, by decide +kernel, rfl, by decide +kernel, by decide +kernel⟩
def r_of : RunS := (runRet (run2 (runVar 1) (runArgs (runCons (runVar 0) (runCons (runArgs (runCons (runVar 1) runNil) kLen) runNil)) (runF false [] runPull)) opIx))
theorem ok_of {P : Program} {w : World} {K : PySem.W.Frag} {mg : Str → Option Value} {base : Heap} {T : Tb} (c__law_pull : Cal T P w K mg base "_law_pull" 1 2 runPull) (m_len : mg "len" = none) {f : Addr} {fd : FuncData} (F : FnP K "_law_of" 30 f fd) :
    FnOk P w K mg base (L2.CX P w) 2 f fd ["_law_bag_here", "_law_things"] (spF T K 2 (runDef 0 r_of)) :=
  fn_run F sc_of rfl fun cdv A outer s H EK E hr tk =>
    (ss_one (s_ret (s_ix (s_var rfl (vis_by rfl) rfl rfl) (s_cal c__law_pull tk (hr.mono (by decide)) rfl (a_cons (s_var rfl (vis_by rfl) rfl rfl) (a_cons (s_biB cr_len kLen_ok rfl m_len boot_len (a_cons (s_var rfl (vis_by rfl) rfl rfl) a_nil rfl) (by decide) rfl) a_nil rfl) rfl) rfl rfl) rfl)))
abbrev N_like0 : List Str := ["_law_found", "_law_due", "_law_one", "_law_other"]
theorem sc_like0 : FnScope N_like0 ["_law_found", "_law_due"] (defScope (top 31)) := ⟨rfl, rfl, rfl, by decide +kernel, rfl, by decide +kernel, by decide +kernel⟩
def r_like0 : RunS := (runSeq (runIf (run1 (runVar 1) (opIsi2 .listT .tupleT)) (runSeq (runIf (runOr (run2 (run1 (runVar 0) (opIsi .listT)) (run1 (runVar 1) (opIsi .listT)) (cOp cNe)) (run2 (run1 (runVar 0) (opIsi .tupleT)) (run1 (runVar 1) (opIsi .tupleT)) (cOp cNe))) (runRet (cB false)) nxS)
    (runRet (runAnd (run2 (runArgs (runCons (runVar 0) runNil) kLen) (runArgs (runCons (runVar 1) runNil) kLen) (cOp cEq)) (runArgs (runCons (runLc false (runZip (runCons (runVar 0) (runCons (runVar 1) runNil))) (gTp 2 (gsCons (gNm 2) (gsCons (gNm 3) gsNil))) yesR badE) runNil) (kBools allB2))))) nxS)
    (runSeq (runIf (runOr (run2 (runVar 0) cN (cOp cIsN)) (run2 (runVar 1) cN (cOp cIsN))) (runRet (runAnd (run2 (runVar 0) cN (cOp cIsN)) (run2 (runVar 1) cN (cOp cIsN)))) nxS)
    (runSeq (runIf (runOr (run2 (run1 (runVar 0) (opIsi .boolT)) (run1 (runVar 1) (opIsi .boolT)) (cOp cNe)) (run2 (run1 (runVar 0) (opIsi .intT)) (run1 (runVar 1) (opIsi .intT)) (cOp cNe))) (runRet (cB false)) nxS)
    (runRet (runAnd (run2 (run1 (runVar 0) (opIsi .strT)) (run1 (runVar 1) (opIsi .strT)) (cOp cEq)) (run2 (runVar 0) (runVar 1) (cOp cEq)))))))
theorem ok_like0 {P : Program} {w : World} {K : PySem.W.Frag} {mg : Str → Option Value} {base : Heap} {T : Tb} (m_all : mg "all" = none) (m_bool : mg "bool" = none) (m_int : mg "int" = none) (m_isinstance : mg "isinstance" = none) (m_len : mg "len" = none) (m_list : mg "list" = none) (m_str : mg "str" = none) (m_tuple : mg "tuple" = none) (m_zip : mg "zip" = none) {f : Addr} {fd : FuncData} (F : FnP K "_law_like" 31 f fd) :
    FnOk P w K mg base (L2.CX P w) 1 f fd ["_law_found", "_law_due"] (spF T K 2 (runDef 2 r_like0)) :=
  fn_run F sc_like0 rfl fun cdv A outer s H EK E hr tk =>
    (ss_cons (s_if (s_isiTy2 (t := .listT) (t' := .tupleT) (s_var rfl (vis_by rfl) rfl rfl) rfl rfl m_isinstance rfl m_list (by decide +kernel) (by decide) rfl rfl m_tuple (by decide +kernel) (by decide) rfl) (ss_cons (s_if (s_bool (sb_or (s_cmp (op_neA (u64 hr)) cNe_ok (s_isiTy (t := .listT) (s_var rfl (vis_by rfl) rfl rfl) rfl rfl m_isinstance rfl m_list (by decide +kernel) (by decide) rfl) (s_isiTy (t := .listT) (s_var rfl (vis_by rfl) rfl rfl) rfl rfl m_isinstance rfl m_list (by decide +kernel) (by decide) rfl) rfl) (sb_or1 (s_cmp (op_neA (u64 hr)) cNe_ok (s_isiTy (t := .tupleT) (s_var rfl (vis_by rfl) rfl rfl) rfl rfl m_isinstance rfl m_tuple (by decide +kernel) (by decide) rfl) (s_isiTy (t := .tupleT) (s_var rfl (vis_by rfl) rfl rfl) rfl rfl m_isinstance rfl m_tuple (by decide +kernel) (by decide) rfl) rfl)))) (ss_one (s_ret cb)) ss_nil)
    (ss_one (s_ret (s_bool (sb_and (s_cmp (op_eqA (u64 hr)) cEq_ok (s_biB cr_len kLen_ok rfl m_len boot_len (a_cons (s_var rfl (vis_by rfl) rfl rfl) a_nil rfl) (by decide) rfl) (s_biB cr_len kLen_ok rfl m_len boot_len (a_cons (s_var rfl (vis_by rfl) rfl rfl) a_nil rfl) (by decide) rfl) rfl) (sb_and1 (s_biB (cr_all rfl) (kBools_ok allB2) rfl m_all (by decide +kernel) (a_cons (s_lc rfl sc_like0.nd (i_zip rfl m_zip (a_cons (s_var rfl (vis_by rfl) rfl rfl) (a_cons (s_var rfl (vis_by rfl) rfl rfl) a_nil rfl) rfl)) (own := [("_law_one", 2), ("_law_other", 3)]) (blkOk_by (N := N_like0) (sc := (defScope (top 31))) (by decide +kernel)) (fun _ _ _ _ _ => (pg_tup rfl (pgs_cons (pg_name sc_like0.nd rfl (loc_by rfl) (.inr rfl)) (pgs_cons (pg_name sc_like0.nd rfl (loc_by rfl) (.inr rfl)) pgs_nil rfl) rfl) rfl rfl)) gc_2 (fun _ _ _ _ _ => pts_nil) ts_yes (fun _ _ _ _ _ => (z_e _)) (fun _ => rfl)) a_nil rfl) (by decide) rfl))))))) ss_nil)
    (ss_cons (s_if (s_bool (sb_or (s_cmp op_isN cIsN_ok (s_var rfl (vis_by rfl) rfl rfl) cn rfl) (sb_or1 (s_cmp op_isN cIsN_ok (s_var rfl (vis_by rfl) rfl rfl) cn rfl)))) (ss_one (s_ret (s_bool (sb_and (s_cmp op_isN cIsN_ok (s_var rfl (vis_by rfl) rfl rfl) cn rfl) (sb_and1 (s_cmp op_isN cIsN_ok (s_var rfl (vis_by rfl) rfl rfl) cn rfl)))))) ss_nil)
    (ss_cons (s_if (s_bool (sb_or (s_cmp (op_neA (u64 hr)) cNe_ok (s_isiTy (t := .boolT) (s_var rfl (vis_by rfl) rfl rfl) rfl rfl m_isinstance rfl m_bool (by decide +kernel) (by decide) rfl) (s_isiTy (t := .boolT) (s_var rfl (vis_by rfl) rfl rfl) rfl rfl m_isinstance rfl m_bool (by decide +kernel) (by decide) rfl) rfl) (sb_or1 (s_cmp (op_neA (u64 hr)) cNe_ok (s_isiTy (t := .intT) (s_var rfl (vis_by rfl) rfl rfl) rfl rfl m_isinstance rfl m_int (by decide +kernel) (by decide) rfl) (s_isiTy (t := .intT) (s_var rfl (vis_by rfl) rfl rfl) rfl rfl m_isinstance rfl m_int (by decide +kernel) (by decide) rfl) rfl)))) (ss_one (s_ret cb)) ss_nil)
    (ss_one (s_ret (s_bool (sb_and (s_cmp (op_eqA (u64 hr)) cEq_ok (s_isiTy (t := .strT) (s_var rfl (vis_by rfl) rfl rfl) rfl rfl m_isinstance rfl m_str (by decide +kernel) (by decide) rfl) (s_isiTy (t := .strT) (s_var rfl (vis_by rfl) rfl rfl) rfl rfl m_isinstance rfl m_str (by decide +kernel) (by decide) rfl) rfl) (sb_and1 (s_cmp (op_eqA (u64 hr)) cEq_ok (s_var rfl (vis_by rfl) rfl rfl) (s_var rfl (vis_by rfl) rfl rfl) rfl)))))))))
abbrev N_like : List Str := ["_law_found", "_law_due", "_law_one", "_law_other"]
theorem sc_like : FnScope N_like ["_law_found", "_law_due"] (defScope (top 31)) := ⟨rfl, rfl, rfl, by decide +kernel, rfl, by decide +kernel, by decide +kernel⟩
def r_like : RunS := (runSeq (runIf (run1 (runVar 1) (opIsi2 .listT .tupleT)) (runSeq (runIf (runOr (run2 (run1 (runVar 0) (opIsi .listT)) (run1 (runVar 1) (opIsi .listT)) (cOp cNe)) (run2 (run1 (runVar 0) (opIsi .tupleT)) (run1 (runVar 1) (opIsi .tupleT)) (cOp cNe))) (runRet (cB false)) nxS)
    (runRet (runAnd (run2 (runArgs (runCons (runVar 0) runNil) kLen) (runArgs (runCons (runVar 1) runNil) kLen) (cOp cEq)) (runArgs (runCons (runLc false (runZip (runCons (runVar 0) (runCons (runVar 1) runNil))) (gTp 2 (gsCons (gNm 2) (gsCons (gNm 3) gsNil))) yesR (runArgs (runCons (runVar 2) (runCons (runVar 3) runNil)) (runF false [] (runDef 2 r_like0)))) runNil) (kBools allB2))))) nxS)
    (runSeq (runIf (runOr (run2 (runVar 0) cN (cOp cIsN)) (run2 (runVar 1) cN (cOp cIsN))) (runRet (runAnd (run2 (runVar 0) cN (cOp cIsN)) (run2 (runVar 1) cN (cOp cIsN)))) nxS)
    (runSeq (runIf (runOr (run2 (run1 (runVar 0) (opIsi .boolT)) (run1 (runVar 1) (opIsi .boolT)) (cOp cNe)) (run2 (run1 (runVar 0) (opIsi .intT)) (run1 (runVar 1) (opIsi .intT)) (cOp cNe))) (runRet (cB false)) nxS)
    (runRet (runAnd (run2 (run1 (runVar 0) (opIsi .strT)) (run1 (runVar 1) (opIsi .strT)) (cOp cEq)) (run2 (runVar 0) (runVar 1) (cOp cEq)))))))
theorem ok_like {P : Program} {w : World} {K : PySem.W.Frag} {mg : Str → Option Value} {base : Heap} {T : Tb} (c__law_like : Cal T P w K mg base "_law_like" 1 2 (runDef 2 r_like0)) (m_all : mg "all" = none) (m_bool : mg "bool" = none) (m_int : mg "int" = none) (m_isinstance : mg "isinstance" = none) (m_len : mg "len" = none) (m_list : mg "list" = none) (m_str : mg "str" = none) (m_tuple : mg "tuple" = none) (m_zip : mg "zip" = none) {f : Addr} {fd : FuncData} (F : FnP K "_law_like" 31 f fd) :
    FnOk P w K mg base (L2.CX P w) 2 f fd ["_law_found", "_law_due"] (spF T K 2 (runDef 2 r_like)) :=
  fn_run F sc_like rfl fun cdv A outer s H EK E hr tk =>
    (ss_cons (s_if (s_isiTy2 (t := .listT) (t' := .tupleT) (s_var rfl (vis_by rfl) rfl rfl) rfl rfl m_isinstance rfl m_list (by decide +kernel) (by decide) rfl rfl m_tuple (by decide +kernel) (by decide) rfl) (ss_cons (s_if (s_bool (sb_or (s_cmp (op_neA (u64 hr)) cNe_ok (s_isiTy (t := .listT) (s_var rfl (vis_by rfl) rfl rfl) rfl rfl m_isinstance rfl m_list (by decide +kernel) (by decide) rfl) (s_isiTy (t := .listT) (s_var rfl (vis_by rfl) rfl rfl) rfl rfl m_isinstance rfl m_list (by decide +kernel) (by decide) rfl) rfl) (sb_or1 (s_cmp (op_neA (u64 hr)) cNe_ok (s_isiTy (t := .tupleT) (s_var rfl (vis_by rfl) rfl rfl) rfl rfl m_isinstance rfl m_tuple (by decide +kernel) (by decide) rfl) (s_isiTy (t := .tupleT) (s_var rfl (vis_by rfl) rfl rfl) rfl rfl m_isinstance rfl m_tuple (by decide +kernel) (by decide) rfl) rfl)))) (ss_one (s_ret cb)) ss_nil)
    (ss_one (s_ret (s_bool (sb_and (s_cmp (op_eqA (u64 hr)) cEq_ok (s_biB cr_len kLen_ok rfl m_len boot_len (a_cons (s_var rfl (vis_by rfl) rfl rfl) a_nil rfl) (by decide) rfl) (s_biB cr_len kLen_ok rfl m_len boot_len (a_cons (s_var rfl (vis_by rfl) rfl rfl) a_nil rfl) (by decide) rfl) rfl) (sb_and1 (s_biB (cr_all rfl) (kBools_ok allB2) rfl m_all (by decide +kernel) (a_cons (s_lc rfl sc_like.nd (i_zip rfl m_zip (a_cons (s_var rfl (vis_by rfl) rfl rfl) (a_cons (s_var rfl (vis_by rfl) rfl rfl) a_nil rfl) rfl)) (own := [("_law_one", 2), ("_law_other", 3)]) (blkOk_by (N := N_like) (sc := (defScope (top 31))) (by decide +kernel)) (fun _ _ _ _ _ => (pg_tup rfl (pgs_cons (pg_name sc_like.nd rfl (loc_by rfl) (.inr rfl)) (pgs_cons (pg_name sc_like.nd rfl (loc_by rfl) (.inr rfl)) pgs_nil rfl) rfl) rfl rfl)) gc_2 (fun _ _ _ _ _ => pts_nil) ts_yes (fun _ _ _ _ _ => (s_cal c__law_like takesF (hr.mono (by decide)) rfl (a_cons (s_var rfl (vis_by rfl) rfl rfl) (a_cons (s_var rfl (vis_by rfl) rfl rfl) a_nil rfl) rfl) rfl rfl)) (fun _ => rfl)) a_nil rfl) (by decide) rfl))))))) ss_nil)
    (ss_cons (s_if (s_bool (sb_or (s_cmp op_isN cIsN_ok (s_var rfl (vis_by rfl) rfl rfl) cn rfl) (sb_or1 (s_cmp op_isN cIsN_ok (s_var rfl (vis_by rfl) rfl rfl) cn rfl)))) (ss_one (s_ret (s_bool (sb_and (s_cmp op_isN cIsN_ok (s_var rfl (vis_by rfl) rfl rfl) cn rfl) (sb_and1 (s_cmp op_isN cIsN_ok (s_var rfl (vis_by rfl) rfl rfl) cn rfl)))))) ss_nil)
    (ss_cons (s_if (s_bool (sb_or (s_cmp (op_neA (u64 hr)) cNe_ok (s_isiTy (t := .boolT) (s_var rfl (vis_by rfl) rfl rfl) rfl rfl m_isinstance rfl m_bool (by decide +kernel) (by decide) rfl) (s_isiTy (t := .boolT) (s_var rfl (vis_by rfl) rfl rfl) rfl rfl m_isinstance rfl m_bool (by decide +kernel) (by decide) rfl) rfl) (sb_or1 (s_cmp (op_neA (u64 hr)) cNe_ok (s_isiTy (t := .intT) (s_var rfl (vis_by rfl) rfl rfl) rfl rfl m_isinstance rfl m_int (by decide +kernel) (by decide) rfl) (s_isiTy (t := .intT) (s_var rfl (vis_by rfl) rfl rfl) rfl rfl m_isinstance rfl m_int (by decide +kernel) (by decide) rfl) rfl)))) (ss_one (s_ret cb)) ss_nil)
    (ss_one (s_ret (s_bool (sb_and (s_cmp (op_eqA (u64 hr)) cEq_ok (s_isiTy (t := .strT) (s_var rfl (vis_by rfl) rfl rfl) rfl rfl m_isinstance rfl m_str (by decide +kernel) (by decide) rfl) (s_isiTy (t := .strT) (s_var rfl (vis_by rfl) rfl rfl) rfl rfl m_isinstance rfl m_str (by decide +kernel) (by decide) rfl) rfl) (sb_and1 (s_cmp (op_eqA (u64 hr)) cEq_ok (s_var rfl (vis_by rfl) rfl rfl) (s_var rfl (vis_by rfl) rfl rfl) rfl)))))))))
abbrev N_flags : List Str := ["_law_e", "_law_found"]
theorem sc_flags : FnScope N_flags ["_law_e"] (defScope (top 34)) := ⟨rfl, rfl, rfl, by decide +kernel, rfl, by decide +kernel, by decide +kernel⟩
def r_flags : RunS := (runSeq (runAsg (runArgs (runCons (run1 (runVar 0) (opIsX tb_InvalidGraph)) (runCons (run1 (runVar 0) (opIsX tb_InvalidRow)) (runCons (run1 (runVar 0) (opIsX tb_InvalidPath)) runNil))) (kLst false)) (gNm 1))
    (runSeq (runAsg (run2 (runVar 1) (runArgs (runCons (run1 (runVar 0) (opIsX tb_InvalidCode)) (runCons (run1 (runVar 0) (opIsX tb_LimitExceeded)) (runCons (run1 (runVar 0) (opIsX tb_CapacityExceeded)) runNil))) (kLst false)) (opAdd false)) (gNm 1))
    (runSeq (runAsg (run2 (runVar 1) (runArgs (runCons (run1 (runVar 0) (opIsX tb_OutOfRange)) (runCons (run1 (runVar 0) (opIsX tb_InvalidWidth)) (runCons (run1 (runVar 0) (opIsX tb_InvalidCapacity)) runNil))) (kLst false)) (opAdd false)) (gNm 1))
    (runSeq (runAsg (run2 (runVar 1) (runArgs (runCons (run1 (runVar 0) (opIsX tb_InvalidLength)) (runCons (run1 (runVar 0) (opIsX tb_InvalidCount)) (runCons (run1 (runVar 0) (opIsX tb_InvalidCommand)) runNil))) (kLst false)) (opAdd false)) (gNm 1))
    (runSeq (runAsg (run2 (runVar 1) (runArgs (runCons (run1 (runVar 0) (opIsX tb_InvalidFile)) (runCons (run1 (runVar 0) (opIsX tb_GraphMismatch)) (runCons (run1 (runVar 0) (opIsX tb_InvalidStep)) runNil))) (kLst false)) (opAdd false)) (gNm 1))
    (runSeq (runAsg (run2 (runVar 1) (runArgs (runCons (run1 (runVar 0) (opIsX tb_NotOneToOne)) (runCons (run1 (runVar 0) (opIsX tb_NotOnto)) (runCons (run1 (runVar 0) (opIsX tb_EndlessOrigins)) runNil))) (kLst false)) (opAdd false)) (gNm 1))
    (runSeq (runAsg (run2 (runVar 1) (runArgs (runCons (run1 (runVar 0) (opIsX tb_ParseError)) (runCons (run1 (runVar 0) (opIsX tb_InvalidName)) (runCons (run1 (runVar 0) (opIsX tb_DuplicateName)) runNil))) (kLst false)) (opAdd false)) (gNm 1))
    (runSeq (runAsg (run2 (runVar 1) (runArgs (runCons (run1 (runVar 0) (opIsX tb_NameInUse)) (runCons (run1 (runVar 0) (opIsX tb_UnknownName)) (runCons (run1 (runVar 0) (opIsX tb_EmptyHistory)) runNil))) (kLst false)) (opAdd false)) (gNm 1))
    (runRet (runVar 1))))))))))
theorem ok_flags {P : Program} {w : World} {K : PySem.W.Frag} {mg : Str → Option Value} {base : Heap} {T : Tb} (is_CapacityExceeded : IsD T K mg "CapacityExceeded" tb_CapacityExceeded) (is_DuplicateName : IsD T K mg "DuplicateName" tb_DuplicateName) (is_EmptyHistory : IsD T K mg "EmptyHistory" tb_EmptyHistory) (is_EndlessOrigins : IsD T K mg "EndlessOrigins" tb_EndlessOrigins) (is_GraphMismatch : IsD T K mg "GraphMismatch" tb_GraphMismatch) (is_InvalidCapacity : IsD T K mg "InvalidCapacity" tb_InvalidCapacity) (is_InvalidCode : IsD T K mg "InvalidCode" tb_InvalidCode) (is_InvalidCommand : IsD T K mg "InvalidCommand" tb_InvalidCommand) (is_InvalidCount : IsD T K mg "InvalidCount" tb_InvalidCount) (is_InvalidFile : IsD T K mg "InvalidFile" tb_InvalidFile) (is_InvalidGraph : IsD T K mg "InvalidGraph" tb_InvalidGraph) (is_InvalidLength : IsD T K mg "InvalidLength" tb_InvalidLength) (is_InvalidName : IsD T K mg "InvalidName" tb_InvalidName) (is_InvalidPath : IsD T K mg "InvalidPath" tb_InvalidPath) (is_InvalidRow : IsD T K mg "InvalidRow" tb_InvalidRow) (is_InvalidStep : IsD T K mg "InvalidStep" tb_InvalidStep) (is_InvalidWidth : IsD T K mg "InvalidWidth" tb_InvalidWidth) (is_LimitExceeded : IsD T K mg "LimitExceeded" tb_LimitExceeded) (is_NameInUse : IsD T K mg "NameInUse" tb_NameInUse) (is_NotOneToOne : IsD T K mg "NotOneToOne" tb_NotOneToOne) (is_NotOnto : IsD T K mg "NotOnto" tb_NotOnto) (is_OutOfRange : IsD T K mg "OutOfRange" tb_OutOfRange) (is_ParseError : IsD T K mg "ParseError" tb_ParseError) (is_UnknownName : IsD T K mg "UnknownName" tb_UnknownName) (m_isinstance : mg "isinstance" = none) {f : Addr} {fd : FuncData} (F : FnP K "_law_flags" 34 f fd) :
    FnOk P w K mg base (L2.CX P w) 1 f fd ["_law_e"] (spF T K 1 (runDef 1 r_flags)) :=
  fn_run F sc_flags rfl fun cdv A outer s H EK E hr tk =>
    (ss_cons (s_asg (s_lst false (a_cons (s_isD is_InvalidGraph (s_var rfl (vis_by rfl) rfl rfl) rfl rfl m_isinstance rfl rfl) (a_cons (s_isD is_InvalidRow (s_var rfl (vis_by rfl) rfl rfl) rfl rfl m_isinstance rfl rfl) (a_cons (s_isD is_InvalidPath (s_var rfl (vis_by rfl) rfl rfl) rfl rfl m_isinstance rfl rfl) a_nil rfl) rfl) rfl) (by decide)) (g_name sc_flags.nd rfl (loc_by rfl) (.inl rfl)) rfl rfl rfl)
    (ss_cons (s_asg (s_bin op_addA (opAdd_ok false) (s_var rfl (vis_by rfl) rfl rfl) (s_lst false (a_cons (s_isD is_InvalidCode (s_var rfl (vis_by rfl) rfl rfl) rfl rfl m_isinstance rfl rfl) (a_cons (s_isD is_LimitExceeded (s_var rfl (vis_by rfl) rfl rfl) rfl rfl m_isinstance rfl rfl) (a_cons (s_isD is_CapacityExceeded (s_var rfl (vis_by rfl) rfl rfl) rfl rfl m_isinstance rfl rfl) a_nil rfl) rfl) rfl) (by decide))) (g_name sc_flags.nd rfl (loc_by rfl) (.inl rfl)) rfl rfl rfl)
    (ss_cons (s_asg (s_bin op_addA (opAdd_ok false) (s_var rfl (vis_by rfl) rfl rfl) (s_lst false (a_cons (s_isD is_OutOfRange (s_var rfl (vis_by rfl) rfl rfl) rfl rfl m_isinstance rfl rfl) (a_cons (s_isD is_InvalidWidth (s_var rfl (vis_by rfl) rfl rfl) rfl rfl m_isinstance rfl rfl) (a_cons (s_isD is_InvalidCapacity (s_var rfl (vis_by rfl) rfl rfl) rfl rfl m_isinstance rfl rfl) a_nil rfl) rfl) rfl) (by decide))) (g_name sc_flags.nd rfl (loc_by rfl) (.inl rfl)) rfl rfl rfl)
    (ss_cons (s_asg (s_bin op_addA (opAdd_ok false) (s_var rfl (vis_by rfl) rfl rfl) (s_lst false (a_cons (s_isD is_InvalidLength (s_var rfl (vis_by rfl) rfl rfl) rfl rfl m_isinstance rfl rfl) (a_cons (s_isD is_InvalidCount (s_var rfl (vis_by rfl) rfl rfl) rfl rfl m_isinstance rfl rfl) (a_cons (s_isD is_InvalidCommand (s_var rfl (vis_by rfl) rfl rfl) rfl rfl m_isinstance rfl rfl) a_nil rfl) rfl) rfl) (by decide))) (g_name sc_flags.nd rfl (loc_by rfl) (.inl rfl)) rfl rfl rfl)
    (ss_cons (s_asg (s_bin op_addA (opAdd_ok false) (s_var rfl (vis_by rfl) rfl rfl) (s_lst false (a_cons (s_isD is_InvalidFile (s_var rfl (vis_by rfl) rfl rfl) rfl rfl m_isinstance rfl rfl) (a_cons (s_isD is_GraphMismatch (s_var rfl (vis_by rfl) rfl rfl) rfl rfl m_isinstance rfl rfl) (a_cons (s_isD is_InvalidStep (s_var rfl (vis_by rfl) rfl rfl) rfl rfl m_isinstance rfl rfl) a_nil rfl) rfl) rfl) (by decide))) (g_name sc_flags.nd rfl (loc_by rfl) (.inl rfl)) rfl rfl rfl)
    (ss_cons (s_asg (s_bin op_addA (opAdd_ok false) (s_var rfl (vis_by rfl) rfl rfl) (s_lst false (a_cons (s_isD is_NotOneToOne (s_var rfl (vis_by rfl) rfl rfl) rfl rfl m_isinstance rfl rfl) (a_cons (s_isD is_NotOnto (s_var rfl (vis_by rfl) rfl rfl) rfl rfl m_isinstance rfl rfl) (a_cons (s_isD is_EndlessOrigins (s_var rfl (vis_by rfl) rfl rfl) rfl rfl m_isinstance rfl rfl) a_nil rfl) rfl) rfl) (by decide))) (g_name sc_flags.nd rfl (loc_by rfl) (.inl rfl)) rfl rfl rfl)
    (ss_cons (s_asg (s_bin op_addA (opAdd_ok false) (s_var rfl (vis_by rfl) rfl rfl) (s_lst false (a_cons (s_isD is_ParseError (s_var rfl (vis_by rfl) rfl rfl) rfl rfl m_isinstance rfl rfl) (a_cons (s_isD is_InvalidName (s_var rfl (vis_by rfl) rfl rfl) rfl rfl m_isinstance rfl rfl) (a_cons (s_isD is_DuplicateName (s_var rfl (vis_by rfl) rfl rfl) rfl rfl m_isinstance rfl rfl) a_nil rfl) rfl) rfl) (by decide))) (g_name sc_flags.nd rfl (loc_by rfl) (.inl rfl)) rfl rfl rfl)
    (ss_cons (s_asg (s_bin op_addA (opAdd_ok false) (s_var rfl (vis_by rfl) rfl rfl) (s_lst false (a_cons (s_isD is_NameInUse (s_var rfl (vis_by rfl) rfl rfl) rfl rfl m_isinstance rfl rfl) (a_cons (s_isD is_UnknownName (s_var rfl (vis_by rfl) rfl rfl) rfl rfl m_isinstance rfl rfl) (a_cons (s_isD is_EmptyHistory (s_var rfl (vis_by rfl) rfl rfl) rfl rfl m_isinstance rfl rfl) a_nil rfl) rfl) rfl) (by decide))) (g_name sc_flags.nd rfl (loc_by rfl) (.inl rfl)) rfl rfl rfl)
    (ss_one (s_ret (s_var rfl (vis_by rfl) rfl rfl)))))))))))
abbrev N_pool : List Str := ["_law_bag_here", "_law_letters", "_law_stem", "_law_at", "_law_first", "_law_k"]
theorem sc_pool : FnScope N_pool ["_law_bag_here"] (defScope (top 33)) := ⟨rfl, rfl, rfl, by decide +kernel, rfl, by decide +kernel, by decide +kernel⟩
def r_pool : RunS := (runSeq (runAsg (cS "abcdefghijklmnopqrstuvwxyz") (gNm 1))
    (runSeq (runAsg (run1 (runLc false (runRng1 (runCons (runArgs (runCons (runVar 0) (runCons (cI 5) runNil)) (runF false [] runPull)) runNil)) (gNm 5) yesR (run2 (runVar 1) (runArgs (runCons (runVar 0) (runCons (cI 26) runNil)) (runF false [] runPull)) opIx)) (opJoin "")) (gNm 2))
    (runSeq (runAsg (runArgs (runCons (runArgs (runCons (runVar 0) (runCons (run2 (runArgs (runCons (runVar 2) runNil) kLen) (cI 1) (opAdd false)) runNil)) (runF false [] runPull)) (runCons (runArgs (runCons (runVar 0) (runCons (cI 26) runNil)) (runF false [] runPull)) runNil)) kTup) (gTp 2 (gsCons (gNm 3) (gsCons (gNm 4) gsNil))))
    (runRet (runLc false (runRng1 (runCons (cI 7) runNil)) (gNm 5) yesR (run2 (run2 (runSlX (runVar 2) runNoP (runPt (runVar 3))) (run2 (runVar 1) (run2 (run2 (runVar 4) (run2 (cI 3) (runVar 5) (opMul false)) (opAdd false)) (cI 26) opMod) opIx) (opAdd false)) (runSlX (runVar 2) (runPt (runVar 3)) runNoP) (opAdd false)))))))
theorem ok_pool {P : Program} {w : World} {K : PySem.W.Frag} {mg : Str → Option Value} {base : Heap} {T : Tb} (c__law_pull : Cal T P w K mg base "_law_pull" 1 2 runPull) (m_len : mg "len" = none) (m_range : mg "range" = none) {f : Addr} {fd : FuncData} (F : FnP K "_law_pool" 33 f fd) :
    FnOk P w K mg base (L2.CX P w) 2 f fd ["_law_bag_here"] (spF T K 1 (runDef 5 r_pool)) :=
  fn_run F sc_pool rfl fun cdv A outer s H EK E hr tk =>
    (ss_cons (s_asg cs (g_name sc_pool.nd rfl (loc_by rfl) (.inl rfl)) rfl rfl rfl)
    (ss_cons (s_asg (s_join (s_lc rfl sc_pool.nd (i_range1 rfl m_range (a_cons (s_cal c__law_pull tk (hr.mono (by decide)) rfl (a_cons (s_var rfl (vis_by rfl) rfl rfl) (a_cons ci a_nil rfl) rfl) rfl rfl) a_nil rfl) rfl) (own := [("_law_k", 5)]) (blkOk_by (N := N_pool) (sc := (defScope (top 33))) (by decide +kernel)) (fun _ _ _ _ _ => (pg_name sc_pool.nd rfl (loc_by rfl) (.inr rfl))) gc_nm (fun _ _ _ _ _ => pts_nil) ts_yes (fun _ _ _ _ _ => (s_ix (s_var rfl (vis_by rfl) rfl rfl) (s_cal c__law_pull takesF (hr.mono (by decide)) rfl (a_cons (s_var rfl (vis_by rfl) rfl rfl) (a_cons ci a_nil rfl) rfl) rfl rfl) rfl)) (fun _ => rfl)) rfl rfl rfl) (g_name sc_pool.nd rfl (loc_by rfl) (.inl rfl)) rfl rfl rfl)
    (ss_cons (s_asg (s_tup (a_cons (s_cal c__law_pull tk (hr.mono (by decide)) rfl (a_cons (s_var rfl (vis_by rfl) rfl rfl) (a_cons (s_bin op_addA (opAdd_ok false) (s_biB cr_len kLen_ok rfl m_len boot_len (a_cons (s_var rfl (vis_by rfl) rfl rfl) a_nil rfl) (by decide) rfl) ci) a_nil rfl) rfl) rfl rfl) (a_cons (s_cal c__law_pull tk (hr.mono (by decide)) rfl (a_cons (s_var rfl (vis_by rfl) rfl rfl) (a_cons ci a_nil rfl) rfl) rfl rfl) a_nil rfl) rfl) (by decide)) (g_tup rfl (gs_cons (g_name sc_pool.nd rfl (loc_by rfl) (.inl rfl)) (gs_cons (g_name sc_pool.nd rfl (loc_by rfl) (.inl rfl)) gs_nil rfl) rfl) rfl rfl) rfl rfl rfl)
    (ss_one (s_ret (s_lc rfl sc_pool.nd (i_range1 rfl m_range (a_cons ci a_nil rfl) rfl) (own := [("_law_k", 5)]) (blkOk_by (N := N_pool) (sc := (defScope (top 33))) (by decide +kernel)) (fun _ _ _ _ _ => (pg_name sc_pool.nd rfl (loc_by rfl) (.inr rfl))) gc_nm (fun _ _ _ _ _ => pts_nil) ts_yes (fun _ _ _ _ _ => (s_bin op_addA (opAdd_ok false) (s_bin op_addA (opAdd_ok false) (s_slX (s_var rfl (vis_by rfl) rfl rfl) o_none (o_some (s_var rfl (vis_by rfl) rfl rfl))) (s_ix (s_var rfl (vis_by rfl) rfl rfl) (s_bin op_modN opMod_ok (s_bin op_addA (opAdd_ok false) (s_var rfl (vis_by rfl) rfl rfl) (s_bin op_mulA (opMul_ok false) ci (s_var rfl (vis_by rfl) rfl rfl))) ci) rfl)) (s_slX (s_var rfl (vis_by rfl) rfl rfl) (o_some (s_var rfl (vis_by rfl) rfl rfl)) o_none))) (fun _ => rfl)))))))
end
end WK
set_option Elab.async false
set_option linter.all false
set_option maxRecDepth 100000
/-! lambdas with a default or none, made in a def's body and called there -/
namespace WK
open PySem PySem.Spec PyProof.Rows L2 LamX NdefX
/-- the tables; Φ: what is known of the code objects -/
def TabsP (T : List NTab) (Φ : Addr → Prop) (H : Hp) : Prop := ∀ p ∈ T, ∃ ps : Array Value, H p.1 = some (.tbl ps) ∧ TriplesOk ps.toList ∧ ∀ (pos : Pos) (cv : Value), codeAmong pos ps.toList = some cv → ∃ c, cv = .ref c ∧ H c = some (CodeO c (p.2 pos.line pos.col)) ∧ Φ c
theorem TabsP.ext {T : List NTab} {Φ : Addr → Prop} {H H' : Hp} (t : TabsP T Φ H) (e : ∀ b o, H b = some o → H' b = some o) : TabsP T Φ H' := fun p hp =>
  let ⟨ps, h1, h2, h3⟩ := t p hp; ⟨ps, e _ _ h1, h2, fun pos cv hc => let ⟨c, e1, e2, e3⟩ := h3 pos cv hc; ⟨c, e1, e _ _ e2, e3⟩⟩
/-- a lambda's words; they stand in NF, whose body is not used -/
abbrev lamFd (F : NF) (b : Expr) (dV pm ctv : Value) : FuncData :=
  { name := "<lambda>", qualname := F.qual, params := F.params, body := .expr b, scope := F.scope, globals := mainGlobals, closure := F.cl, closureTuple := ctv, code := .ref F.c, builtins := builtinsNs, defaults := dV, kwdefaults := .none, annotations := none, pyModule := pm, doc := .none }
def LamO (f : Addr) (F : NF) (b : Expr) (dV : Value) : HO := .ext fun h => ∃ (od : Option Addr) (sl : Array (Option Value)) (pm ctv : Value), h.get? f = some (⟨.type "function", od, .func (lamFd F b dV pm ctv), sl⟩ : Obj)
theorem lamO_at {P : Program} {w : World} {H : Hp} {h : Heap} {f : Addr} {F : NF} {b : Expr} {dV : Value} (hok : HOk P w H h) (e : H f = some (LamO f F b dV)) : ∃ (od : Option Addr) (sl : Array (Option Value)) (pm ctv : Value), h.get? f = some (⟨.type "function", od, .func (lamFd F b dV pm ctv), sl⟩ : Obj) := (hok f _ e).1
section
variable {M : Model} {A : Around} {E : Value → Shared → Prop} {s : Shared} {qn : Str} {params : Arguments} {body : Expr} {scope : Scope} {env : Env} {c P : Addr} {ps : Array Value} {pos : Pos} {fl : Nat} {mg : Str → Option Value}
  {clos : List (Str × Addr)} {Q : Value → Shared → Prop} {dV : Value}
abbrev lamOb (qn : Str) (params : Arguments) (body : Expr) (scope : Scope) (clos : List (Str × Addr)) (dV pm : Value) (c' : Addr) (ctv : Value) : Obj := { cls := .type "function", data := .func (lamFd ⟨"<lambda>", qn, params, [], scope, clos, c'⟩ body dV pm ctv) }
theorem lam_fresh (e1 : closureFor scope env = pure clos) (e2 : env.globals = mainGlobals) (e3 : s.heap.Ns mainGlobals mg) (e4 : env.code = .ref c) (C : PySem.W.CodeHd s.heap c P) (hP : s.heap.get? P = some { cls := .none, data := .fields ps }) (ht : TriplesOk ps.toList)
    (nf : codeAmong pos ps.toList = none) (gP : mainGlobals ≠ P) (bu : s.heap.BuiltinsAt mg P)
    (h : ∀ c' ctv h' tk, Heap.ExtBut P s.heap h' → s.heap.objs.size ≤ c' → c' < h'.objs.size → h'.CodeRec (.ref c') qn → h'.get? P = some { cls := .none, data := .fields (ps ++ #[rawInt pos.line, rawInt pos.col, .ref c']) } →
      Q (.ref h'.objs.size) { s with heap := h'.push (lamOb qn params body scope clos dV ((mg "__name__").getD .none) c' ctv), toks := tk }) :
    wpAny M A (makeTail "<lambda>" qn params (.expr body) scope env dV .none none pos fl) Q E s := by
  obtain ⟨bm, ob, b1, b2, _, b3, b4, b5, b6, b7⟩ := bu
  unfold makeTail
  rw [e1, e2]
  refine wpAny_bind (wpAny_pure ?_)
  cases clos with
  | nil =>
    simp only [if_true, List.isEmpty_nil]
    refine wpAny_bind (wpAny_pure (wpAny_bind (wpAny_functionCodeX e4 (C.code hP ht) (C.tab hP) nf fun c' h' tk x1 x2 x3 _ x4 x5 _ => ?_)))
    have g2 := e3.extBut x1 gP
    refine wpAny_bind (wpAny_builtinsFor g2 b1 b2 (x1 _ _ b3 b4) b5 b6 b7 (wpAny_bind (wpAny_nsGet g2 ?_)))
    exact wpAny_bind (wpAny_pure (wpAny_newObj_type (h c' .none h' tk x1 x2 x3 x4 x5.2) (by size_fits)))
  | cons q r =>
    simp only [Bool.false_eq_true, List.isEmpty_cons, if_false]
    refine wpAny_bind (wpAny_newTextTuple ?_)
    have C2 := fun oT : Obj => (C.keeps fun b o e => Heap.get?_push_of_some oT e : PySem.W.CodeHd (s.heap.push oT) c P)
    have P2 := fun oT : Obj => (Heap.get?_push_of_some oT hP : (s.heap.push oT).get? P = _)
    refine wpAny_bind (wpAny_functionCodeX e4 ((C2 _).code (P2 _) ht) ((C2 _).tab (P2 _)) nf fun c' h' tk x1 x2 x3 _ x4 x5 _ => ?_)
    have g2 := (e3.push _).extBut x1 gP
    have x1' : Heap.ExtBut P s.heap h' := fun b o n e => x1 b o n (Heap.get?_push_of_some _ e)
    have x2' : s.heap.objs.size ≤ c' := Nat.le_trans (by rw [Heap.size_push]; omega) x2
    refine wpAny_bind (wpAny_builtinsFor g2 b1 b2 (x1' _ _ b3 b4) b5 b6 b7 (wpAny_bind (wpAny_nsGet g2 ?_)))
    exact wpAny_bind (wpAny_pure (wpAny_newObj_type (h c' _ h' tk x1' x2' x3 x4 x5.2) (by size_fits)))
theorem lam_again {c' : Addr} (e1 : closureFor scope env = pure clos) (e2 : env.globals = mainGlobals) (e3 : s.heap.Ns mainGlobals mg) (e4 : env.code = .ref c) (C : PySem.W.CodeHd s.heap c P) (hP : s.heap.get? P = some { cls := .none, data := .fields ps }) (ht : TriplesOk ps.toList)
    (hf : codeAmong pos ps.toList = some (.ref c')) (bu : s.heap.BuiltinsAt mg P)
    (h : ∀ (ctv : Value) (h' : Heap) (tk : Tok), (∀ b o, s.heap.get? b = some o → h'.get? b = some o) → s.heap.objs.size ≤ h'.objs.size →
      Q (.ref h'.objs.size) { s with heap := h'.push (lamOb qn params body scope clos dV ((mg "__name__").getD .none) c' ctv), toks := tk }) :
    wpAny M A (makeTail "<lambda>" qn params (.expr body) scope env dV .none none pos fl) Q E s := by
  obtain ⟨bm, ob, b1, b2, _, b3, b4, b5, b6, b7⟩ := bu
  unfold makeTail
  rw [e1, e2]
  refine wpAny_bind (wpAny_pure ?_)
  cases clos with
  | nil =>
    simp only [if_true, List.isEmpty_nil]
    refine wpAny_bind (wpAny_pure (wpAny_bind (wpAny_functionCode_hit e4 (C.code hP ht) hf ?_)))
    refine wpAny_bind (wpAny_builtinsFor e3 b1 b2 b4 b5 b6 b7 (wpAny_bind (wpAny_nsGet e3 ?_)))
    exact wpAny_bind (wpAny_pure (wpAny_newObj_type (h .none s.heap s.toks (fun _ _ e => e) (Nat.le_refl _)) (by size_fits)))
  | cons q r =>
    simp only [Bool.false_eq_true, List.isEmpty_cons, if_false]
    refine wpAny_bind (wpAny_newTextTuple ?_)
    have C2 := fun oT : Obj => (C.keeps fun b o e => Heap.get?_push_of_some oT e : PySem.W.CodeHd (s.heap.push oT) c P)
    have P2 := fun oT : Obj => (Heap.get?_push_of_some oT hP : (s.heap.push oT).get? P = _)
    refine wpAny_bind (wpAny_functionCode_hit e4 ((C2 _).code (P2 _) ht) hf ?_)
    refine wpAny_bind (wpAny_builtinsFor (e3.push _) b1 b2 (Heap.get?_push_of_some _ b4) b5 b6 b7 (wpAny_bind (wpAny_nsGet (e3.push _) ?_)))
    have sz : ∀ oT : Obj, s.heap.objs.size ≤ (s.heap.push oT).objs.size := fun oT => by rw [Heap.size_push]; omega
    exact wpAny_bind (wpAny_pure (wpAny_newObj_type (h _ _ s.toks (fun b o e => Heap.get?_push_of_some _ e) (sz _)) (by size_fits)))
end
section
variable {X : Cx} {pins : List (Addr × Obj)} {σ : L2.St} {H : Hp} {s : Shared}
theorem inv_lam {F : NF} {b : Expr} {dV : Value} {t' : Nat} {pm ctv : Value} (I : Inv X pins σ H s) :
    Inv X pins σ (upd H s.heap.objs.size (LamO s.heap.objs.size F b dV)) { s with heap := s.heap.push ({ cls := .type "function", data := .func (lamFd F b dV pm ctv) } : Obj), toks := t' } := by
  have e : (s.heap.push ({ cls := .type "function", data := .func (lamFd F b dV pm ctv) } : Obj)).get? s.heap.objs.size = some ({ cls := .type "function", data := .func (lamFd F b dV pm ctv) } : Obj) := Heap.get?_push_size _ rfl
  exact I.laid (a := s.heap.objs.size) (fun b u e => Heap.get?_push_of_some _ e) (Nat.le_refl _) ⟨⟨_, _, pm, ctv, e⟩, ⟨_, e⟩, fun h1 h2 ⟨od, sl, p, t, z⟩ st => ⟨od, sl, p, t, st _ z⟩⟩
theorem lam_made {T : List NTab} {Φ : Addr → Prop} {nm : Nat → Nat → Str} {c P : Addr} {params : Arguments} {body : Expr} {scope : Scope} {pos : Pos} {dV : Value} {E : Value → Shared → Prop} {Q : Value → Shared → Prop} (I : Inv X pins σ H s) (TB : TabB X.base X.mg c P) (hcode : X.env.code = .ref c)
    (hm : (P, nm) ∈ T) (hn : nm pos.line pos.col = X.env.qual ++ "<lambda>") (hu : ∀ p ∈ T, p.1 = P → p.2 = nm) (hT : TabsP T Φ H) (hΦ : ∀ b, H b = Option.none → Φ b) (hfree : ∀ y ∈ scope.names, y.2 = .free → ∃ c, X.env.cells.lookup y.1 = some c)
    (h : ∀ (f c' : Addr) (H1 : Hp) (s' : Shared), Inv X pins σ H1 s' → ExtN H H1 → (∀ b, H1 b = Option.none → H b = Option.none) → TabsP T Φ H1 → H f = none → H1 f = some (LamO f ⟨"<lambda>", X.env.qual ++ "<lambda>", params, [], scope, cloFrom X.env.cells scope.names [], c'⟩ body dV) → H1 c' = some (CodeO c' (X.env.qual ++ "<lambda>")) → Q (.ref f) s') :
    wpAny (model X.prog X.w) X.A (makeTail "<lambda>" (X.env.qual ++ "<lambda>") params (.expr body) scope X.env dV .none none pos pos.line) Q E s := by
  obtain ⟨ps, hP, ht, ha⟩ := hT _ hm
  have bP : s.heap.BuiltinsAt X.mg P := TB.bm.keeps I.bk
  have hP' : s.heap.get? P = some { cls := .none, data := .fields ps } := I.hok P _ hP
  cases hc : codeAmong pos ps.toList with
  | none =>
    refine lam_fresh (mg := X.mg) (c := c) (P := P) (ps := ps) (closure_ok hfree) I.ok.glob (I.mod.glob.keeps I.bk) hcode (TB.code.keeps I.bk) hP' ht hc TB.gP bP fun c' ctv h' tk hx hge hlt ⟨c2, oc, vs, t, e2, k1, k2, k3⟩ htb => ?_
    cases e2
    have nC : H c' = none := I.hok.fresh hge
    have I1 := inv_table (t' := tk) (more := #[rawInt pos.line, rawInt pos.col, .ref c']) (h' := h') I hP (fun b o hb e => hx b o hb e) htb hge ⟨oc, vs, t, k1, k2, k3⟩
    have hE : ExtN H (upd (upd H P (.tbl (ps ++ #[rawInt pos.line, rawInt pos.col, .ref c']))) c' (CodeO c' (X.env.qual ++ "<lambda>"))) := fun b o e n => by
      rw [upd_ne (ne_of_none e nC), upd_ne fun z => n ps (by rw [z, hP] at e; exact (Option.some.inj e).symm)]; exact e
    have eL : (ps ++ #[rawInt pos.line, rawInt pos.col, .ref c']).toList = ps.toList ++ [rawInt pos.line, rawInt pos.col, .ref c'] := by simp
    have T1 : TabsP T Φ (upd (upd H P (.tbl (ps ++ #[rawInt pos.line, rawInt pos.col, .ref c']))) c' (CodeO c' (X.env.qual ++ "<lambda>"))) := fun ⟨p1, p2⟩ hp => by
      by_cases hb : p1 = P
      · have e3 : p2 = nm := hu _ hp hb
        dsimp only
        rw [hb, e3]
        refine ⟨_, by rw [upd_ne (ne_of_none hP nC), upd_same], by rw [eL]; exact PySem.TriplesOk_snoc _ _ _ _ ht, fun p' cv hcv => ?_⟩
        rcases among_app2 _ ht (eL ▸ hcv) with z | ⟨z, z1, z2⟩
        · obtain ⟨c0, w1, w2, w3⟩ := ha p' cv z
          exact ⟨c0, w1, hE _ _ w2 codeO_ne, w3⟩
        · exact ⟨c', z, by rw [← z1, ← z2, hn]; exact upd_same, hΦ _ nC⟩
      · obtain ⟨ps', a1, a2, a3⟩ := hT _ hp
        exact ⟨ps', by rw [upd_ne (ne_of_none a1 nC), upd_ne hb]; exact a1, a2, fun p' cv hcv => let ⟨c0, w1, w2, w3⟩ := a3 p' cv hcv; ⟨c0, w1, hE _ _ w2 codeO_ne, w3⟩⟩
    have nF := I1.hok.fresh (Nat.le_refl _)
    have I2 := inv_lam (F := ⟨"<lambda>", X.env.qual ++ "<lambda>", params, [], scope, cloFrom X.env.cells scope.names [], c'⟩) (b := body) (dV := dV) (t' := tk) (pm := (X.mg "__name__").getD .none) (ctv := ctv) I1
    exact h h'.objs.size c' _ _ I2 (fun b o e n => (upd_ne (ne_of_none (hE b o e n) nF)).trans (hE b o e n)) (fun b e => upd_none (upd_none (upd_none e))) (T1.ext fun b o e => (upd_ne (ne_of_none e nF)).trans e)
      (I.hok.fresh (Nat.le_trans hge (Nat.le_of_lt hlt))) upd_same ((upd_ne (Nat.ne_of_lt hlt)).trans upd_same)
  | some cv =>
    obtain ⟨c', e, hco, _⟩ := ha pos cv hc
    subst e
    have hco : H c' = some (CodeO c' (X.env.qual ++ "<lambda>")) := by rw [← hn]; exact hco
    refine lam_again (mg := X.mg) (c := c) (P := P) (ps := ps) (closure_ok hfree) I.ok.glob (I.mod.glob.keeps I.bk) hcode (TB.code.keeps I.bk) hP' ht hc bP fun ctv h' tk hx hsz => ?_
    have I1 : Inv X pins σ H { s with heap := h', toks := tk } := I.kept hx
    have nF : H h'.objs.size = none := I1.hok.fresh (Nat.le_refl _)
    have I2 := inv_lam (F := ⟨"<lambda>", X.env.qual ++ "<lambda>", params, [], scope, cloFrom X.env.cells scope.names [], c'⟩) (b := body) (dV := dV) (t' := tk) (pm := (X.mg "__name__").getD .none) (ctv := ctv) I1
    exact h h'.objs.size c' _ _ I2 (fun b o e n => (upd_ne (ne_of_none e nF)).trans e) (fun b e => upd_none e) (hT.ext fun b o e => (upd_ne (ne_of_none e nF)).trans e) nF upd_same ((upd_ne (ne_of_none hco nF)).trans hco)
end
end WK
set_option Elab.async false
set_option linter.all false
set_option maxRecDepth 100000
/-! lambdas: the rules -/
namespace WK
open PySem PySem.Spec PyProof.Rows L2 LamX NdefX
def DfO (H : Hp) (dvs : List V) (dV : Value) : Prop := (dvs = [] ∧ dV = .none) ∨ ∃ t, dV = .ref t ∧ H t = some (.tup dvs)
def DfAt (h : Heap) (its : List Value) (dV : Value) : Prop := (its = [] ∧ dV = .none) ∨ ∃ t, dV = .ref t ∧ IsTup h t its.toArray
/-- the reading of a lambda -/
def tLamD (T : List NTab) (Φ : Addr → Prop) (b : Expr) (dvs : List V) (mk : Addr → NF) : TE := fun _ H Q => TabsP T Φ H ∧ (∀ b, H b = Option.none → Φ b) ∧ ∀ (f c' : Addr) (dV : Value) (H1 : Hp), ExtN H H1 → (∀ b, H1 b = Option.none → H b = Option.none) → TabsP T Φ H1 → H f = none → H1 f = some (LamO f (mk c') b dV) → H1 c' = some (CodeO c' (mk c').qual) → DfO H1 dvs dV → Q (.ref f) H1
abbrev mkLam (X : Cx) (params : Arguments) (scope : Scope) (c' : Addr) : NF := ⟨"<lambda>", X.env.qual ++ "<lambda>", params, [], scope, cloFrom X.env.cells scope.names [], c'⟩
section
variable {X : Cx}
theorem lam_free {scope : Scope} (ok : X.Ok) (hfree : ∀ y ∈ scope.names, y.2 = .free → X.env.scope.names.lookup y.1 = some .cell ∨ X.env.scope.names.lookup y.1 = some .free) : ∀ y ∈ scope.names, y.2 = .free → ∃ c, X.env.cells.lookup y.1 = some c := fun y hy e => (hfree y hy e).elim (fun z => ok.has _ (.inl z)) fun z => ok.has _ (.inr z)
/-- lambda: b -/
theorem pe_lam0 {T : List NTab} {Φ : Addr → Prop} {nm : Nat → Nat → Str} {c P : Addr} {params : Arguments} {b : Expr} {scope : Scope} {pos : Pos} (TB : TabB X.base X.mg c P) (hcode : X.env.code = .ref c) (hm : (P, nm) ∈ T) (hn : nm pos.line pos.col = X.env.qual ++ "<lambda>") (hu : ∀ p ∈ T, p.1 = P → p.2 = nm)
    (hfree : ∀ y ∈ scope.names, y.2 = .free → X.env.scope.names.lookup y.1 = some .cell ∨ X.env.scope.names.lookup y.1 = some .free) (hdef : defaultsOf params X.env = ([], [])) :
    PE X (.Lambda params b scope pos) (tLamD T Φ b [] (mkLam X params scope)) := by
  refine ⟨fun pins s σ H Q I h => ?_⟩
  obtain ⟨hT, hΦ, h⟩ := h
  refine PySem.W.kla_eval hdef ?_
  rw [makeFunction_eq]
  simp only [List.zip_nil_right, List.filterMap_nil, List.isEmpty_nil, pure_bind, if_true]
  exact lam_made I TB hcode hm hn hu hT hΦ (lam_free I.ok hfree) fun f c' H1 s' J x1 x2 x3 x4 x5 x6 => ⟨.ref f, H1, J, rfl, h f c' .none H1 x1 x2 x3 x4 x5 x6 (.inl ⟨rfl, rfl⟩)⟩
/-- lambda a=d: b -/
theorem pe_lam1 {T : List NTab} {Φ : Addr → Prop} {nm : Nat → Nat → Str} {c P : Addr} {params : Arguments} {b d : Expr} {v : V} {scope : Scope} {pos : Pos} (TB : TabB X.base X.mg c P) (hcode : X.env.code = .ref c) (hm : (P, nm) ∈ T) (hn : nm pos.line pos.col = X.env.qual ++ "<lambda>") (hu : ∀ p ∈ T, p.1 = P → p.2 = nm)
    (hfree : ∀ y ∈ scope.names, y.2 = .free → X.env.scope.names.lookup y.1 = some .cell ∨ X.env.scope.names.lookup y.1 = some .free) (hdef : defaultsOf params X.env = ([eval d X.env], [])) (hd : PE X d (tC v)) :
    PE X (.Lambda params b scope pos) (tLamD T Φ b [v] (mkLam X params scope)) := by
  refine ⟨fun pins s σ H Q I h => ?_⟩
  obtain ⟨hT, hΦ, h⟩ := h
  rw [arm_eval_Lambda, hdef]
  show wpAny _ _ (evalAll [eval d X.env] >>= fun dv => holding dv (evalAllOpt []) >>= fun kdv => makeFunction "<lambda>" (X.env.qual ++ "<lambda>") params (.expr b) scope X.env dv kdv [] pos pos.line) _ _ _
  refine wpAny_bind ?_
  show wpAny _ _ (eval d X.env >>= fun v => holding [v] (pure []) >>= fun r => pure (v :: r)) _ _ _
  refine wpAny_bind (thn (hd.run pins s σ H (fun v' H' => v' = v ∧ H' = H) I ⟨rfl, rfl⟩) fun u s1 ⟨v', H1, I1, r1, q1⟩ => ?_)
  obtain ⟨e1, e2⟩ := q1
  subst e1
  rw [e2] at I1
  refine wpAny_bind (wpAny_holding (wpAny_pure (wpAny_pure (wpAny_bind (wpAny_holding (wpAny_pure ?_))))))
  rw [makeFunction_eq]
  simp only [List.zip_nil_right, List.filterMap_nil, List.isEmpty_nil, List.isEmpty_cons, pure_bind, if_true, Bool.false_eq_true, if_false]
  refine wpAny_bind (wpAny_newTextTuple ?_)
  have hf : H s1.heap.objs.size = none := I1.hok.fresh (Nat.le_refl _)
  have I2 : Inv X pins σ (upd H s1.heap.objs.size (.tup [v'])) { s1 with heap := s1.heap.push { cls := .type "tuple", data := .seq [u].toArray }, toks := s1.toks } := I1.laid (fun b u e => Heap.get?_push_of_some _ e) (Nat.le_refl _) ⟨by show 1 ≤ sizeLine; decide, [u], .cons r1 .nil, ⟨_, Heap.get?_push_size _ rfl, rfl, _, rfl⟩⟩
  have x0 : ExtN H (upd H s1.heap.objs.size (.tup [v'])) := fun b o e _ => by rw [upd_ne (ne_of_none e hf)]; exact e
  refine lam_made I2 TB hcode hm hn hu (hT.ext fun b o e => by rw [upd_ne (ne_of_none e hf)]; exact e) (fun b e => hΦ b (upd_none e)) (lam_free I1.ok hfree) fun f c' H1 s' J x1 x2 x3 x4 x5 x6 => ⟨.ref f, H1, J, rfl, h f c' (.ref s1.heap.objs.size) H1 (x0.trans x1) (fun b e => upd_none (x2 b e)) x3 (upd_none x4) x5 x6 (.inr ⟨_, rfl, x1 _ _ upd_same fun ps z => by cases z⟩)⟩
/-- x(), x a name that holds a lambda made here -/
def tLamCall (N : List Str) (mk : Addr → NF) (b : Expr) (dvs : List V) (i : Nat) (js : List Nat) (tb : TE) : TE := fun σ H Q => ∃ f c' dV, σ[i]? = some (some (.ref f)) ∧ H f = some (LamO f (mk c') b dV) ∧ H (mk c').c = some (CodeO (mk c').c (mk c').qual) ∧ DfO H dvs dV ∧ tb (startF N dvs (js.map (slotAt σ))) H Q
theorem pe_lamC {CX : CXT} {mk : Addr → NF} {b : Expr} {dvs : List V} {cl : List (Str × Addr)} {N ps fr : List Str} {js : List Nat} {i j k : Nat} {x : Str} {E : XK} {tb : TE} {p pos : Pos} {sc : Scope} (S : NScope N ps fr sc) (hsc : ∀ c', (mk c').scope = sc) (hcl : ∀ c', (mk c').cl = cl) (cp : X.Ok → Caps X cl fr js) (hlen : dvs.length = ps.length)
    (hr : Room j X.A) (hk : k + 1 ≤ j) (hx : Passes CX X E) (hN : X.N[i]? = some x) (hv : Vis X.env.scope x)
    (hb : ∀ (c' : Addr) (dV pm ctv : Value) (s : Shared) (its : List Value), DfAt s.heap its dV → its.length = dvs.length → BindsTo s (lamFd (mk c') b dV pm ctv) ⟨[], []⟩ (ps.zip its))
    (hbody : ∀ (c' : Addr) (A : Around) (outer : List Env) (s : Shared) (H : Hp) (f : Addr), Room k (A.deeper (envF (mk c') f s.heap.objs.size)) → PE (ncx CX X.prog X.w X.K X.mg X.base N (mk c') f A outer s H E) b tb)
    (hcx : CX = L2.CX X.prog X.w)
    (hd : (x == ("__debug__" : Str)) = false := by decide) (hcd : (x == ("__classdict__" : Str)) = false := by decide) : PE X (.Call (.Name x p) [] [] pos) (tLamCall N mk b dvs i js tb) := by
  refine ⟨fun pins s σ H Q I h => ?_⟩
  obtain ⟨f, c', dV, hs, hf, hc, hdf, ht⟩ := h
  refine wpAny_Call_Name_kw (thn ((pe_var (pos := p) hN hv hd hcd).run pins s σ H (fun v H1 => v = .ref f ∧ H1 = H) I ⟨.ref f, hs, rfl, rfl⟩) fun u s1 ⟨v, H1, I1, r1, q1⟩ => ?_)
  obtain ⟨ev, eH⟩ := q1
  subst ev
  rw [eH] at I1
  obtain rfl : u = Value.ref f := r1
  obtain ⟨od, sl, pm, ctv, of1⟩ := lamO_at I1.hok hf
  refine PySem.W.callWith_F0 (first := []) ⟨_, od, _, sl, of1⟩ ?_
  show wpAny _ _ (call (.ref f) []) _ _ _
  have C : CellsAt (mk c').cl fr (js.map (slotAt σ)) s1.heap H := by
    rw [hcl c']
    exact cells_of I1 (cp I1.ok)
  have hS : NScope N ps fr (mk c').scope := by rw [hsc c']; exact S
  have e0 := I1.env0
  have hr2 := hr.mono hk
  have lim : s1.heap.NoLimit := e0.mod.nolimit.keeps fun b o e => (e0.bs b o e).1
  obtain ⟨its, rv, hD⟩ : ∃ its : List Value, Vals dvs its ∧ DfAt s1.heap its dV := by
    rcases hdf with ⟨e, e'⟩ | ⟨t, e, q⟩
    · rw [e]; exact ⟨[], .nil, .inl ⟨rfl, e'⟩⟩
    · obtain ⟨its, r, z, _⟩ := I1.tuple (SqT.of (K := X.K) q)
      exact ⟨its, r, .inr ⟨t, e, z⟩⟩
  have rc : codeAny (model X.prog X.w) X.A (.call (.ref f) ⟨[], []⟩) (CR CX X.stack X.prog X.w H s1 Q E) s1 := by
    refine PySem.W.kla_callFunE hr2.depth of1 rfl hS.co hS.gen rfl (codeO_at e0.hok hc) (hb c' dV pm ctv s1 its hD rv.length.symm _ _ _ _ ?_)
    refine wpAny_newFunctionEnv hS.nocell (fun ⟨n, _⟩ hy => hS.par n (List.of_mem_zip hy).1) (fun h₁ hns hsb => ⟨lim.fresh _ hsb, ?_⟩) hS.kind
    show codeAny _ _ (.expr b (envF (mk c') f s1.heap.objs.size)) _ _
    have kp : ∀ b o, s1.heap.get? b = some o → h₁.get? b = some o := fun b o e => hsb.extBut b o (Nat.ne_of_lt (Heap.lt_size e)) (Heap.get?_push_of_some _ e)
    have J : Inv (ncx CX X.prog X.w X.K X.mg X.base N (mk c') f X.A X.stack s1 H E) [] (startF N dvs (js.map (slotAt σ))) H { s1 with heap := h₁, toks := s1.toks + (ps.zip its).length } := inv_startN hS hr2.hd e0 hlen rv C hns kp
    refine PySem.W.kla_codeExpr (wpAny_mono ((hbody c' _ _ s1 H f (hr2.deeper _)).run [] _ _ H Q J ht) (fun v s' hq => ?_) fun e s' hq => hq)
    obtain ⟨w', H', J', rv, q⟩ := hq
    exact ⟨w', H', J'.os, J'.bare, J'.base, J'.hok, rv, q⟩
  refine wpAny_call (codeAny_mono rc fun r s' hq => ?_)
  cases r with
  | error e => exact hx pins σ H s1 e s' I1 hq
  | ok fl =>
    cases fl with
    | ret u => exact I1.after hq
    | next => exact False.elim hq
    | brk => exact False.elim hq
    | cont => exact False.elim hq
end
end WK
set_option Elab.async false
set_option linter.all false
set_option maxRecDepth 100000
set_option maxHeartbeats 0
/-! the end of _law_field: four lambdas, a walk over them -/
namespace WK
noncomputable section
open PySem PySem.Spec PyProof.Rows L2 LamX NdefX
def asgV : Stmt → Expr
  | .Assign _ e _ => e
  | _ => .Constant .none 0 ⟨0, 0, 0, 0⟩
def lstI : Expr → Nat → Expr
  | .List es _, i => es.getD i (.Constant .none 0 ⟨0, 0, 0, 0⟩)
  | e, _ => e
def tupI : Expr → Nat → Expr
  | .Tuple es _ _, i => es.getD i (.Constant .none 0 ⟨0, 0, 0, 0⟩)
  | e, _ => e
def binR : Expr → Expr
  | .BinOp _ _ r _ => r
  | e => e
def lamP : Expr → Arguments
  | .Lambda p _ _ _ => p
  | _ => ⟨[], [], none, [], [], none, []⟩
def lamB : Expr → Expr
  | .Lambda _ b _ _ => b
  | e => e
def lamS : Expr → Scope
  | .Lambda _ _ s _ => s
  | _ => defScope (top 32)
abbrev fst (i : Nat) : Stmt := (defBody (top 32)).getD i (.Pass ⟨0, 0, 0, 0⟩)
def lam0 : Expr := tupI (lstI (asgV (fst 4)) 0) 1
def lam1 : Expr := tupI (lstI (asgV (fst 4)) 1) 1
def lam2 : Expr := tupI (lstI (binR (asgV (fst 5))) 0) 1
def lam3 : Expr := tupI (lstI (binR (asgV (fst 5))) 1) 1
abbrev N_field : List Str := ["_law_e", "_law_fields", "_law_word", "_law_ask"]
theorem sc_field : FnScope N_field ["_law_e"] (defScope (top 32)) := ⟨rfl, rfl, rfl, by decide +kernel, rfl, by decide +kernel, by decide +kernel⟩
abbrev nmT : Nat → Nat → Str := fun _ _ => "_law_field.<locals>.<lambda>"
structure TailF (T : Tb) (K : PySem.W.Frag) (mg : Str → Option Value) (base : Heap) (c Pt : Addr) : Prop where
  nm : T.nm = nm56
  x0 : XgOk T K cs24 0
  x4 : XgOk T K cs24 4
  x5 : XgOk T K cs24 5
  x7 : XgOk T K cs24 7
  x8 : XgOk T K cs24 8
  tb : TabB base mg c Pt
  tm : (Pt, nmT) ∈ T.tabs
  tu : ∀ p ∈ T.tabs, p.1 = Pt → p.2 = nmT
def tLamE (T : List NTab) (b : Expr) (dvs : List V) (mk : Addr → NF) : TE := fun σ H Q => ∃ Φ, tLamD T Φ b dvs mk σ H Q
section
variable {X : Cx} {T : List NTab} {c P : Addr} {params : Arguments} {b d : Expr} {v : V} {scope : Scope} {pos : Pos} {nm : Nat → Nat → Str}
theorem pe_lamE0 (TB : TabB X.base X.mg c P) (hcode : X.env.code = .ref c) (hm : (P, nm) ∈ T) (hn : nm pos.line pos.col = X.env.qual ++ "<lambda>") (hu : ∀ p ∈ T, p.1 = P → p.2 = nm)
    (hfree : ∀ y ∈ scope.names, y.2 = .free → X.env.scope.names.lookup y.1 = some .cell ∨ X.env.scope.names.lookup y.1 = some .free) (hdef : defaultsOf params X.env = ([], [])) : PE X (.Lambda params b scope pos) (tLamE T b [] (mkLam X params scope)) :=
  ⟨fun pins s σ H Q I ⟨Φ, h⟩ => (pe_lam0 (Φ := Φ) TB hcode hm hn hu hfree hdef).run pins s σ H Q I h⟩
theorem pe_lamE1 (TB : TabB X.base X.mg c P) (hcode : X.env.code = .ref c) (hm : (P, nm) ∈ T) (hn : nm pos.line pos.col = X.env.qual ++ "<lambda>") (hu : ∀ p ∈ T, p.1 = P → p.2 = nm)
    (hfree : ∀ y ∈ scope.names, y.2 = .free → X.env.scope.names.lookup y.1 = some .cell ∨ X.env.scope.names.lookup y.1 = some .free) (hdef : defaultsOf params X.env = ([eval d X.env], [])) (hd : PE X d (tC v)) : PE X (.Lambda params b scope pos) (tLamE T b [v] (mkLam X params scope)) :=
  ⟨fun pins s σ H Q I ⟨Φ, h⟩ => (pe_lam1 (Φ := Φ) TB hcode hm hn hu hfree hdef hd).run pins s σ H Q I h⟩
theorem pe_or {e : Expr} {t u : TE} (h1 : PE X e t) (h2 : PE X e u) : PE X e (fun σ H Q => t σ H Q ∨ u σ H Q) := ⟨fun pins s σ H Q I h => h.elim (h1.run pins s σ H Q I) (h2.run pins s σ H Q I)⟩
end
/-- no parameters; one with its default -/
theorem bind0 {F : NF} {b : Expr} {dV pm ctv : Value} {s : Shared} {its : List Value} (h1 : ∀ pm ctv, bindArgs (lamFd F b .none pm ctv) ⟨[], []⟩ = pure []) (h : DfAt s.heap its dV) (hl : its.length = 0)
    (h2 : ∀ t pm ctv, ∃ k, bindArgs (lamFd F b (.ref t) pm ctv) ⟨[], []⟩ = seqItems? (.ref t) >>= k ∧ k (some #[]) = pure []) : BindsTo s (lamFd F b dV pm ctv) ⟨[], []⟩ (([] : List Str).zip its) := by
  obtain rfl : its = [] := List.length_eq_zero_iff.mp hl
  rcases h with ⟨_, e⟩ | ⟨t, e, ⟨o, ho, hc, n, hd⟩⟩
  · rw [e]; exact .of_eq (h1 _ _)
  · rw [e]
    obtain ⟨k, e1, e2⟩ := h2 t pm ctv
    intro M A Q E q
    rw [e1]
    exact wpAny_bind (wpAny_seqItems ho hd (by show wpAny _ _ (k (some #[])) _ _ _; rw [e2]; exact wpAny_pure q))
theorem bind1 {F : NF} {b : Expr} {a : Str} {dV pm ctv : Value} {s : Shared} {its : List Value} (h : DfAt s.heap its dV) (hl : its.length = 1)
    (h2 : ∀ t pm ctv u, ∃ k, bindArgs (lamFd F b (.ref t) pm ctv) ⟨[], []⟩ = seqItems? (.ref t) >>= k ∧ k (some #[u]) = pure [(a, u)]) : BindsTo s (lamFd F b dV pm ctv) ⟨[], []⟩ (([a] : List Str).zip its) := by
  obtain ⟨u, rfl⟩ := List.length_eq_one_iff.mp hl
  rcases h with ⟨e, _⟩ | ⟨t, e, ⟨o, ho, hc, n, hd⟩⟩
  · cases e
  · rw [e]
    obtain ⟨k, e1, e2⟩ := h2 t pm ctv u
    intro M A Q E q
    rw [e1]
    exact wpAny_bind (wpAny_seqItems ho hd (by show wpAny _ _ (k (some #[u])) _ _ _; rw [e2]; exact wpAny_pure q))
section
variable {T : Tb} {P : Program} {w : World} {K : PySem.W.Frag} {mg : Str → Option Value} {base : Heap} {A : Around} {outer : List Env} {s : Shared} {H : Hp} {EK : XK} {E : XW} {f c Pt : Addr}
abbrev Xfd (P : Program) (w : World) (K : PySem.W.Frag) (mg : Str → Option Value) (base : Heap) (c : Addr) (A : Around) (outer : List Env) (s : Shared) (H : Hp) (EK : XK) (f : Addr) : Cx := cxOf (L2.CX P w) P w K mg base N_field "_law_field" (defScope (top 32)) f (.ref c) A outer s H EK
abbrev mkL (X : Cx) (e : Expr) : Addr → NF := mkLam X (lamP e) (lamS e)
abbrev rdPair (T : Tb) (X : Cx) (e : Expr) (wd : Str) (dvs : List V) : TE := tTup (tCons (tC (.str wd)) (tCons (tLamE T.tabs (lamB e) dvs (mkL X e)) tNil))
abbrev rdCall (X : Cx) (e : Expr) (N : List Str) (dvs : List V) (fl : Str) (i : Nat) : TE := tLamCall N (mkL X e) (lamB e) dvs 3 [0] (tXg X.K fl (tVar i))
abbrev rdAsk (X : Cx) : TE := fun σ H Q => rdCall X lam0 ["_law_e"] [] "length" 0 σ H Q ∨ rdCall X lam1 ["_law_a", "_law_e"] [.int 0] "count" 1 σ H Q ∨ rdCall X lam2 ["_law_e"] [] "position" 0 σ H Q ∨ rdCall X lam3 ["_law_a", "_law_e"] [.int 0] "line" 1 σ H Q
theorem free_lam {sc : Scope} (h : ndefB (defScope (top 32)) sc ["_law_e"] = true) : ∀ y ∈ sc.names, y.2 = .free → (Xfd P w K mg base c A outer s H EK f).env.scope.names.lookup y.1 = some .cell ∨ (Xfd P w K mg base c A outer s H EK f).env.scope.names.lookup y.1 = some .free := ndef_free h
theorem ask0 {e : Expr} {fl : Str} {p1 p2 p pos : Pos} (hx : Passes (L2.CX P w) (Xfd P w K mg base c A outer s H EK f) (fun _ _ _ => False)) (hr : Room 1 (Xfd P w K mg base c A outer s H EK f).A) (hS : nscB ["_law_e"] [] ["_law_e"] (lamS e) = true) (hb : ndefB (defScope (top 32)) (lamS e) ["_law_e"] = true)
    (h1 : ∀ (F : NF) pm ctv, F.params = lamP e → bindArgs (lamFd F (lamB e) .none pm ctv) ⟨[], []⟩ = pure [])
    (h2 : ∀ (F : NF) t pm ctv, F.params = lamP e → ∃ k, bindArgs (lamFd F (lamB e) (.ref t) pm ctv) ⟨[], []⟩ = seqItems? (.ref t) >>= k ∧ k (some #[]) = pure [])
    (he : lamB e = .Attribute (.Name "_law_e" p1) fl p2) (hat : ∀ env, attributeBase (.Name "_law_e" p1) fl env (eval (.Name "_law_e" p1) env) = eval (.Name "_law_e" p1) env) : PE (Xfd P w K mg base c A outer s H EK f) (.Call (.Name "_law_ask" p) [] [] pos) (rdCall (Xfd P w K mg base c A outer s H EK f) e ["_law_e"] [] fl 0) := by
  have S := nscope_by hS
  refine pe_lamC (CX := L2.CX P w) (k := 0) S (fun _ => rfl) (fun _ => rfl) (fun ok => Caps.made ok (free_lam hb) (ndef_fr hb) rfl) rfl hr (Nat.le_refl _) hx rfl (vis_by rfl) (fun c' dV pm ctv s its q l => bind0 (fun pm ctv => h1 _ pm ctv rfl) q l fun t pm ctv => h2 _ t pm ctv rfl) (fun c' A outer s H f _ => ?_) rfl
  rw [he]
  exact pe_xg (pe_var rfl (.inr (.inr (S.frk _ (List.mem_cons_self ..)))) rfl rfl) (hat _)
theorem ask1 {e : Expr} {fl : Str} {p1 p2 p pos : Pos} (hx : Passes (L2.CX P w) (Xfd P w K mg base c A outer s H EK f) (fun _ _ _ => False)) (hr : Room 1 (Xfd P w K mg base c A outer s H EK f).A) (hS : nscB ["_law_a", "_law_e"] ["_law_a"] ["_law_e"] (lamS e) = true) (hb : ndefB (defScope (top 32)) (lamS e) ["_law_e"] = true)
    (h2 : ∀ (F : NF) t pm ctv u, F.params = lamP e → ∃ k, bindArgs (lamFd F (lamB e) (.ref t) pm ctv) ⟨[], []⟩ = seqItems? (.ref t) >>= k ∧ k (some #[u]) = pure [(("_law_a" : Str), u)])
    (he : lamB e = .Attribute (.Name "_law_e" p1) fl p2) (hat : ∀ env, attributeBase (.Name "_law_e" p1) fl env (eval (.Name "_law_e" p1) env) = eval (.Name "_law_e" p1) env) : PE (Xfd P w K mg base c A outer s H EK f) (.Call (.Name "_law_ask" p) [] [] pos) (rdCall (Xfd P w K mg base c A outer s H EK f) e ["_law_a", "_law_e"] [.int 0] fl 1) := by
  have S := nscope_by hS
  refine pe_lamC (CX := L2.CX P w) (k := 0) S (fun _ => rfl) (fun _ => rfl) (fun ok => Caps.made ok (free_lam hb) (ndef_fr hb) rfl) rfl hr (Nat.le_refl _) hx rfl (vis_by rfl) (fun c' dV pm ctv s its q l => bind1 q l fun t pm ctv u => h2 _ t pm ctv u rfl) (fun c' A outer s H f _ => ?_) rfl
  rw [he]
  exact pe_xg (pe_var rfl (.inr (.inr (S.frk _ (List.mem_cons_self ..)))) rfl rfl) (hat _)
end
end
end WK
set_option Elab.async false
set_option linter.all false
set_option maxRecDepth 100000
set_option maxHeartbeats 0
/-! the end of _law_field: its derivation -/
namespace WK
noncomputable section
open PySem PySem.Spec PyProof.Rows L2 LamX NdefX
def tTail (T : Tb) (X : Cx) : TS := tSeq (tAsg (tLst (tCons (rdPair T X lam0 "invalidlength" []) (tCons (rdPair T X lam1 "invalidcount" [.int 0]) tNil))) (gName 1))
  (tSeq (tAsg (tOp rCat (tVar 1) (tLst (tCons (rdPair T X lam2 "invalidcommand" []) (tCons (rdPair T X lam3 "invalidfile" [.int 0]) tNil)))) (gName 1))
  (tSeq (tFor (iList X.K (tVar 1)) (gTup X.K 2 (gCons (gName 2) (gCons (gName 3) gNil))) (tIfS (tTest (tOp rEq (tVar 2) (tXg X.K "word" (tVar 0)))) (tRet (rdAsk X)) tNext))
    (tRet (tC .non))))
section
variable {T : Tb} {P : Program} {w : World} {K : PySem.W.Frag} {mg : Str → Option Value} {base : Heap} {A : Around} {outer : List Env} {s : Shared} {H : Hp} {EK : XK} {E : XW} {f c Pt : Addr}
theorem ask_all {p pos : Pos} (hx : Passes (L2.CX P w) (Xfd P w K mg base c A outer s H EK f) (fun _ _ _ => False)) (hr : Room 1 (Xfd P w K mg base c A outer s H EK f).A) : PE (Xfd P w K mg base c A outer s H EK f) (.Call (.Name "_law_ask" p) [] [] pos) (rdAsk (Xfd P w K mg base c A outer s H EK f)) :=
  pe_or (ask0 hx hr (by decide +kernel) (by decide +kernel) (fun F pm ctv e => by unfold lamFd; rw [e]; rfl) (fun F t pm ctv e => by unfold lamFd; rw [e]; exact ⟨_, rfl, rfl⟩) rfl fun _ => rfl)
  (pe_or (ask1 hx hr (by decide +kernel) (by decide +kernel) (fun F t pm ctv u e => by unfold lamFd; rw [e]; exact ⟨_, rfl, rfl⟩) rfl fun _ => rfl)
  (pe_or (ask0 hx hr (by decide +kernel) (by decide +kernel) (fun F pm ctv e => by unfold lamFd; rw [e]; rfl) (fun F t pm ctv e => by unfold lamFd; rw [e]; exact ⟨_, rfl, rfl⟩) rfl fun _ => rfl)
  (ask1 hx hr (by decide +kernel) (by decide +kernel) (fun F t pm ctv u e => by unfold lamFd; rw [e]; exact ⟨_, rfl, rfl⟩) rfl fun _ => rfl)))
theorem tail_pss (hT : TailF T K mg base c Pt) (hx : Passes (L2.CX P w) (Xfd P w K mg base c A outer s H EK f) (fun _ _ _ => False)) (hr : Room 1 (Xfd P w K mg base c A outer s H EK f).A) : PSs (Xfd P w K mg base c A outer s H EK f) ((defBody (top 32)).drop 4) (tTail T (Xfd P w K mg base c A outer s H EK f)) := by
  have l0 : PE (Xfd P w K mg base c A outer s H EK f) lam0 (tLamE T.tabs (lamB lam0) [] (mkL (Xfd P w K mg base c A outer s H EK f) lam0)) := pe_lamE0 hT.tb rfl hT.tm rfl hT.tu (free_lam (by decide +kernel)) rfl
  have l1 : PE (Xfd P w K mg base c A outer s H EK f) lam1 (tLamE T.tabs (lamB lam1) [.int 0] (mkL (Xfd P w K mg base c A outer s H EK f) lam1)) := pe_lamE1 hT.tb rfl hT.tm rfl hT.tu (free_lam (by decide +kernel)) rfl pe_int
  have l2 : PE (Xfd P w K mg base c A outer s H EK f) lam2 (tLamE T.tabs (lamB lam2) [] (mkL (Xfd P w K mg base c A outer s H EK f) lam2)) := pe_lamE0 hT.tb rfl hT.tm rfl hT.tu (free_lam (by decide +kernel)) rfl
  have l3 : PE (Xfd P w K mg base c A outer s H EK f) lam3 (tLamE T.tabs (lamB lam3) [.int 0] (mkL (Xfd P w K mg base c A outer s H EK f) lam3)) := pe_lamE1 hT.tb rfl hT.tm rfl hT.tu (free_lam (by decide +kernel)) rfl pe_int
  exact pss_cons (ps_asg (pe_lst (pa_cons (pe_tup (pa_cons pe_str (pa_cons l0 pa_nil rfl) rfl)) (pa_cons (pe_tup (pa_cons pe_str (pa_cons l1 pa_nil rfl) rfl)) pa_nil rfl) rfl)) (pg_name sc_field.nd rfl (loc_by rfl) (.inl rfl)) rfl rfl rfl)
    (pss_cons (ps_asg (pe_op op_cat (pe_var rfl (vis_by rfl) rfl rfl) (pe_lst (pa_cons (pe_tup (pa_cons pe_str (pa_cons l2 pa_nil rfl) rfl)) (pa_cons (pe_tup (pa_cons pe_str (pa_cons l3 pa_nil rfl) rfl)) pa_nil rfl) rfl))) (pg_name sc_field.nd rfl (loc_by rfl) (.inl rfl)) rfl rfl rfl)
    (pss_cons (ps_for owns_cx rfl (pi_list (pe_var rfl (vis_by rfl) rfl rfl)) (pg_tup rfl (pgs_cons (pg_name sc_field.nd rfl (loc_by rfl) (.inl rfl)) (pgs_cons (pg_name sc_field.nd rfl (loc_by rfl) (.inl rfl)) pgs_nil rfl) rfl) rfl rfl)
      (pss_one (ps_if (pt_cmpR op_eq (pe_var rfl (vis_by rfl) rfl rfl) (pe_xg (pe_var rfl (vis_by rfl) rfl rfl) rfl) rfl) (pss_one (ps_ret (ask_all hx hr))) pss_nil)) (fun _ => rfl))
      (pss_one (ps_ret pe_non))))
end
end
end WK
set_option Elab.async false
set_option linter.all false
set_option maxRecDepth 100000
set_option maxHeartbeats 0
/-! the end of _law_field: what it does -/
namespace WK
noncomputable section
open PySem PySem.Spec PyProof.Rows L2 LamX NdefX
def wdF (wd : Str) : Option Nat := match decide (wd = "invalidlength") with
  | true => some 4
  | false => match decide (wd = "invalidcount") with
    | true => some 5
    | false => match decide (wd = "invalidcommand") with
      | true => some 7
      | false => match decide (wd = "invalidfile") with
        | true => some 8
        | false => none
def rTail : RunS := fun m h => match getS m 0 with
  | some (.exc c fs) => ifT (memN c cs24) (match lk 0 fs with
    | some (.str wd) => match wdF wd with
      | some f => match lk f fs with
        | some y => .ret (.rt y h)
        | none => .bad
      | none => .ret (.rt .non h)
    | _ => .bad)
  | _ => .bad
section
variable {T : Tb} {X : Cx} {ρ : Rho} {h : MH} {H H1 H2 : Hp} {σ : L2.St} {Q : VK}
theorem lam_step (g : SimH T X.K ρ h H1) (x : ExtN H1 H2) (n : ∀ b, H2 b = none → H1 b = none) (t : TabsP T.tabs (fun b => ¬ Mu ρ h b) H2) : SimH T X.K ρ h H2 ∧ Le ρ h H1 ρ h H2 := by
  have kp : ∀ a o, H1 a = some o → isTbl o = false → H2 a = some o := fun a o e z => x a o e fun ps q => by rw [q] at z; cases z
  have lv : ∀ a o, H1 a = some o → ∃ u, H2 a = some u := fun a o e => by
    cases q : H2 a with
    | some u => exact ⟨u, rfl⟩
    | none => rw [n a q] at e; cases e
  have L : Le ρ h H1 ρ h H2 := ⟨fun _ _ e => e, fun _ _ e => e, Nat.le_refl _, fun _ m => m, fun _ m => .inl m, fun _ m => .inl m, fun a o e _ z => kp a o e z, lv⟩
  exact ⟨⟨g.lt, g.ltv, t, g.inj, fun l o e => by
    obtain ⟨a, r, q⟩ := g.ob l o e
    exact ⟨a, r, q.le L fun u z e => kp a u e z⟩, fun a m => by
    obtain ⟨o, e⟩ := g.am a m
    exact lv a o e, g.dis⟩, L⟩
/-- at t stands the pair of a word and a lambda -/
def PF (X : Cx) (e : Expr) (wd : Str) (dvs : List V) (H : Hp) (t : Addr) : Prop := ∃ f c' dV, H t = some (.tup [.str wd, .ref f]) ∧ H f = some (LamO f (mkL X e c') (lamB e) dV) ∧ H c' = some (CodeO c' (mkL X e c').qual) ∧ DfO H dvs dV
theorem extN_new {p : Addr} {o : HO} (n : H p = none) : ExtN H (upd H p o) := fun b u e _ => by rw [upd_ne (ne_of_none e n)]; exact e
theorem DfO.ext {dvs : List V} {dV : Value} (x : ExtN H1 H2) (d : DfO H1 dvs dV) : DfO H2 dvs dV := d.imp id fun ⟨t, e, q⟩ => ⟨t, e, x _ _ q fun _ z => by cases z⟩
theorem PF.ext {e : Expr} {wd : Str} {dvs : List V} {t : Addr} (x : ExtN H1 H2) (p : PF X e wd dvs H1 t) : PF X e wd dvs H2 t :=
  let ⟨f, c', dV, p1, p2, p3, p4⟩ := p; ⟨f, c', dV, x _ _ p1 (fun _ z => by cases z), x _ _ p2 (fun _ z => by unfold LamO at z; cases z), x _ _ p3 (fun _ z => codeO_ne _ z), p4.ext x⟩
theorem pair_step {e : Expr} {wd : Str} {dvs : List V} (g : SimH T X.K ρ h H1) (k : ∀ t H2, SimH T X.K ρ h H2 → Le ρ h H1 ρ h H2 → ExtN H1 H2 → PF X e wd dvs H2 t → Q (.ref t) H2) : rdPair T X e wd dvs σ H1 Q :=
  ⟨fun b => ¬ Mu ρ h b, g.tb, fun b e => g.nomu e, fun f c' dV H2 x1 x2 x3 x4 x5 x6 x7 => ⟨by show 2 ≤ sizeLine; decide, fun p np => by
    obtain ⟨g2, l2⟩ := lam_step g x1 x2 x3
    have xn := extN_new (o := .tup [.str wd, .ref f]) np
    exact k p _ (g2.neu np) (l2.trans (Le.neu np)) (x1.trans xn) ⟨f, c', dV, upd_same, xn _ _ x5 (fun _ z => by unfold LamO at z; cases z), xn _ _ x6 (fun _ z => codeO_ne _ z), x7.ext xn⟩⟩⟩
theorem list_step {e e' : Expr} {wd wd' : Str} {dvs dvs' : List V} (g : SimH T X.K ρ h H1) (k : ∀ p t t' H2, SimH T X.K ρ h H2 → Le ρ h H1 ρ h H2 → ExtN H1 H2 → H1 p = none → H2 p = some (.lst [.ref t, .ref t']) → PF X e wd dvs H2 t → PF X e' wd' dvs' H2 t' → Q (.ref p) H2) :
    tLst (tCons (rdPair T X e wd dvs) (tCons (rdPair T X e' wd' dvs') tNil)) σ H1 Q := by
  show rdPair T X e wd dvs σ H1 fun x H2 => rdPair T X e' wd' dvs' σ H2 fun y H3 => [x, y].length ≤ sizeLine ∧ ∀ p, H3 p = none → Q (.ref p) (upd H3 p (.lst [x, y]))
  exact pair_step g fun t H2 g2 l2 x2 p2 => pair_step g2 fun t' H3 g3 l3 x3 p3 => ⟨by show 2 ≤ sizeLine; decide, fun p np => by
    have xn := extN_new (o := .lst [.ref t, .ref t']) np
    have n1 : H1 p = none := by
      cases q : H1 p with
      | none => rfl
      | some o =>
        obtain ⟨u, eu⟩ := (l2.trans l3).live p o q
        rw [np] at eu; cases eu
    exact k p t t' _ (g3.neu np) ((l2.trans l3).trans (Le.neu np)) ((x2.trans x3).trans xn) n1 upd_same ((p2.ext x3).ext xn) (p3.ext xn)⟩
end
end
end WK
set_option Elab.async false
set_option linter.all false
set_option maxRecDepth 100000
set_option maxHeartbeats 0
/-! the end of _law_field: what it does -/
namespace WK
noncomputable section
open PySem PySem.Spec PyProof.Rows L2 LamX NdefX
def wds4 : List Str := ["invalidlength", "invalidcount", "invalidcommand", "invalidfile"]
theorem wdF_none {wd : Str} (h : ∀ z ∈ wds4, z ≠ wd) : wdF wd = none := by
  unfold wdF
  rw [decide_eq_false fun e => h _ (by decide) e.symm]
  dsimp only
  rw [decide_eq_false fun e => h _ (by decide) e.symm]
  dsimp only
  rw [decide_eq_false fun e => h _ (by decide) e.symm]
  dsimp only
  rw [decide_eq_false fun e => h _ (by decide) e.symm]
section
variable {T : Tb} {X : Cx} {ρ : Rho} {h : MH} {H : Hp} {Q : VK}
/-- one turn of the walk -/
theorem turn {e : Expr} {w0 wd : Str} {dvs : List V} {t p a d C : Addr} {gs : List (Str × V)} {c2 c3 : Option V} {D : Ends} {tr : TS} (pf : PF X e w0 dvs H t) (r1 : H a = some (exo a C (some d))) (r2 : H d = some (exd d gs)) (xf : XfC X.K C) (no : PySem.W.findIn X.K (.ref C) "word" = some none) (lw : gs.lookup ("word" : Str) = some (V.str wd))
    (kt : w0 = wd → ∀ f c' dV, H f = some (LamO f (mkL X e c') (lamB e) dV) → H (mkL X e c').c = some (CodeO (mkL X e c').c (mkL X e c').qual) → DfO H dvs dV → tr D [some (.ref a), some (.ref p), some (.str w0), some (.ref f)] H)
    (kf : w0 ≠ wd → ∀ f : Addr, D.nx [some (.ref a), some (.ref p), some (.str w0), some (.ref f)] H) :
    gTup X.K 2 (gCons (gName 2) (gCons (gName 3) gNil)) (.ref t) [some (.ref a), some (.ref p), c2, c3] H fun σ2 H2 => tIfS (tTest (tOp rEq (tVar 2) (tXg X.K "word" (tVar 0)))) tr tNext D σ2 H2 := by
  obtain ⟨f, c', dV, q1, q2, q3, q4⟩ := pf
  refine ⟨t, _, rfl, SqT.of q1, rfl, .str w0, [.ref f], rfl, .ref f, [], rfl, rfl, ?_⟩
  show tIfS _ _ _ _ [some (.ref a), some (.ref p), some (.str w0), some (.ref f)] H
  refine ⟨.str w0, rfl, .ref a, rfl, a, C, d, gs, .str wd, rfl, r1, r2, xf, no, lw, rfl, _, rfl, ?_⟩
  by_cases hw : w0 = wd
  · subst hw
    show (if decide (V.str w0 = V.str w0) = true then _ else _)
    rw [if_pos (decide_eq_true rfl)]
    exact kt rfl f c' dV q2 q3 q4
  · show (if decide (V.str w0 = V.str wd) = true then _ else _)
    rw [if_neg (by rw [decide_eq_false (fun z => hw (by cases z; rfl))]; exact Bool.false_ne_true)]
    exact kf hw f
end
section
variable {T : Tb} {P : Program} {w : World} {K : PySem.W.Frag} {mg : Str → Option Value} {base : Heap} {A : Around} {outer : List Env} {s : Shared} {H0 : Hp} {EK : XK} {E : XW} {f c Pt : Addr}
theorem tail_pure (hT : TailF T K mg base c Pt) {D : Ends} {σ : L2.St} {H : Hp} (hl : σ.length = 4) (q : tS T K E rTail D σ H) : tTail T (Xfd P w K mg base c A outer s H0 EK f) D σ H := by
  obtain ⟨ρ, m, h, s1, s2, wq⟩ := q
  unfold rTail at wq
  cases e0 : getS m 0 with
  | none => rw [e0] at wq; exact wq.elim
  | some x =>
  rw [e0] at wq
  cases x with
  | exc k fs =>
    dsimp only at wq
    obtain ⟨hm, wq⟩ := ifT_wp wq
    cases e1 : lk 0 fs with
    | none => rw [e1] at wq; exact wq.elim
    | some y =>
    rw [e1] at wq
    cases y with
    | str wd =>
      dsimp only at wq
      obtain ⟨v, ev, dv⟩ := s2.at_ 0 _ (getS_ok e0)
      obtain ⟨a0, b1, b2, b3, rfl⟩ : ∃ a0 b1 b2 b3, σ = [a0, b1, b2, b3] := by
        match σ, hl with
        | [a0, b1, b2, b3], _ => exact ⟨_, _, _, _, rfl⟩
      obtain rfl : a0 = some v := Option.some.inj ev
      cases dv with
      | @exc _ _ gs a d n1 r1 n2 r2 df =>
      have hk := memN_ok hm
      obtain ⟨u, lw, q2, _⟩ := den_lk df e1
      cases q2
      obtain ⟨xf, no⟩ := hT.x0 k hk
      rw [nm_at hT.nm (n := "word") rfl] at lw no
      unfold tTail
      unfold tSeq tAsg
      dsimp only
      refine list_step (X := Xfd P w K mg base c A outer s H0 EK f) s1 fun L t0 t1 H1 g1 l1 x1 n1' eL p0 p1 => ?_
      show ∃ v, [some (.ref a), some (.ref L), b2, b3][1]? = some (some v) ∧ _
      refine ⟨.ref L, rfl, list_step g1 fun L2 t2 t3 H2 g2 l2 x2 n2' eL2 p2 p3 => ?_⟩
      refine ⟨L, L2, _, _, rfl, rfl, x2 _ _ eL (fun _ z => by cases z), eL2, by show 4 ≤ sizeLine; decide, fun p np => ?_⟩
      have x3 := extN_new (o := .lst ([.ref t0, .ref t1] ++ [.ref t2, .ref t3])) np
      have g3 := g2.neu (o := .lst ([.ref t0, .ref t1] ++ [.ref t2, .ref t3])) np
      have l3 := (l1.trans l2).trans (Le.neu (h := h) (ρ := ρ) (o := .lst ([.ref t0, .ref t1] ++ [.ref t2, .ref t3])) np)
      have P0 := (p0.ext x2).ext x3
      have P1 := (p1.ext x2).ext x3
      have P2 := p2.ext x3
      have P3 := p3.ext x3
      have eP : (upd H2 p (.lst ([.ref t0, .ref t1] ++ [.ref t2, .ref t3]))) p = some (.lst [.ref t0, .ref t1, .ref t2, .ref t3]) := upd_same
      have R1 := l3.kp r1 n1 rfl
      have R2 := l3.kp r2 n2 rfl
      have df3 := df.le l3
      revert x3 g3 l3 P0 P1 P2 P3 eP R1 R2 df3
      generalize upd H2 p (.lst ([.ref t0, .ref t1] ++ [.ref t2, .ref t3])) = H3
      intro x3 g3 l3 P0 P1 P2 P3 eP R1 R2 df3
      show ∃ v, [some (.ref a), some (.ref p), b2, b3][1]? = some (some v) ∧ _
      refine ⟨.ref p, rfl, p, rfl, ⟨_, SqL.of eP⟩, ?_⟩
      have fin : ∀ {fi : Nat} {fl : Str}, wdF wd = some fi → XgOk T K cs24 fi → nmS T fi = fl → XfC K (cAd T K k) ∧ PySem.W.findIn K (.ref (cAd T K k)) fl = some none ∧ ∃ v, gs.lookup fl = some v ∧ D.rt v H3 := fun {fi fl} e2 hx hn => by
        rw [e2] at wq
        dsimp only at wq
        cases e3 : lk fi fs with
        | none => rw [e3] at wq; exact wq.elim
        | some y =>
          rw [e3] at wq
          obtain ⟨u3, q5, q6, _⟩ := den_lk df3 e3
          obtain ⟨y1, y2⟩ := hx k hk
          rw [hn] at q5 y2
          exact ⟨y1, y2, u3, q5, wq ρ H3 u3 l3 g3 q6⟩
      refine for_list (xs := [.ref t0, .ref t1, .ref t2, .ref t3]) (fun i σ' H' => H' = H3 ∧ (∃ c2 c3, σ' = [some (.ref a), some (.ref p), c2, c3]) ∧ ∀ z ∈ wds4.take i, z ≠ wd) ⟨rfl, ⟨_, _, rfl⟩, fun z hz => by cases hz⟩ (fun i σ' H' _ ⟨e, _⟩ => by rw [e]; exact SqL.of eP) (fun i x σ' H' hx ⟨e, ⟨c2, c3, e2⟩, pw⟩ => ?_) (fun σ' H' ⟨e, ⟨c2, c3, e2⟩, pw⟩ => ?_)
      · subst e2
        rw [e]
        have nx : ∀ (n : Nat) (w0 : Str), wds4.take (n + 1) = wds4.take n ++ [w0] → (∀ z ∈ wds4.take n, z ≠ wd) → w0 ≠ wd → ∀ z ∈ wds4.take (n + 1), z ≠ wd := fun n w0 en pw nw z hz => by
          rw [en] at hz
          rcases List.mem_append.mp hz with q | q
          · exact pw z q
          · rw [List.mem_singleton.mp q]; exact nw
        rcases i with _ | _ | _ | _ | i
        · obtain rfl : V.ref t0 = x := Option.some.inj hx
          refine turn P0 R1 R2 xf no lw (fun hw f c' dV z1 z2 z3 => ?_) fun hw f => ⟨rfl, ⟨_, _, rfl⟩, nx 0 _ rfl pw hw⟩
          obtain ⟨y1, y2, v, y3, y4⟩ := fin (fi := 4) (fl := "length") (by rw [← hw]; decide +kernel) hT.x4 (nm_at hT.nm rfl)
          exact .inl ⟨f, c', dV, rfl, z1, z2, z3, .ref a, rfl, a, _, d, gs, v, rfl, R1, R2, y1, y2, y3, y4⟩
        · obtain rfl : V.ref t1 = x := Option.some.inj hx
          refine turn P1 R1 R2 xf no lw (fun hw f c' dV z1 z2 z3 => ?_) fun hw f => ⟨rfl, ⟨_, _, rfl⟩, nx 1 _ rfl pw hw⟩
          obtain ⟨y1, y2, v, y3, y4⟩ := fin (fi := 5) (fl := "count") (by rw [← hw]; decide +kernel) hT.x5 (nm_at hT.nm rfl)
          exact .inr (.inl ⟨f, c', dV, rfl, z1, z2, z3, .ref a, rfl, a, _, d, gs, v, rfl, R1, R2, y1, y2, y3, y4⟩)
        · obtain rfl : V.ref t2 = x := Option.some.inj hx
          refine turn P2 R1 R2 xf no lw (fun hw f c' dV z1 z2 z3 => ?_) fun hw f => ⟨rfl, ⟨_, _, rfl⟩, nx 2 _ rfl pw hw⟩
          obtain ⟨y1, y2, v, y3, y4⟩ := fin (fi := 7) (fl := "position") (by rw [← hw]; decide +kernel) hT.x7 (nm_at hT.nm rfl)
          exact .inr (.inr (.inl ⟨f, c', dV, rfl, z1, z2, z3, .ref a, rfl, a, _, d, gs, v, rfl, R1, R2, y1, y2, y3, y4⟩))
        · obtain rfl : V.ref t3 = x := Option.some.inj hx
          refine turn P3 R1 R2 xf no lw (fun hw f c' dV z1 z2 z3 => ?_) fun hw f => ⟨rfl, ⟨_, _, rfl⟩, nx 3 _ rfl pw hw⟩
          obtain ⟨y1, y2, v, y3, y4⟩ := fin (fi := 8) (fl := "line") (by rw [← hw]; decide +kernel) hT.x8 (nm_at hT.nm rfl)
          exact .inr (.inr (.inr ⟨f, c', dV, rfl, z1, z2, z3, .ref a, rfl, a, _, d, gs, v, rfl, R1, R2, y1, y2, y3, y4⟩))
        · cases hx
      · rw [e]
        rw [wdF_none pw] at wq
        exact wq ρ H3 .non l3 g3 .non
    | _ => exact wq.elim
  | _ => exact wq.elim
theorem tail_ok (hT : TailF T K mg base c Pt) (tk : Takes (Xfd P w K mg base c A outer s H0 EK f) (wx T K E)) (hr : Room 1 (Xfd P w K mg base c A outer s H0 EK f).A) : SSs T (Xfd P w K mg base c A outer s H0 EK f) E ((defBody (top 32)).drop 4) rTail :=
  ⟨fun pins s' σ H D I q => (tail_pss hT (pass_wx tk) hr).run pins s' σ H D I (tail_pure hT I.len q)⟩
/-- a def whose code object is known -/
theorem fn_runC {x qual : Str} {params : Arguments} {body : List Stmt} {scope : Scope} {dvs : List V} {kws : List (Str × V)} {fd : FuncData} {N ps : List Str} {k j : Nat} {b : RunS} (F : FunD K x qual params body scope dvs kws f fd) (hc : fd.code = .ref c) (S : FnScope N ps scope) (hN : N.length = ps.length + j)
    (hb : ∀ (A : Around) (outer : List Env) (s : Shared) (H : Hp) (EK : XK) (E : XW), Room k (A.deeper (envOfC qual scope s.heap.objs.size f (.ref c))) → Takes (cxOf (L2.CX P w) P w K mg base N qual scope f (.ref c) A outer s H EK) (wx T K E) → SSs T (cxOf (L2.CX P w) P w K mg base N qual scope f (.ref c) A outer s H EK) E body b) :
    FnOk P w K mg base (L2.CX P w) (k + 1) f fd ps (spF T K ps.length (runDef j b)) := by
  obtain ⟨oc, od, dV, kV, doc, pm, an, cdv, ct, osl, rfl, lk, hcd, hD, hK⟩ := F.ex
  obtain rfl : cdv = .ref c := hc
  refine fn_of lk hcd S (fun vs H Q E h => h.1) fun A outer s H vs Q EK hr h => ?_
  have tk : Takes (cxOf (L2.CX P w) P w K mg base N qual scope f (.ref c) A outer s H EK) (wx T K (XF T K EK)) := Takes.imp (takes_of (X := cxOf (L2.CX P w) P w K mg base N qual scope f (.ref c) A outer s H EK) (E := EK) rfl rfl rfl rfl) fun c d σ H ⟨ρ, m, h, x, s1, s2, xd, e⟩ => e c d xd
  refine ⟨_, hb A outer s H EK (XF T K EK) hr tk, ?_⟩
  obtain ⟨hl, ρ, xs, h, s1, d, w1⟩ := h
  refine ⟨ρ, _, h, s1, SimS.start d (by rw [hN, hl]), Tr.wp_mono ((Tr.wp_bind _ _ _).mp w1) fun r q => ?_⟩
  cases r with
  | nx m1 h1 => exact fun ρ1 H1 σ1 l s d => q ρ1 H1 .non l s .non
  | bk _ _ => exact q.elim
  | ct _ _ => exact q.elim
  | rt v h1 => exact q
  | ex y m1 h1 => exact fun ρ1 H1 l s cls da xd => q ρ1 H1 cls da l s xd
end
end
end WK
set_option Elab.async false
set_option linter.all false
set_option maxRecDepth 100000
set_option maxHeartbeats 0
namespace WK
noncomputable section
open PySem L2
def r_field : RunS := (runSeq (runIf (run2 (run1 (runVar 0) (opXg cs24 0)) (runArgs (runCons (cS "invalidname") (runCons (cS "duplicatename") (runCons (cS "nameinuse") (runCons (cS "unknownname") runNil)))) (kLst false)) (cOp cIn)) (runRet (run1 (runVar 0) (opXg cs24 6))) nxS)
    (runSeq (runIf (run2 (run1 (runVar 0) (opXg cs24 0)) (runArgs (runCons (cS "limitexceeded") (runCons (cS "capacityexceeded") runNil)) (kLst false)) (cOp cIn)) (runRet (run1 (runVar 0) (opXg cs24 2))) nxS)
    (runSeq (runIf (run2 (run1 (runVar 0) (opXg cs24 0)) (runArgs (runCons (cS "invalidgraph") (runCons (cS "invalidrow") (runCons (cS "invalidpath") (runCons (cS "invalidcode") runNil)))) (kLst false)) (cOp cIn)) (runRet (run1 (runVar 0) (opXg cs24 1))) nxS)
    (runSeq (runIf (run2 (run1 (runVar 0) (opXg cs24 0)) (runArgs (runCons (cS "outofrange") (runCons (cS "invalidwidth") (runCons (cS "invalidcapacity") runNil))) (kLst false)) (cOp cIn)) (runRet (run1 (runVar 0) (opXg cs24 3))) nxS)
    rTail))))
theorem ok_field {P : Program} {w : World} {K : PySem.W.Frag} {mg : Str → Option Value} {base : Heap} {T : Tb} (hnm : T.nm = nm56) (xg_limit : XgOk T K cs24 2) (xg_name : XgOk T K cs24 6) (xg_number : XgOk T K cs24 3) (xg_place : XgOk T K cs24 1) (xg_word : XgOk T K cs24 0) {f : Addr} {fd : FuncData} {c Pt : Addr} (F : FnP K "_law_field" 32 f fd) (hc : fd.code = .ref c) (hT : TailF T K mg base c Pt) :
    FnOk P w K mg base (L2.CX P w) 2 f fd ["_law_e"] (spF T K 1 (runDef 3 r_field)) :=
  fn_runC F hc sc_field rfl fun A outer s H EK E hr tk =>
    (ss_cons (s_if (s_cmp (op_inA (u65 hr)) cIn_ok (s_xg (s_var rfl (vis_by rfl) rfl rfl) (nm_at hnm rfl) xg_word rfl) (s_lst false (a_cons cs (a_cons cs (a_cons cs (a_cons cs a_nil rfl) rfl) rfl) rfl) (by decide)) rfl) (ss_one (s_ret (s_xg (s_var rfl (vis_by rfl) rfl rfl) (nm_at hnm rfl) xg_name rfl))) ss_nil)
    (ss_cons (s_if (s_cmp (op_inA (u65 hr)) cIn_ok (s_xg (s_var rfl (vis_by rfl) rfl rfl) (nm_at hnm rfl) xg_word rfl) (s_lst false (a_cons cs (a_cons cs a_nil rfl) rfl) (by decide)) rfl) (ss_one (s_ret (s_xg (s_var rfl (vis_by rfl) rfl rfl) (nm_at hnm rfl) xg_limit rfl))) ss_nil)
    (ss_cons (s_if (s_cmp (op_inA (u65 hr)) cIn_ok (s_xg (s_var rfl (vis_by rfl) rfl rfl) (nm_at hnm rfl) xg_word rfl) (s_lst false (a_cons cs (a_cons cs (a_cons cs (a_cons cs a_nil rfl) rfl) rfl) rfl) (by decide)) rfl) (ss_one (s_ret (s_xg (s_var rfl (vis_by rfl) rfl rfl) (nm_at hnm rfl) xg_place rfl))) ss_nil)
    (ss_cons (s_if (s_cmp (op_inA (u65 hr)) cIn_ok (s_xg (s_var rfl (vis_by rfl) rfl rfl) (nm_at hnm rfl) xg_word rfl) (s_lst false (a_cons cs (a_cons cs (a_cons cs a_nil rfl) rfl) rfl) (by decide)) rfl) (ss_one (s_ret (s_xg (s_var rfl (vis_by rfl) rfl rfl) (nm_at hnm rfl) xg_number rfl))) ss_nil)
    (tail_ok hT tk hr)))))
end
end WK
set_option Elab.async false
set_option linter.all false
set_option maxRecDepth 100000
set_option maxHeartbeats 0
/-! _law_pool: seven texts, none longer than 64 -/
namespace WK
noncomputable section
open PySem L2
abbrev LET : Str := "abcdefghijklmnopqrstuvwxyz"
abbrev pul (n : RunE) : RunE := runArgs (runCons (runVar 0) (runCons n runNil)) (runF false [] runPull)
theorem pull_lit {h : MH} {l : Nat} {n : Int} (e : h.get l = some .bag) (h0 : 0 < n) (h1 : n ≤ 1000) : runPull [.ref l, .int n] h = .ask n fun r => okE (.int r) h := by
  have c : (decide (0 < n) && Nat.ble n.natAbs (10 ^ 30)) = true := by
    rw [decide_eq_true h0, Bool.true_and, Nat.ble_eq]
    exact Nat.le_trans (by omega : n.natAbs ≤ 1000) (by decide)
  unfold runPull
  simp only [e, c]
  show drawT n h = _
  unfold drawT
  rw [decide_eq_true h1]
theorem bl_ret {α : Type} {vs : List MV} {h : MH} {f : List MV → MH → Tr α} {g : MV → MH → Tr α} : Tr.bl (.ret (.ok vs h)) f g = f vs h := rfl
theorem pul_run {m : MS} {h : MH} {l : Nat} {n : Int} {N : RunE} (e : h.get l = some .bag) (g0 : getS m 0 = some (.ref l)) (hN : N m h = okE (.int n) h) (h0 : 0 < n) (h1 : n ≤ 1000) : pul N m h = .ask n fun r => okE (.int r) h := by
  have v0 : runVar 0 m h = okE (.ref l) h := by unfold runVar; rw [g0]
  simp only [runArgs, runCons, runNil, v0, be_okE, hN, bl_ret]
  exact pull_lit e h0 h1
theorem be_wp {α : Type} {t : Tr ER} {f g : MV → MH → Tr α} {Q : α → Prop} (w : t.wp fun r => ∃ v h', r = .ok v h' ∧ (f v h').wp Q) : (t.be f g).wp Q := (Tr.wp_bind _ _ _).mpr (Tr.wp_mono w fun r ⟨v, h', e, q⟩ => by subst e; exact q)
theorem bl_wp {α : Type} {t : Tr EL} {f : List MV → MH → Tr α} {g : MV → MH → Tr α} {Q : α → Prop} (w : t.wp fun r => ∃ v h', r = .ok v h' ∧ (f v h').wp Q) : (Tr.bl t f g).wp Q := (Tr.wp_bind _ _ _).mpr (Tr.wp_mono w fun r ⟨v, h', e, q⟩ => by subst e; exact q)
theorem seq_wp {f g : RunS} {m : MS} {h : MH} {Q : SR → Prop} (w : (f m h).wp fun r => ∃ m' h', r = .nx m' h' ∧ (g m' h').wp Q) : (runSeq f g m h).wp Q := (Tr.wp_bind _ _ _).mpr (Tr.wp_mono w fun r ⟨v, h', e, q⟩ => by subst e; exact q)
theorem ok_wp {Q : ER → Prop} {v : MV} {h : MH} (q : Q (.ok v h)) : (okE v h).wp Q := q
theorem let_at {r : Int} (r0 : 0 ≤ r) (r1 : r < 26) {h : MH} : ∃ z : Str, z.length = 1 ∧ opIx (.str LET) (.int r) h = okE (.str z) h := by
  obtain ⟨j, rfl⟩ : ∃ j : Nat, r = j := ⟨r.toNat, by omega⟩
  have hj : j < 26 := by omega
  have key : ∀ j : Fin 26, ∃ c, atI LET.cps.toList (j.val : Int) = some c := by
    intro j
    have q : (atI LET.cps.toList (j.val : Int)).isSome = true := by
      revert j; decide +kernel
    exact Option.isSome_iff_exists.mp q
  obtain ⟨c, hc⟩ := key ⟨j, hj⟩
  have hc : atI LET.cps.toList (j : Int) = some c := hc
  refine ⟨⟨#[c]⟩, rfl, ?_⟩
  have lb : leB LET.length sizeLine = true := by decide +kernel
  show ifT (leB LET.length sizeLine) (match atI LET.cps.toList (j : Int) with
      | some c => okE (.str ⟨#[c]⟩) h
      | none => .bad) = _
  rw [lb, hc]; rfl
section
variable {h : MH} {l : Nat} (e : h.get l = some .bag)
include e
theorem letters_loop : ∀ (n : Nat) (lo : Int) (acc : List MV), (loopC (gNm 5) yesR (run2 (runVar 1) (pul (cI 26)) opIx) (rngM lo n) [some (.ref l), some (.str LET), none, none, none, none] h acc).wp fun r => ∃ zs : List Str, zs.length = n ∧ (∀ z ∈ zs, z.length = 1) ∧ r = .ok (acc.reverse ++ zs.map .str) h
  | 0, lo, acc => ⟨[], rfl, ⟨(fun z hz => by cases hz), by simp⟩⟩
  | n + 1, lo, acc => by
    show ((run2 (runVar 1) (pul (cI 26)) opIx [some (.ref l), some (.str LET), none, none, none, some (.int lo)] h).be (fun y h3 => loopC (gNm 5) yesR (run2 (runVar 1) (pul (cI 26)) opIx) (rngM (lo + 1) n) [some (.ref l), some (.str LET), none, none, none, none] h3 (y :: acc)) (fun _ _ => .bad)).wp _
    refine be_wp ?_
    show ((okE (.str LET) h).be (fun x h1 => (pul (cI 26) _ h1).be (fun y h2 => opIx x y h2) exE) exE).wp _
    rw [be_okE, pul_run (n := 26) e rfl rfl (by decide) (by decide)]
    intro r r0 r1
    obtain ⟨z, hz, hr⟩ := let_at (h := h) r0 r1
    show (opIx (.str LET) (.int r) h).wp _
    rw [hr]
    refine ⟨.str z, h, rfl, Tr.wp_mono (letters_loop n (lo + 1) (.str z :: acc)) fun r ⟨zs, h1, h2, h3⟩ => ⟨z :: zs, congrArg (· + 1) h1, fun y hy => ?_, by rw [h3]; simp⟩⟩
    rcases List.mem_cons.mp hy with q | q
    · rw [q]; exact hz
    · exact h2 y q
end
theorem strsM_map : ∀ zs : List Str, strsM (zs.map MV.str) = some zs
  | [] => rfl
  | z :: r => by
    show (match strsM (r.map MV.str) with
      | some bs => some (z :: bs)
      | none => none) = _
    rw [strsM_map r]
theorem len_ones : ∀ {zs : List Str}, (∀ z ∈ zs, z.length = 1) → (zs.map (·.length)).sum = zs.length
  | [], _ => rfl
  | z :: r, h => by
    rw [List.map_cons, List.sum_cons, h z (List.mem_cons_self ..), len_ones fun y hy => h y (List.mem_cons_of_mem _ hy), List.length_cons]; omega
theorem join_len : ∀ zs : List Str, (Str.join "" zs).length = (zs.map (·.length)).sum
  | [] => rfl
  | [x] => by simp [Str.join]
  | x :: y :: r => by
    show (x ++ "" ++ Str.join "" (y :: r)).length = _
    rw [Str.length_append, Str.length_append, join_len (y :: r)]
    simp only [List.map_cons, List.sum_cons]
    show x.length + 0 + _ = _
    omega
theorem cut_len (z : Str) (lo hi : Option Int) : (cutS z lo hi).length ≤ z.length := by
  show (List.toArray _).size ≤ z.cps.size
  rw [List.size_toArray, List.length_take, List.length_drop]
  have : z.cps.toList.length = z.cps.size := Array.length_toList
  omega
section
variable {h : MH} {l : Nat} (e : h.get l = some .bag)
include e
abbrev eltP : RunE := run2 (run2 (runSlX (runVar 2) runNoP (runPt (runVar 3))) (run2 (runVar 1) (run2 (run2 (runVar 4) (run2 (cI 3) (runVar 5) (opMul false)) (opAdd false)) (cI 26) opMod) opIx) (opAdd false)) (runSlX (runVar 2) (runPt (runVar 3)) runNoP) (opAdd false)
omit e in
theorem elt_run {st : Str} {at_ fi k : Int} (hs : st.length ≤ 4) : ∃ z : Str, z.length ≤ 64 ∧ eltP [some (.ref l), some (.str LET), some (.str st), some (.int at_), some (.int fi), some (.int k)] h = okE (.str z) h := by
  have ls : leB st.length sizeLine = true := Nat.ble_eq.mpr (Nat.le_trans hs (by decide))
  have m3 : ∀ h', opMul false (.int 3) (.int k) h' = okE (.int (3 * k)) h' := fun h' => mul_in (by rw [show smI 3 = true from by decide]; rfl)
  have d1 : ∀ (y : Int) h', opMod (.int y) (.int 26) h' = okE (.int (y.fmod 26)) h' := fun y h' => rfl
  obtain ⟨c, hc, hx⟩ := let_at (h := h) (Int.fmod_nonneg_of_pos (fi + 3 * k) (by decide : (0 : Int) < 26)) (Int.fmod_lt_of_pos (fi + 3 * k) (by decide))
  have c1 := cut_len st none (some at_)
  have c2 := cut_len st (some at_) none
  refine ⟨cutS st none (some at_) ++ c ++ cutS st (some at_) none, by rw [Str.length_append, Str.length_append]; omega, ?_⟩
  have a1 : opAdd false (.str (cutS st none (some at_))) (.str c) h = okE (.str (cutS st none (some at_) ++ c)) h := by
    show ifT (leB _ sizeLine) _ = _
    rw [show leB ((cutS st none (some at_)).length + c.length) sizeLine = true from Nat.ble_eq.mpr (Nat.le_trans (by omega : _ ≤ 5) (by decide))]; rfl
  have a2 : opAdd false (.str (cutS st none (some at_) ++ c)) (.str (cutS st (some at_) none)) h = okE (.str (cutS st none (some at_) ++ c ++ cutS st (some at_) none)) h := by
    show ifT (leB _ sizeLine) _ = _
    rw [show leB ((cutS st none (some at_) ++ c).length + (cutS st (some at_) none).length) sizeLine = true from Nat.ble_eq.mpr (Nat.le_trans (by rw [Str.length_append]; omega : _ ≤ 9) (by decide))]; rfl
  have s1 : runSlX (runVar 2) runNoP (runPt (runVar 3)) [some (.ref l), some (.str LET), some (.str st), some (.int at_), some (.int fi), some (.int k)] h = okE (.str (cutS st none (some at_))) h := by
    show ifT (leB st.length sizeLine) _ = _
    rw [ls]; rfl
  have s2 : runSlX (runVar 2) (runPt (runVar 3)) runNoP [some (.ref l), some (.str LET), some (.str st), some (.int at_), some (.int fi), some (.int k)] h = okE (.str (cutS st (some at_) none)) h := by
    show ifT (leB st.length sizeLine) _ = _
    rw [ls]; rfl
  have v1 : runVar 1 [some (.ref l), some (.str LET), some (.str st), some (.int at_), some (.int fi), some (.int k)] h = okE (.str LET) h := rfl
  have v4 : runVar 4 [some (.ref l), some (.str LET), some (.str st), some (.int at_), some (.int fi), some (.int k)] h = okE (.int fi) h := rfl
  have v5 : runVar 5 [some (.ref l), some (.str LET), some (.str st), some (.int at_), some (.int fi), some (.int k)] h = okE (.int k) h := rfl
  simp only [run2, s1, s2, v1, v4, v5, be_okE, cI, m3, d1, add_in, hx, a1, a2]
omit e in
theorem elts_loop {st : Str} {at_ fi : Int} (hs : st.length ≤ 4) : ∀ (n : Nat) (lo : Int) (acc : List MV), (loopC (gNm 5) yesR eltP (rngM lo n) [some (.ref l), some (.str LET), some (.str st), some (.int at_), some (.int fi), none] h acc).wp fun r => ∃ zs : List Str, zs.length = n ∧ (∀ z ∈ zs, z.length ≤ 64) ∧ r = .ok (acc.reverse ++ zs.map .str) h
  | 0, lo, acc => ⟨[], rfl, ⟨(fun z hz => by cases hz), by simp⟩⟩
  | n + 1, lo, acc => by
    show ((eltP [some (.ref l), some (.str LET), some (.str st), some (.int at_), some (.int fi), some (.int lo)] h).be (fun y h3 => loopC (gNm 5) yesR eltP (rngM (lo + 1) n) [some (.ref l), some (.str LET), some (.str st), some (.int at_), some (.int fi), none] h3 (y :: acc)) (fun _ _ => .bad)).wp _
    obtain ⟨z, hz, hr⟩ := elt_run (h := h) (l := l) (st := st) (at_ := at_) (fi := fi) (k := lo) hs
    rw [hr, be_okE]
    refine Tr.wp_mono (elts_loop hs n (lo + 1) (.str z :: acc)) fun r ⟨zs, h1, h2, h3⟩ => ⟨z :: zs, congrArg (· + 1) h1, fun y hy => ?_, by rw [h3]; simp⟩
    rcases List.mem_cons.mp hy with q | q
    · rw [q]; exact hz
    · exact h2 y q
theorem pool_tree : (runDef 5 r_pool [.ref l] h).wp fun r => ∃ ys : List Str, ys.length = 7 ∧ (∀ y ∈ ys, y.length ≤ 64) ∧ r = .ok (.lst (ys.map .str)) h := by
  show ((r_pool [some (.ref l), none, none, none, none, none] h).bind _).wp _
  refine (Tr.wp_bind _ _ _).mpr ?_
  refine seq_wp ?_
  refine ⟨[some (.ref l), some (.str LET), none, none, none, none], h, rfl, ?_⟩
  refine seq_wp ?_
  -- the stem
  refine be_wp ?_
  refine be_wp ?_
  refine bl_wp ?_
  show (Tr.bl (runCons (pul (cI 5)) runNil [some (.ref l), some (.str LET), none, none, none, none] h) _ _).wp _
  have p5 : runCons (pul (cI 5)) runNil [some (.ref l), some (.str LET), none, none, none, none] h = .ask 5 fun r => .ret (.ok [.int r] h) := by
    show (pul (cI 5) _ h).be _ _ = _
    rw [pul_run (n := 5) e rfl rfl (by decide) (by decide)]; rfl
  rw [p5]
  refine bl_wp ?_
  intro n n0 n1
  refine ⟨[.int n], h, rfl, ?_⟩
  have hb : bd62 n = true := by
    unfold bd62
    rw [decide_eq_true (by omega), decide_eq_true (by omega)]; rfl
  simp only [hb]
  refine ⟨rngM 0 n.toNat, h, rfl, ?_⟩
  have hl : leB (rngM 0 n.toNat).length sizeLine = true := by
    rw [rngM_len]
    exact Nat.ble_eq.mpr (Nat.le_trans (by omega : n.toNat ≤ 5) (by decide))
  rw [hl]
  show (Tr.bl (loopC _ _ _ _ _ h []) _ _).wp _
  refine bl_wp (Tr.wp_mono (letters_loop e n.toNat 0 []) fun r ⟨zs, h1, h2, h3⟩ => ?_)
  refine ⟨_, h, h3, ?_⟩
  refine ⟨.lst (zs.map .str), h, rfl, ?_⟩
  have jl := join_len zs
  rw [len_ones h2] at jl
  have hj : opJoin "" (.lst (zs.map .str)) h = okE (.str (Str.join "" zs)) h := by
    show (match strsM (zs.map MV.str) with
      | some ys => ifT (leB ((ys.map fun z : Str => z.length).sum + ys.length * ("" : Str).length) 16777216) (okE (.str (Str.join "" ys)) h)
      | none => .bad) = _
    rw [strsM_map]
    show ifT _ _ = _
    rw [len_ones h2, show leB (zs.length + zs.length * ("" : Str).length) 16777216 = true from Nat.ble_eq.mpr (by show zs.length + zs.length * 0 ≤ _; omega)]; rfl
  rw [hj]
  refine ⟨.str (Str.join "" zs), h, rfl, ?_⟩
  refine ⟨[some (.ref l), some (.str LET), some (.str (Str.join "" zs)), none, none, none], h, rfl, ?_⟩
  have hs : (Str.join "" zs).length ≤ 4 := by omega
  generalize Str.join "" zs = st at hs
  refine seq_wp ?_
  -- two numbers
  have hN : run2 (runArgs (runCons (runVar 2) runNil) kLen) (cI 1) (opAdd false) [some (.ref l), some (.str LET), some (.str st), none, none, none] h = okE (.int (st.length + 1)) h := by
    show (ifT (leB st.length sizeLine) (okE (.int st.length) h)).be _ _ = _
    rw [show leB st.length sizeLine = true from Nat.ble_eq.mpr (Nat.le_trans hs (by decide))]; rfl
  refine be_wp ?_
  refine bl_wp ?_
  refine be_wp ?_
  show (pul (run2 (runArgs (runCons (runVar 2) runNil) kLen) (cI 1) (opAdd false)) _ h).wp _
  rw [pul_run e rfl hN (by omega) (by omega)]
  intro a a0 a1
  refine ⟨.int a, h, rfl, ?_⟩
  refine bl_wp ?_
  refine be_wp ?_
  show (pul (cI 26) _ h).wp _
  rw [pul_run (n := 26) e rfl rfl (by decide) (by decide)]
  intro b b0 b1
  refine ⟨.int b, h, rfl, ?_⟩
  refine ⟨[.int b], h, rfl, ?_⟩
  refine ⟨[.int a, .int b], h, rfl, ?_⟩
  refine ⟨.tup [.int a, .int b], h, rfl, ?_⟩
  refine ⟨[some (.ref l), some (.str LET), some (.str st), some (.int a), some (.int b), none], h, rfl, ?_⟩
  -- the seven texts
  refine be_wp ?_
  show (Tr.bl (loopC (gNm 5) yesR eltP (rngM 0 7) [some (.ref l), some (.str LET), some (.str st), some (.int a), some (.int b), none] h []) (newL false) _).wp _
  refine bl_wp (Tr.wp_mono (elts_loop (l := l) (at_ := a) (fi := b) hs 7 0 []) fun r ⟨ys, h1, h2, h3⟩ => ?_)
  exact ⟨_, h, h3, .lst (ys.map .str), h, rfl, ys, h1, h2, rfl⟩
end
end
end WK
set_option Elab.async false
set_option linter.all false
set_option maxRecDepth 100000
set_option maxHeartbeats 0
/-! contracts of _law_pool and _law_bag -/
namespace WK
noncomputable section
open PySem PySem.Spec PyProof.Rows L2
/-! ### _law_pool -/
def bumpN : Nat → MH → MH
  | 0, h => h
  | k + 1, h => bumpN k (bump h)
def atsL : Nat → Nat → List MV
  | _, 0 => []
  | n, k + 1 => .ats n :: atsL (n + 1) k
def runPool (xs : List MV) (h : MH) : Tr ER := match xs with
  | [.ref l] => match h.get l with
    | some .bag => okE (.lst (atsL h.nxt 7)) (bumpN 7 h)
    | _ => .bad
  | _ => .bad
section
variable {T : Tb} {K : PySem.W.Frag} {H : Hp}
theorem atoms : ∀ (ys : List Str) {ρ : Rho} {h : MH}, SimH T K ρ h H → (∀ y ∈ ys, y.length ≤ 64) → ∃ ρ'', Le ρ h H ρ'' (bumpN ys.length h) H ∧ SimH T K ρ'' (bumpN ys.length h) H ∧ DenL T K ρ'' (Mu ρ'' (bumpN ys.length h)) H (atsL h.nxt ys.length) (ys.map V.str)
  | [], ρ, h, s, _ => ⟨ρ, Le.refl, s, .nil⟩
  | y :: r, ρ, h, s, hy => by
    have s1 := s.atom (v := .str y)
    obtain ⟨ρ2, l2, s2, d2⟩ := atoms r s1 fun z hz => hy z (List.mem_cons_of_mem _ hz)
    refine ⟨ρ2, (Le.atom s).trans l2, s2, .cons ?_ d2⟩
    exact .ats (l2.exv _ _ rhoV_at) (hy y (List.mem_cons_self ..))
theorem denL_strs {ρ : Rho} {M : Addr → Prop} : ∀ {ys : List Str} {vs : List V}, DenL T K ρ M H (ys.map MV.str) vs → vs = ys.map V.str
  | [], _, d => by cases d; rfl
  | i :: r, _, d => by
    have d : DenL T K ρ M H (.str i :: r.map MV.str) _ := d
    cases d with
    | cons d1 d2 => cases d1; rw [denL_strs d2]; rfl
theorem pool_ok {P : Program} {w : World} {mg : Str → Option Value} {base : Heap} {k : Nat} {f : Addr} {fd : FuncData} {ps : List Str} (F : FnOk P w K mg base (L2.CX P w) k f fd ps (spF T K 1 (runDef 5 r_pool))) : FnOk P w K mg base (L2.CX P w) k f fd ps (spF T K 1 runPool) := by
  refine F.imp fun vs H Q E h => ?_
  obtain ⟨hl, ρ, xs, h, s, d, w⟩ := h
  refine ⟨hl, ρ, xs, h, s, d, ?_⟩
  unfold runPool at w
  split at w
  · rename_i l
    split at w
    · rename_i e
      refine Tr.wp_mono (pool_tree e) fun r ⟨ys, h1, h2, h3⟩ => ?_
      subst h3
      intro ρ' H' v l' s' dv
      cases dv with
      | lst n r dl =>
        rw [denL_strs dl] at r
        obtain ⟨ρ2, l2, s2, d2⟩ := atoms ys s' h2
        rw [h1] at l2 s2 d2
        exact w ρ2 H' _ (l'.trans l2) s2 (.lst (l2.nomu r n) r d2)
    · exact w.elim
  · exact w.elim
/-! ### _law_bag -/
def spBag (K : PySem.W.Frag) : Sp := fun vs H Q _ => ∃ (a : Addr) (ns : List Int), vs = [.ref a] ∧ SqL K H a (ns.map V.int) ∧ ∀ (p b : Addr) (ms : List Int) (q : Int) (H' : Hp), (∀ x o, H x = some o → H' x = some o) → H' p = some (.lst [.ref b, .int 0, .int 0, .int q]) → H' b = some (.lst (ms.map V.int)) → H p = none → b ≠ p → H b = none → 0 ≤ q → q < 2147483563 → Q (.ref p) H'
abbrev N_bag : List Str := ["_law_script", "_law_salt", "_law_cell"]
theorem sc_bag : FnScope N_bag ["_law_script"] (defScope (top 28)) := ⟨rfl, rfl, rfl, by decide +kernel, rfl, by decide +kernel, by decide +kernel⟩
abbrev rdSl (K : PySem.W.Frag) : TE := tSl (rSlL K) (tVar 0) tNoPart (tPart (tC (.int 63)))
abbrev rdSalt : TE := tOp (rI (fun _ j => j ≠ 0) fun i j => .int (i.fmod j)) (tOp (rI0 fun i j => .int (i + j)) (tOp (rI0 fun i j => .int (i + j)) (tOp (rI CMul fun i j => .int (i * j)) (tVar 1) (tC (.int 40014))) (tOp (rI (fun _ j => j ≠ 0) fun i j => .int (i.fmod j)) (tVar 2) (tC (.int 2147483563)))) (tC (.int 13))) (tC (.int 2147483563))
abbrev rdNew (K : PySem.W.Frag) : TE := tLst (tCons (tCB (fun xs H Q => ∃ p ys, xs = [.ref p] ∧ (SqL K H p ys ∨ SqT K H p ys) ∧ ∀ l, H l = none → Q (.ref l) (upd H l (.lst ys))) (tCons (rdSl K) tNil)) (tCons (tC (.int 0)) (tCons (tC (.int 0)) (tCons (tVar 1) tNil))))
def tBag (K : PySem.W.Frag) : TS := tSeq (tAsg (tC (.int 3803)) (gName 1)) (tSeq (tFor (iList K (rdSl K)) (gName 2) (tAsg rdSalt (gName 1))) (tRet (rdNew K)))
theorem cut_map (ns : List Int) (lo hi : Option Int) : ∃ ms : List Int, cutV (ns.map V.int) lo hi = ms.map V.int := ⟨_, by unfold cutV; rw [← List.map_drop, ← List.map_take]⟩
theorem bag_pure (vs : List V) (Q : VK) (E : XK) (h : spBag K vs H Q E) : tBag K { nx := fun _ H' => Q .non H', rt := Q } (start N_bag vs) H := by
  obtain ⟨a, ns, rfl, hs, k⟩ := h
  unfold tBag
  show tSeq (tFor (iList K (rdSl K)) (gName 2) (tAsg rdSalt (gName 1))) (tRet (rdNew K)) _ [some (.ref a), some (.int 3803), none] H
  obtain ⟨ms, hms⟩ := cut_map ns none (some 63)
  have kp : ∀ {p : Addr} {u : HO}, H p = none → ∀ x o, H x = some o → upd H p u x = some o := fun {p u} n x o e => by rw [upd_ne (ne_of_none e n)]; exact e
  have sqk : ∀ {H' : Hp}, (∀ x o, H x = some o → H' x = some o) → SqL K H' a (ns.map V.int) := fun {H'} x => hs.imp (fun q => q.imp (fun q => x _ _ q) fun ⟨o, q⟩ => ⟨o, x _ _ q⟩) id
  show tFor _ _ _ { nx := fun σ' H' => tRet (rdNew K) { nx := fun _ H' => Q .non H', rt := Q } σ' H', rt := Q } _ H
  refine ⟨.ref a, rfl, 63, rfl, a, _, rfl, hs, fun s ns' => ⟨s, rfl, ⟨_, SqL.of upd_same⟩, ?_⟩⟩
  rw [hms]
  have xs := kp (u := .lst (ms.map V.int)) ns'
  revert xs
  have eS : upd H s (.lst (ms.map V.int)) s = some (.lst (ms.map V.int)) := upd_same
  have bk : ∀ b, upd H s (.lst (ms.map V.int)) b = none → H b = none := fun b e => by
    unfold upd at e
    split at e
    · cases e
    · exact e
  revert eS bk
  generalize upd H s (.lst (ms.map V.int)) = H1
  intro eS bk xs
  refine for_list (xs := ms.map V.int) (fun i σ' H' => H' = H1 ∧ ∃ q c, σ' = [some (.ref a), some (.int q), c] ∧ 0 ≤ q ∧ q < 2147483563) ⟨rfl, 3803, none, rfl, by decide, by decide⟩ (fun i σ' H' _ ⟨e, _⟩ => by rw [e]; exact SqL.of eS) (fun i x σ' H' hx ⟨e, q, c, e2, q0, q1⟩ => ?_) (fun σ' H' ⟨e, q, c, e2, q0, q1⟩ => ?_)
  · subst e2
    rw [e]
    obtain ⟨n, hn, rfl⟩ : ∃ n, ms[i]? = some n ∧ V.int n = x := by
      rw [List.getElem?_map] at hx
      exact Option.map_eq_some_iff.mp hx
    show rdSalt [some (.ref a), some (.int q), some (.int n)] H1 _
    exact ⟨.int q, rfl, q, 40014, rfl, rfl, .inr ⟨by decide, by decide⟩, .int n, rfl, n, 2147483563, rfl, rfl, (by decide : (2147483563 : Int) ≠ 0), _, _, rfl, rfl, _, _, rfl, rfl, _, _, rfl, rfl, (by decide : (2147483563 : Int) ≠ 0), rfl, _, _, rfl, Int.fmod_nonneg_of_pos _ (by decide), Int.fmod_lt_of_pos _ (by decide)⟩
  · subst e2
    rw [e]
    show rdNew K [some (.ref a), some (.int q), c] H1 Q
    refine ⟨.ref a, rfl, 63, rfl, a, _, rfl, sqk xs, fun s2 n2 => ?_⟩
    rw [hms]
    refine ⟨s2, _, rfl, .inl (SqL.of upd_same), fun b nb => ⟨.int q, rfl, by show 4 ≤ sizeLine; decide, fun p np => ?_⟩⟩
    have nb1 : H1 b = none := by
      unfold upd at nb
      split at nb
      · cases nb
      · exact nb
    have np1 : upd H1 s2 (.lst (ms.map V.int)) p = none := by
      unfold upd at np ⊢
      split at np
      · cases np
      · exact np
    have bp : b ≠ p := fun z => by rw [z, upd_same] at np; cases np
    have np2 : H1 p = none := by
      unfold upd at np1
      split at np1
      · cases np1
      · exact np1
    refine k p b ms q _ (fun x o ex => ?_) upd_same ?_ (bk _ np2) bp (bk _ nb1) q0 q1
    · have e1 := xs x o ex
      rw [upd_ne (ne_of_none (by rw [upd_ne (ne_of_none (by rw [upd_ne (ne_of_none e1 n2)]; exact e1) nb), upd_ne (ne_of_none e1 n2)]; exact e1) np), upd_ne (ne_of_none (by rw [upd_ne (ne_of_none e1 n2)]; exact e1) nb), upd_ne (ne_of_none e1 n2)]
      exact e1
    · rw [upd_ne bp]; exact upd_same
theorem bag_ok {P : Program} {w : World} {mg : Str → Option Value} {base : Heap} {f : Addr} {fd : FuncData} (F : FnP K "_law_bag" 28 f fd) (m_list : mg "list" = none) : FnOk P w K mg base (L2.CX P w) 1 f fd ["_law_script"] (spBag K) := by
  refine F.ok sc_bag (fun vs H Q E h => ?_) fun cdv A outer s H vs Q EK hr h => ⟨tBag K, ?_, bag_pure vs Q EK h⟩
  · obtain ⟨a, ns, rfl, _⟩ := h; rfl
  · exact pss_cons (ps_asg pe_int (pg_name sc_bag.nd rfl (loc_by rfl) (.inl rfl)) rfl rfl rfl)
      (pss_cons (ps_for owns_cx rfl (pi_list (pe_slice sl_list (pe_var rfl (vis_by rfl) rfl rfl) po_none (po_some pe_int))) (pg_name sc_bag.nd rfl (loc_by rfl) (.inl rfl))
        (pss_one (ps_asg (pe_op op_modN (pe_op op_add (pe_op op_add (pe_op op_mul (pe_var rfl (vis_by rfl) rfl rfl) pe_int) (pe_op op_modN (pe_var rfl (vis_by rfl) rfl rfl) pe_int)) pe_int) pe_int) (pg_name sc_bag.nd rfl (loc_by rfl) (.inl rfl)) rfl rfl rfl)) (fun _ => rfl))
      (pss_one (ps_ret (pe_lst (pa_cons (pe_callTy call_list_of rfl m_list (by decide +kernel) (pa_cons (pe_slice sl_list (pe_var rfl (vis_by rfl) rfl rfl) po_none (po_some pe_int)) pa_nil rfl)) (pa_cons pe_int (pa_cons pe_int (pa_cons (pe_var rfl (vis_by rfl) rfl rfl) pa_nil rfl) rfl) rfl) rfl)))))
end
end
end WK
set_option Elab.async false
set_option linter.all false
set_option maxRecDepth 100000
set_option maxHeartbeats 0
namespace WK
noncomputable section
open PySem PySem.Spec PyProof.Rows L2
abbrev N_law : List Str := ["_law_script", "_law_bag_here", "_law_number", "_law_text", "_law_made", "_law_bare", "_law_named", "_law_words", "_law_every", "_law_at", "_law_low", "_law_found", "_law_e", "_law_k"]
theorem sc_law : FnScope N_law ["_law_script"] (defScope (top 35)) := ⟨rfl, rfl, rfl, by decide +kernel, rfl, by decide +kernel, by decide +kernel⟩
def r_law : RunS := (runSeq (runPar 2 3 (runCons (runArgs (runCons (runVar 1) (runCons (run2 (cI 10) (cI 20) opPow) runNil)) (runF false [] runPull)) (runCons (runArgs (runCons (runVar 1) (runCons (runArgs (runCons (runVar 1) runNil) (runF false [] runPool)) runNil)) (runF false [] (runDef 0 r_of))) runNil)))
    (runSeq (runAsg (runArgs (runCons (run1 (runVar 2) (mkX 0 1 0 "invalidgraph")) (runCons (run1 (runVar 2) (mkX 3 1 0 "invalidrow")) (runCons (run1 (runVar 2) (mkX 4 1 0 "invalidpath")) (runCons (run1 (runVar 2) (mkX 6 1 0 "invalidcode")) (runCons (run1 (runVar 2) (mkX 1 2 0 "limitexceeded")) runNil))))) (kLst false)) (gNm 4))
    (runSeq (runAsg (run2 (runVar 4) (runArgs (runCons (run1 (runVar 2) (mkX 16 2 0 "capacityexceeded")) (runCons (run1 (runVar 2) (mkX 2 3 0 "outofrange")) (runCons (run1 (runVar 2) (mkX 5 3 0 "invalidwidth")) (runCons (run1 (runVar 2) (mkX 17 3 0 "invalidcapacity")) runNil)))) (kLst false)) (opAdd false)) (gNm 4))
    (runSeq (runAsg (run2 (runVar 4) (runArgs (runCons (run1 (runVar 2) (mkX 7 4 0 "invalidlength")) (runCons (run1 (runVar 2) (mkX 8 5 0 "invalidcount")) (runCons (run1 (runVar 2) (mkX 19 7 0 "invalidcommand")) (runCons (run1 (runVar 2) (mkX 21 8 0 "invalidfile")) runNil)))) (kLst false)) (opAdd false)) (gNm 4))
    (runSeq (runAsg (runArgs (runCons (mkX0 9 0 "graphmismatch") (runCons (mkX0 10 0 "invalidstep") (runCons (mkX0 11 0 "notonetoone") (runCons (mkX0 12 0 "notonto") (runCons (mkX0 13 0 "endlessorigins") (runCons (mkX0 20 0 "parseerror") runNil)))))) (kLst false)) (gNm 5))
    (runSeq (runAsg (runArgs (runCons (run1 (runVar 3) (mkX 14 6 0 "invalidname")) (runCons (run1 (runVar 3) (mkX 15 6 0 "duplicatename")) (runCons (run1 (runVar 3) (mkX 18 6 0 "nameinuse")) (runCons (run1 (runVar 3) (mkX 22 6 0 "unknownname")) runNil)))) (kLst false)) (gNm 6))
    (runSeq (runAsg (runArgs (runCons (cS "invalidgraph") (runCons (cS "invalidrow") (runCons (cS "invalidpath") (runCons (cS "invalidcode") (runCons (cS "limitexceeded") (runCons (cS "capacityexceeded") runNil)))))) (kLst false)) (gNm 7))
    (runSeq (runAsg (run2 (runVar 7) (runArgs (runCons (cS "outofrange") (runCons (cS "invalidwidth") (runCons (cS "invalidcapacity") (runCons (cS "invalidlength") (runCons (cS "invalidcount") runNil))))) (kLst false)) (opAdd false)) (gNm 7))
    (runSeq (runAsg (run2 (runVar 7) (runArgs (runCons (cS "invalidcommand") (runCons (cS "invalidfile") runNil)) (kLst false)) (opAdd false)) (gNm 7))
    (runSeq (runAsg (run2 (runVar 7) (runArgs (runCons (cS "graphmismatch") (runCons (cS "invalidstep") (runCons (cS "notonetoone") (runCons (cS "notonto") (runCons (cS "endlessorigins") (runCons (cS "parseerror") runNil)))))) (kLst false)) (opAdd false)) (gNm 7))
    (runSeq (runAsg (run2 (runVar 7) (runArgs (runCons (cS "invalidname") (runCons (cS "duplicatename") (runCons (cS "nameinuse") (runCons (cS "unknownname") (runCons (cS "emptyhistory") runNil))))) (kLst false)) (opAdd false)) (gNm 7))
    (runSeq (runAsg (run2 (run2 (run2 (runVar 4) (runVar 5) (opAdd false)) (runVar 6) (opAdd false)) (runArgs (runCons (mkX0 23 0 "emptyhistory") runNil) (kLst false)) (opAdd false)) (gNm 8))
    (runSeq (runIf (runNot (runArgs (runCons (runLc false (runSq (runVar 8)) (gNm 12) yesR (run1 (runVar 12) (opXg cs24 0))) (runCons (runVar 7) runNil)) (runF false [] (runDef 2 r_like)))) (runRet (cB false)) nxS)
    (runSeq (runIf (runNot (runArgs (runCons (runLc false (runSq (runVar 8)) (gNm 12) yesR (runArgs (runCons (runVar 12) runNil) (runF false [] (runDef 3 r_field)))) (runCons (run2 (run2 (run2 (run2 (runArgs (runCons (runVar 2) runNil) (kLst false)) (cI 13) (opMul false)) (run2 (runArgs (runCons cN runNil) (kLst false)) (cI 6) (opMul false)) (opAdd false)) (run2 (runArgs (runCons (runVar 3) runNil) (kLst false)) (cI 4) (opMul false)) (opAdd false)) (runArgs (runCons cN runNil) (kLst false)) (opAdd false)) runNil)) (runF false [] (runDef 2 r_like)))) (runRet (cB false)) nxS)
    (runSeq (runFor (runRng1 (runCons (cI 24) runNil)) (gNm 9) (runSeq (runAsg (run2 (runVar 9) (cI 22) (cOp (cInt cGeP))) (gNm 10))
    (runSeq (runAsg (runArgs (runCons (run1 (run2 (runVar 8) (runVar 9) opIx) (opIsX tb_WindowError)) (runCons (run1 (run2 (runVar 8) (runVar 9) opIx) (opIsX tb_ValueError)) (runCons (run1 (run2 (runVar 8) (runVar 9) opIx) (opIsX tb_Absent)) runNil))) (kLst false)) (gNm 11))
    (runSeq (runIf (runNot (runArgs (runCons (run2 (runVar 11) (runArgs (runCons (run1 (run2 (runVar 8) (runVar 9) opIx) (opIsX tb_LookupError)) runNil) (kLst false)) (opAdd false)) (runCons (runArgs (runCons (runNot (runVar 10)) (runCons (runNot (runVar 10)) (runCons (runVar 10) (runCons (runVar 10) runNil)))) (kLst false)) runNil)) (runF false [] (runDef 2 r_like)))) (runRet (cB false)) nxS)
    (runSeq (runIf (runArgs (runCons (runArgs (runCons (run1 (run2 (runVar 8) (runVar 9) opIx) (opIsX tb_KeyError)) (runCons (run1 (run2 (runVar 8) (runVar 9) opIx) (opIsX tb_IndexError)) runNil)) (kLst false)) runNil) (kBools anyB2)) (runRet (cB false)) nxS)
    (runIf (run2 (runArgs (runCons (run2 (runVar 8) (runVar 9) opIx) runNil) (runF false [] (runDef 1 r_flags))) (runLc false (runRng1 (runCons (cI 24) runNil)) (gNm 13) yesR (run2 (runVar 13) (runVar 9) (cOp cEq))) (cOp cNe)) (runRet (cB false)) nxS))))))
    (runRet (cB true)))))))))))))))))
theorem ss_law {P : Program} {w : World} {K : PySem.W.Frag} {mg : Str → Option Value} {base : Heap} {T : Tb} (c__law_field : Cal T P w K mg base "_law_field" 2 1 (runDef 3 r_field)) (c__law_flags : Cal T P w K mg base "_law_flags" 1 1 (runDef 1 r_flags)) (c__law_like : Cal T P w K mg base "_law_like" 2 2 (runDef 2 r_like)) (c__law_of : Cal T P w K mg base "_law_of" 2 2 (runDef 0 r_of)) (c__law_pool : Cal T P w K mg base "_law_pool" 2 1 runPool) (c__law_pull : Cal T P w K mg base "_law_pull" 1 2 runPull) (hnm : T.nm = nm56) (is_Absent : IsD T K mg "Absent" tb_Absent) (is_WindowError : IsD T K mg "WindowError" tb_WindowError) (isb_IndexError : IsXOk T K (.type "IndexError") tb_IndexError) (isb_KeyError : IsXOk T K (.type "KeyError") tb_KeyError) (isb_LookupError : IsXOk T K (.type "LookupError") tb_LookupError) (isb_ValueError : IsXOk T K (.type "ValueError") tb_ValueError) (m_IndexError : mg "IndexError" = none) (m_KeyError : mg "KeyError" = none) (m_LookupError : mg "LookupError" = none) (m_ValueError : mg "ValueError" = none) (m_any : mg "any" = none) (m_isinstance : mg "isinstance" = none) (m_range : mg "range" = none) (mk_CapacityExceeded : MkC T P w K mg base "CapacityExceeded" 1 16 0 1 fun C => spI1 C "limit" "capacityexceeded") (mk_DuplicateName : MkC T P w K mg base "DuplicateName" 1 15 0 1 fun C => spI1 C "name" "duplicatename") (mk_EmptyHistory : MkC T P w K mg base "EmptyHistory" 1 23 0 0 fun C => spI0 C "emptyhistory") (mk_EndlessOrigins : MkC T P w K mg base "EndlessOrigins" 1 13 0 0 fun C => spI0 C "endlessorigins") (mk_GraphMismatch : MkC T P w K mg base "GraphMismatch" 1 9 0 0 fun C => spI0 C "graphmismatch") (mk_InvalidCapacity : MkC T P w K mg base "InvalidCapacity" 1 17 0 1 fun C => spI1 C "number" "invalidcapacity") (mk_InvalidCode : MkC T P w K mg base "InvalidCode" 1 6 0 1 fun C => spI1 C "place" "invalidcode") (mk_InvalidCommand : MkC T P w K mg base "InvalidCommand" 1 19 0 1 fun C => spI1 C "position" "invalidcommand") (mk_InvalidCount : MkC T P w K mg base "InvalidCount" 1 8 0 1 fun C => spI1 C "count" "invalidcount") (mk_InvalidFile : MkC T P w K mg base "InvalidFile" 1 21 0 1 fun C => spI1 C "line" "invalidfile") (mk_InvalidGraph : MkC T P w K mg base "InvalidGraph" 1 0 0 1 fun C => spI1 C "place" "invalidgraph") (mk_InvalidLength : MkC T P w K mg base "InvalidLength" 1 7 0 1 fun C => spI1 C "length" "invalidlength") (mk_InvalidName : MkC T P w K mg base "InvalidName" 1 14 0 1 fun C => spI1 C "name" "invalidname") (mk_InvalidPath : MkC T P w K mg base "InvalidPath" 1 4 0 1 fun C => spI1 C "place" "invalidpath") (mk_InvalidRow : MkC T P w K mg base "InvalidRow" 1 3 0 1 fun C => spI1 C "place" "invalidrow") (mk_InvalidStep : MkC T P w K mg base "InvalidStep" 1 10 0 0 fun C => spI0 C "invalidstep") (mk_InvalidWidth : MkC T P w K mg base "InvalidWidth" 1 5 0 1 fun C => spI1 C "number" "invalidwidth") (mk_LimitExceeded : MkC T P w K mg base "LimitExceeded" 1 1 0 1 fun C => spI1 C "limit" "limitexceeded") (mk_NameInUse : MkC T P w K mg base "NameInUse" 1 18 0 1 fun C => spI1 C "name" "nameinuse") (mk_NotOneToOne : MkC T P w K mg base "NotOneToOne" 1 11 0 0 fun C => spI0 C "notonetoone") (mk_NotOnto : MkC T P w K mg base "NotOnto" 1 12 0 0 fun C => spI0 C "notonto") (mk_OutOfRange : MkC T P w K mg base "OutOfRange" 1 2 0 1 fun C => spI1 C "number" "outofrange") (mk_ParseError : MkC T P w K mg base "ParseError" 1 20 0 0 fun C => spI0 C "parseerror") (mk_UnknownName : MkC T P w K mg base "UnknownName" 1 22 0 1 fun C => spI1 C "name" "unknownname") (xg_word : XgOk T K cs24 0) {f : Addr} {cdv : Value} {A : Around} {outer : List Env} {s : Shared} {H : Hp} {EK : XK} {E : XW} (hr : Room 3 (A.deeper (envOfC "law" (defScope (top 35)) s.heap.objs.size f cdv)))
    (tk : Takes (cxOf (L2.CX P w) P w K mg base N_law "law" (defScope (top 35)) f cdv A outer s H EK) (wx T K E)) : SSs T (cxOf (L2.CX P w) P w K mg base N_law "law" (defScope (top 35)) f cdv A outer s H EK) E ((defBody (top 35)).drop 1) r_law :=
  (ss_cons (s_par rfl sc_law.nd rfl rfl (by decide) rfl rfl (a_cons (s_cal c__law_pull tk (hr.mono (by decide)) rfl (a_cons (s_var rfl (vis_by rfl) rfl rfl) (a_cons (s_bin op_pow opPow_ok ci ci) a_nil rfl) rfl) rfl rfl) (a_cons (s_cal c__law_of tk (hr.mono (by decide)) rfl (a_cons (s_var rfl (vis_by rfl) rfl rfl) (a_cons (s_cal c__law_pool tk (hr.mono (by decide)) rfl (a_cons (s_var rfl (vis_by rfl) rfl rfl) a_nil rfl) rfl rfl) a_nil rfl) rfl) rfl rfl) a_nil rfl) rfl) rfl rfl)
    (ss_cons (s_asg (s_lst false (a_cons (s_exc1 mk_InvalidGraph tk (hr.mono (by decide)) rfl (s_var rfl (vis_by rfl) rfl rfl) (nm_lt hnm (by decide)) (nm_at hnm rfl) (nm_lt hnm (by decide)) (nm_at hnm rfl) rfl rfl) (a_cons (s_exc1 mk_InvalidRow tk (hr.mono (by decide)) rfl (s_var rfl (vis_by rfl) rfl rfl) (nm_lt hnm (by decide)) (nm_at hnm rfl) (nm_lt hnm (by decide)) (nm_at hnm rfl) rfl rfl) (a_cons (s_exc1 mk_InvalidPath tk (hr.mono (by decide)) rfl (s_var rfl (vis_by rfl) rfl rfl) (nm_lt hnm (by decide)) (nm_at hnm rfl) (nm_lt hnm (by decide)) (nm_at hnm rfl) rfl rfl) (a_cons (s_exc1 mk_InvalidCode tk (hr.mono (by decide)) rfl (s_var rfl (vis_by rfl) rfl rfl) (nm_lt hnm (by decide)) (nm_at hnm rfl) (nm_lt hnm (by decide)) (nm_at hnm rfl) rfl rfl) (a_cons (s_exc1 mk_LimitExceeded tk (hr.mono (by decide)) rfl (s_var rfl (vis_by rfl) rfl rfl) (nm_lt hnm (by decide)) (nm_at hnm rfl) (nm_lt hnm (by decide)) (nm_at hnm rfl) rfl rfl) a_nil rfl) rfl) rfl) rfl) rfl) (by decide)) (g_name sc_law.nd rfl (loc_by rfl) (.inl rfl)) rfl rfl rfl)
    (ss_cons (s_asg (s_bin op_addA (opAdd_ok false) (s_var rfl (vis_by rfl) rfl rfl) (s_lst false (a_cons (s_exc1 mk_CapacityExceeded tk (hr.mono (by decide)) rfl (s_var rfl (vis_by rfl) rfl rfl) (nm_lt hnm (by decide)) (nm_at hnm rfl) (nm_lt hnm (by decide)) (nm_at hnm rfl) rfl rfl) (a_cons (s_exc1 mk_OutOfRange tk (hr.mono (by decide)) rfl (s_var rfl (vis_by rfl) rfl rfl) (nm_lt hnm (by decide)) (nm_at hnm rfl) (nm_lt hnm (by decide)) (nm_at hnm rfl) rfl rfl) (a_cons (s_exc1 mk_InvalidWidth tk (hr.mono (by decide)) rfl (s_var rfl (vis_by rfl) rfl rfl) (nm_lt hnm (by decide)) (nm_at hnm rfl) (nm_lt hnm (by decide)) (nm_at hnm rfl) rfl rfl) (a_cons (s_exc1 mk_InvalidCapacity tk (hr.mono (by decide)) rfl (s_var rfl (vis_by rfl) rfl rfl) (nm_lt hnm (by decide)) (nm_at hnm rfl) (nm_lt hnm (by decide)) (nm_at hnm rfl) rfl rfl) a_nil rfl) rfl) rfl) rfl) (by decide))) (g_name sc_law.nd rfl (loc_by rfl) (.inl rfl)) rfl rfl rfl)
    (ss_cons (s_asg (s_bin op_addA (opAdd_ok false) (s_var rfl (vis_by rfl) rfl rfl) (s_lst false (a_cons (s_exc1 mk_InvalidLength tk (hr.mono (by decide)) rfl (s_var rfl (vis_by rfl) rfl rfl) (nm_lt hnm (by decide)) (nm_at hnm rfl) (nm_lt hnm (by decide)) (nm_at hnm rfl) rfl rfl) (a_cons (s_exc1 mk_InvalidCount tk (hr.mono (by decide)) rfl (s_var rfl (vis_by rfl) rfl rfl) (nm_lt hnm (by decide)) (nm_at hnm rfl) (nm_lt hnm (by decide)) (nm_at hnm rfl) rfl rfl) (a_cons (s_exc1 mk_InvalidCommand tk (hr.mono (by decide)) rfl (s_var rfl (vis_by rfl) rfl rfl) (nm_lt hnm (by decide)) (nm_at hnm rfl) (nm_lt hnm (by decide)) (nm_at hnm rfl) rfl rfl) (a_cons (s_exc1 mk_InvalidFile tk (hr.mono (by decide)) rfl (s_var rfl (vis_by rfl) rfl rfl) (nm_lt hnm (by decide)) (nm_at hnm rfl) (nm_lt hnm (by decide)) (nm_at hnm rfl) rfl rfl) a_nil rfl) rfl) rfl) rfl) (by decide))) (g_name sc_law.nd rfl (loc_by rfl) (.inl rfl)) rfl rfl rfl)
    (ss_cons (s_asg (s_lst false (a_cons (s_exc0 mk_GraphMismatch tk (hr.mono (by decide)) rfl (nm_lt hnm (by decide)) (nm_at hnm rfl) rfl) (a_cons (s_exc0 mk_InvalidStep tk (hr.mono (by decide)) rfl (nm_lt hnm (by decide)) (nm_at hnm rfl) rfl) (a_cons (s_exc0 mk_NotOneToOne tk (hr.mono (by decide)) rfl (nm_lt hnm (by decide)) (nm_at hnm rfl) rfl) (a_cons (s_exc0 mk_NotOnto tk (hr.mono (by decide)) rfl (nm_lt hnm (by decide)) (nm_at hnm rfl) rfl) (a_cons (s_exc0 mk_EndlessOrigins tk (hr.mono (by decide)) rfl (nm_lt hnm (by decide)) (nm_at hnm rfl) rfl) (a_cons (s_exc0 mk_ParseError tk (hr.mono (by decide)) rfl (nm_lt hnm (by decide)) (nm_at hnm rfl) rfl) a_nil rfl) rfl) rfl) rfl) rfl) rfl) (by decide)) (g_name sc_law.nd rfl (loc_by rfl) (.inl rfl)) rfl rfl rfl)
    (ss_cons (s_asg (s_lst false (a_cons (s_exc1 mk_InvalidName tk (hr.mono (by decide)) rfl (s_var rfl (vis_by rfl) rfl rfl) (nm_lt hnm (by decide)) (nm_at hnm rfl) (nm_lt hnm (by decide)) (nm_at hnm rfl) rfl rfl) (a_cons (s_exc1 mk_DuplicateName tk (hr.mono (by decide)) rfl (s_var rfl (vis_by rfl) rfl rfl) (nm_lt hnm (by decide)) (nm_at hnm rfl) (nm_lt hnm (by decide)) (nm_at hnm rfl) rfl rfl) (a_cons (s_exc1 mk_NameInUse tk (hr.mono (by decide)) rfl (s_var rfl (vis_by rfl) rfl rfl) (nm_lt hnm (by decide)) (nm_at hnm rfl) (nm_lt hnm (by decide)) (nm_at hnm rfl) rfl rfl) (a_cons (s_exc1 mk_UnknownName tk (hr.mono (by decide)) rfl (s_var rfl (vis_by rfl) rfl rfl) (nm_lt hnm (by decide)) (nm_at hnm rfl) (nm_lt hnm (by decide)) (nm_at hnm rfl) rfl rfl) a_nil rfl) rfl) rfl) rfl) (by decide)) (g_name sc_law.nd rfl (loc_by rfl) (.inl rfl)) rfl rfl rfl)
    (ss_cons (s_asg (s_lst false (a_cons cs (a_cons cs (a_cons cs (a_cons cs (a_cons cs (a_cons cs a_nil rfl) rfl) rfl) rfl) rfl) rfl) (by decide)) (g_name sc_law.nd rfl (loc_by rfl) (.inl rfl)) rfl rfl rfl)
    (ss_cons (s_asg (s_bin op_addA (opAdd_ok false) (s_var rfl (vis_by rfl) rfl rfl) (s_lst false (a_cons cs (a_cons cs (a_cons cs (a_cons cs (a_cons cs a_nil rfl) rfl) rfl) rfl) rfl) (by decide))) (g_name sc_law.nd rfl (loc_by rfl) (.inl rfl)) rfl rfl rfl)
    (ss_cons (s_asg (s_bin op_addA (opAdd_ok false) (s_var rfl (vis_by rfl) rfl rfl) (s_lst false (a_cons cs (a_cons cs a_nil rfl) rfl) (by decide))) (g_name sc_law.nd rfl (loc_by rfl) (.inl rfl)) rfl rfl rfl)
    (ss_cons (s_asg (s_bin op_addA (opAdd_ok false) (s_var rfl (vis_by rfl) rfl rfl) (s_lst false (a_cons cs (a_cons cs (a_cons cs (a_cons cs (a_cons cs (a_cons cs a_nil rfl) rfl) rfl) rfl) rfl) rfl) (by decide))) (g_name sc_law.nd rfl (loc_by rfl) (.inl rfl)) rfl rfl rfl)
    (ss_cons (s_asg (s_bin op_addA (opAdd_ok false) (s_var rfl (vis_by rfl) rfl rfl) (s_lst false (a_cons cs (a_cons cs (a_cons cs (a_cons cs (a_cons cs a_nil rfl) rfl) rfl) rfl) rfl) (by decide))) (g_name sc_law.nd rfl (loc_by rfl) (.inl rfl)) rfl rfl rfl)
    (ss_cons (s_asg (s_bin op_addA (opAdd_ok false) (s_bin op_addA (opAdd_ok false) (s_bin op_addA (opAdd_ok false) (s_var rfl (vis_by rfl) rfl rfl) (s_var rfl (vis_by rfl) rfl rfl)) (s_var rfl (vis_by rfl) rfl rfl)) (s_lst false (a_cons (s_exc0 mk_EmptyHistory tk (hr.mono (by decide)) rfl (nm_lt hnm (by decide)) (nm_at hnm rfl) rfl) a_nil rfl) (by decide))) (g_name sc_law.nd rfl (loc_by rfl) (.inl rfl)) rfl rfl rfl)
    (ss_cons (s_if (s_not (s_cal c__law_like tk (hr.mono (by decide)) rfl (a_cons (s_lc rfl sc_law.nd (i_seq (s_var rfl (vis_by rfl) rfl rfl)) (own := [("_law_e", 12)]) (blkOk_by (N := N_law) (sc := (defScope (top 35))) (by decide +kernel)) (fun _ _ _ _ _ => (pg_name sc_law.nd rfl (loc_by rfl) (.inr rfl))) gc_nm (fun _ _ _ _ _ => pts_nil) ts_yes (fun _ _ _ _ _ => (s_xg (s_var rfl (vis_by rfl) rfl rfl) (nm_at hnm rfl) xg_word rfl)) (fun _ => rfl)) (a_cons (s_var rfl (vis_by rfl) rfl rfl) a_nil rfl) rfl) rfl rfl)) (ss_one (s_ret cb)) ss_nil)
    (ss_cons (s_if (s_not (s_cal c__law_like tk (hr.mono (by decide)) rfl (a_cons (s_lc rfl sc_law.nd (i_seq (s_var rfl (vis_by rfl) rfl rfl)) (own := [("_law_e", 12)]) (blkOk_by (N := N_law) (sc := (defScope (top 35))) (by decide +kernel)) (fun _ _ _ _ _ => (pg_name sc_law.nd rfl (loc_by rfl) (.inr rfl))) gc_nm (fun _ _ _ _ _ => pts_nil) ts_yes (fun _ _ _ _ _ => (s_cal c__law_field takesF (hr.mono (by decide)) rfl (a_cons (s_var rfl (vis_by rfl) rfl rfl) a_nil rfl) rfl rfl)) (fun _ => rfl)) (a_cons (s_bin op_addA (opAdd_ok false) (s_bin op_addA (opAdd_ok false) (s_bin op_addA (opAdd_ok false) (s_bin op_mulA (opMul_ok false) (s_lst false (a_cons (s_var rfl (vis_by rfl) rfl rfl) a_nil rfl) (by decide)) ci) (s_bin op_mulA (opMul_ok false) (s_lst false (a_cons cn a_nil rfl) (by decide)) ci)) (s_bin op_mulA (opMul_ok false) (s_lst false (a_cons (s_var rfl (vis_by rfl) rfl rfl) a_nil rfl) (by decide)) ci)) (s_lst false (a_cons cn a_nil rfl) (by decide))) a_nil rfl) rfl) rfl rfl)) (ss_one (s_ret cb)) ss_nil)
    (ss_cons (s_for owns_cx rfl (i_range1 rfl m_range (a_cons ci a_nil rfl) rfl) (g_name sc_law.nd rfl (loc_by rfl) (.inl rfl)) (ss_cons (s_asg (s_cmp op_ge (cInt_ok cGeP) (s_var rfl (vis_by rfl) rfl rfl) ci rfl) (g_name sc_law.nd rfl (loc_by rfl) (.inl rfl)) rfl rfl rfl)
    (ss_cons (s_asg (s_lst false (a_cons (s_isD is_WindowError (s_ix (s_var rfl (vis_by rfl) rfl rfl) (s_var rfl (vis_by rfl) rfl rfl) rfl) rfl rfl m_isinstance rfl rfl) (a_cons (s_isXb (t := "ValueError") (s_ix (s_var rfl (vis_by rfl) rfl rfl) (s_var rfl (vis_by rfl) rfl rfl) rfl) rfl rfl m_isinstance rfl m_ValueError (by decide +kernel) (by decide) rfl isb_ValueError) (a_cons (s_isD is_Absent (s_ix (s_var rfl (vis_by rfl) rfl rfl) (s_var rfl (vis_by rfl) rfl rfl) rfl) rfl rfl m_isinstance rfl rfl) a_nil rfl) rfl) rfl) (by decide)) (g_name sc_law.nd rfl (loc_by rfl) (.inl rfl)) rfl rfl rfl)
    (ss_cons (s_if (s_not (s_cal c__law_like tk (hr.mono (by decide)) rfl (a_cons (s_bin op_addA (opAdd_ok false) (s_var rfl (vis_by rfl) rfl rfl) (s_lst false (a_cons (s_isXb (t := "LookupError") (s_ix (s_var rfl (vis_by rfl) rfl rfl) (s_var rfl (vis_by rfl) rfl rfl) rfl) rfl rfl m_isinstance rfl m_LookupError (by decide +kernel) (by decide) rfl isb_LookupError) a_nil rfl) (by decide))) (a_cons (s_lst false (a_cons (s_not (s_var rfl (vis_by rfl) rfl rfl)) (a_cons (s_not (s_var rfl (vis_by rfl) rfl rfl)) (a_cons (s_var rfl (vis_by rfl) rfl rfl) (a_cons (s_var rfl (vis_by rfl) rfl rfl) a_nil rfl) rfl) rfl) rfl) (by decide)) a_nil rfl) rfl) rfl rfl)) (ss_one (s_ret cb)) ss_nil)
    (ss_cons (s_if (s_biB (cr_any rfl) (kBools_ok anyB2) rfl m_any (by decide +kernel) (a_cons (s_lst false (a_cons (s_isXb (t := "KeyError") (s_ix (s_var rfl (vis_by rfl) rfl rfl) (s_var rfl (vis_by rfl) rfl rfl) rfl) rfl rfl m_isinstance rfl m_KeyError (by decide +kernel) (by decide) rfl isb_KeyError) (a_cons (s_isXb (t := "IndexError") (s_ix (s_var rfl (vis_by rfl) rfl rfl) (s_var rfl (vis_by rfl) rfl rfl) rfl) rfl rfl m_isinstance rfl m_IndexError (by decide +kernel) (by decide) rfl isb_IndexError) a_nil rfl) rfl) (by decide)) a_nil rfl) (by decide) rfl) (ss_one (s_ret cb)) ss_nil)
    (ss_one (s_if (s_cmp (op_neA (u64 hr)) cNe_ok (s_cal c__law_flags tk (hr.mono (by decide)) rfl (a_cons (s_ix (s_var rfl (vis_by rfl) rfl rfl) (s_var rfl (vis_by rfl) rfl rfl) rfl) a_nil rfl) rfl rfl) (s_lc rfl sc_law.nd (i_range1 rfl m_range (a_cons ci a_nil rfl) rfl) (own := [("_law_k", 13)]) (blkOk_by (N := N_law) (sc := (defScope (top 35))) (by decide +kernel)) (fun _ _ _ _ _ => (pg_name sc_law.nd rfl (loc_by rfl) (.inr rfl))) gc_nm (fun _ _ _ _ _ => pts_nil) ts_yes (fun _ _ _ _ _ => (s_cmp (op_eqA (u64 hr)) cEq_ok (s_var rfl (vis_by rfl) rfl rfl) (s_var rfl (vis_by rfl) rfl rfl) rfl)) (fun _ => rfl)) rfl) (ss_one (s_ret cb)) ss_nil)))))) (fun _ => rfl))
    (ss_one (s_ret cb)))))))))))))))))
end
end WK
set_option Elab.async false
set_option linter.all false
set_option maxRecDepth 100000
set_option maxHeartbeats 0
namespace WK
open PySem PySem.Spec PyProof.Rows L2
def isTrS : SR → Bool
  | .rt (.bl true) _ => true
  | _ => false
theorem law_run : Tr.chk isTrS (r_law [none, some (.ref 0), none, none, none, none, none, none, none, none, none, none, none, none] ⟨1, [(0, .bag)]⟩) = true := by decide +kernel
end WK
set_option Elab.async false
set_option linter.all false
set_option maxRecDepth 100000
set_option maxHeartbeats 0
namespace WK
open PySem PySem.Spec PyProof.Rows L2
/-! ### what the head tells of own exceptions -/
def clsB (K : PySem.W.Frag) (C : Addr) (l : List Value) (nw : String) : Bool := match K.lookup C with
  | some ⟨.type "type", _, .cls cd, sl⟩ => (match cd.mro, sl.toList with
    | .ref C' :: bm, [_, _, _, _, some (.builtin n), _] => C' == C && (n == nw && (!cd.hasDel && (cd.hasDict && PySem.W.excTail l bm)))
    | _, _ => false)
  | _ => false
theorem ch_of {l : List Value} : ∀ m : List Value, PySem.W.excTail l m = true → Ch l m := fun m => by
  induction m with
  | nil => intro e; rw [show [] = l from beq_iff_eq.mp e]; exact .nil
  | cons a r ih =>
    intro e
    rcases PySem.W.excTail_cases (a :: r) e with ⟨c, r', q, h⟩ | q
    · obtain ⟨rfl, rfl⟩ := List.cons.inj q
      exact .cons (ih h)
    · rw [q]; exact .nil
theorem clsB_ok {K : PySem.W.Frag} {C : Addr} {l : List Value} {nw : String} (q : clsB K C l nw = true) : ∃ nm q N bs bm sn sub ab col dd k0 k1 k2 k3 k5, K.lookup C = some (excClassObj nm q C N bs bm true sn sub ab col dd k0 k1 k2 k3 k5 nw) ∧ Ch l bm := by
  unfold clsB at q
  split at q
  · rename_i dd cd sl ho
    split at q
    · rename_i C' bm k0 k1 k2 k3 n k5 hm hs
      simp only [Bool.and_eq_true, beq_iff_eq, Bool.not_eq_true'] at q
      obtain ⟨rfl, rfl, hdel, hd, ht⟩ := q
      obtain ⟨nm, bs, mro, ns, qn, hdc, sn, sub, ab, col, del⟩ := cd
      dsimp only at hm hdel hd
      subst hm hdel hd
      have hsl : sl = #[k0, k1, k2, k3, some (.builtin n), k5] := by
        obtain ⟨l⟩ := sl
        simp only at hs
        rw [hs]
      subst hsl
      exact ⟨nm, qn, ns, bs, bm, sn, sub, ab, col, dd, k0, k1, k2, k3, k5, ho, ch_of _ ht⟩
    · cases q
  · cases q
abbrev eO := He.eqO
def excB (K : PySem.W.Frag) (C : Addr) : Bool := eO (PySem.W.findIn K (.ref C) "__getattribute__") (some (some (.builtin "BaseException.__getattribute__"))) && (eO (PySem.W.findIn K (.ref C) "__getattr__") (some none) && (decide (PySem.W.subIn K (.ref C) (.type "BaseException") = some true) && (PySem.W.hasDictIn K C &&
  (eO (PySem.W.findIn K (.ref C) "__class__") (some (some (.builtin "object.__class__"))) && (eO (PySem.W.specialIn K (.builtin "object.__class__") "__get__") (some (some (.builtin "getset_descriptor.__get__"))) && (decide (PySem.W.takesIn K (.builtin "object.__class__") = some true) && decide (PySem.W.mroIn K C (.type "object") = some true)))))))
theorem excB_ok {K : PySem.W.Frag} {C : Addr} (h : excB K C = true) : ExcC K C ∧ XfC K C := by
  obtain ⟨h1, h⟩ := He.ba h
  obtain ⟨h2, h⟩ := He.ba h
  obtain ⟨h3, h⟩ := He.ba h
  obtain ⟨h4, h⟩ := He.ba h
  obtain ⟨h5, h⟩ := He.ba h
  obtain ⟨h6, h⟩ := He.ba h
  obtain ⟨h7, h8⟩ := He.ba h
  exact ⟨⟨He.eqO_ok h1, He.eqO_ok h2, of_decide_eq_true h3, h4, He.eqO_ok h5, He.eqO_ok h6, of_decide_eq_true h7, of_decide_eq_true h8⟩, ⟨He.eqO_ok h1, He.eqO_ok h2, of_decide_eq_true h3, h4⟩⟩
structure XD where
  x : Str
  nw : String
  l : List Value
def xok (K : PySem.W.Frag) (nms : List Str) (d : XD) : Bool := clsB K (He.ga K d.x) d.l d.nw && (eO (PySem.W.findIn K (.ref (He.ga K d.x)) "__setattr__") (some (some (.builtin "object.__setattr__"))) && (decide (PySem.W.typeIn K (.ref (He.ga K d.x)) = some (.type "type")) && (PySem.W.keepIn K (.ref (He.ga K d.x)) &&
  (eO (PySem.W.findIn K (.ref (He.ga K d.x)) "__init__") (some (some (.ref (He.ma K (He.ga K d.x) "__init__")))) && (decide (PySem.W.typeIn K (.ref (He.ma K (He.ga K d.x) "__init__")) = some (.type "function")) && (excB K (He.ga K d.x) && nms.all fun f => eO (PySem.W.findIn K (.ref (He.ga K d.x)) f) (some none)))))))
structure XOk (K : PySem.W.Frag) (nms : List Str) (d : XD) : Prop where
  ox : OxC K d.nw d.l (He.ga K d.x)
  iC : PySem.W.findIn K (.ref (He.ga K d.x)) "__init__" = some (some (.ref (He.ma K (He.ga K d.x) "__init__")))
  tI : PySem.W.typeIn K (.ref (He.ma K (He.ga K d.x) "__init__")) = some (.type "function")
  ec : ExcC K (He.ga K d.x)
  xf : XfC K (He.ga K d.x)
  no : ∀ f ∈ nms, PySem.W.findIn K (.ref (He.ga K d.x)) f = some none
theorem xok_ok {K : PySem.W.Frag} {nms : List Str} {d : XD} (h : xok K nms d = true) : XOk K nms d := by
  obtain ⟨h1, h⟩ := He.ba h
  obtain ⟨h2, h⟩ := He.ba h
  obtain ⟨h3, h⟩ := He.ba h
  obtain ⟨h4, h⟩ := He.ba h
  obtain ⟨h5, h⟩ := He.ba h
  obtain ⟨h6, h⟩ := He.ba h
  obtain ⟨h7, h8⟩ := He.ba h
  obtain ⟨e1, e2⟩ := excB_ok h7
  exact ⟨⟨clsB_ok h1, He.eqO_ok h2, e1.hs, of_decide_eq_true h3, h4⟩, He.eqO_ok h5, of_decide_eq_true h6, e1, e2, fun f hf => He.eqO_ok (List.all_eq_true.mp h8 f hf)⟩
/-- a base's own __init__ -/
def baB (K : PySem.W.Frag) (x : Str) (ini : String) : Bool := PySem.W.readsIn K (He.ga K x) (.type "type") && (eO (PySem.W.specialIn K (.ref (He.ga K x)) "__getattribute__") (some (some (.builtin "type.__getattribute__"))) && (match PySem.W.findCls K (.ref (He.ga K x)) (.type "type") "__init__" with
  | some (.val (.builtin i)) => decide (i = ini)
  | _ => false))
theorem baB_ok {K : PySem.W.Frag} {x : Str} {ini : String} (h : baB K x ini = true) (hi : PySem.W.handedIn (.builtin ini) = true) : CiC K ini (He.ga K x) (.type "type") := by
  obtain ⟨h1, h⟩ := He.ba h
  obtain ⟨h2, h3⟩ := He.ba h
  refine ⟨⟨h1, He.eqO_ok h2⟩, ?_, hi⟩
  split at h3
  · rename_i i e
    rw [← of_decide_eq_true h3]; exact e
  · cases h3
/-! ### a def's code object and its table -/
def tabO (g : Addr → Option Obj) (f : Addr) : Addr × Addr := match g f with
  | some ⟨_, _, .func fd, _⟩ => (match fd.code with
    | .ref c => (match g c with
      | some ⟨_, _, .fields vs, _⟩ => (match (vs[11]? : Option Value) with
        | some (.ref P) => (c, P)
        | _ => (0, 0))
      | _ => (0, 0))
    | _ => (0, 0))
  | _ => (0, 0)
def tabB (g : Addr → Option Obj) (K : PySem.W.Frag) (f c Pt : Addr) : Bool := (match g Pt with
  | some ⟨.none, none, .fields vs, sl⟩ => vs.size == 0 && sl.size == 0
  | _ => false) && ((match K.lookup f with
  | some ⟨_, _, .func fd, _⟩ => (match fd.code with
    | .ref c' => c' == c
    | _ => false)
  | _ => false) && (match K.lookup c with
  | some ⟨.type t, _, .fields vs, _⟩ => (match (vs[11]? : Option Value), vs.getD 11 .none, vs.getD 18 .none, vs.getD 7 .none, vs.getD 9 .none, vs.getD 10 .none with
    | some (.ref P1), .ref P2, .str _ _, .int _ _, .bool _, .int _ _ => P1 == Pt && (P2 == Pt && (t == "code" && !(c == Pt)))
    | _, _, _, _, _, _ => false)
  | _ => false))
theorem arr0 {α : Type} {a : Array α} (h : (a.size == 0) = true) : a = #[] := Array.eq_empty_of_size_eq_zero (beq_iff_eq.mp h)
theorem tabB_ok {h : Heap} {K : PySem.W.Frag} {f c Pt : Addr} (X : K.In h) (q : tabB h.get? K f c Pt = true) : h.get? Pt = some { cls := .none, data := .fields #[] } ∧ PySem.W.CodeHd h c Pt ∧ ∀ o, K.lookup f = some o → ∀ fd, o.data = .func fd → fd.code = .ref c := by
  obtain ⟨q1, q⟩ := He.ba q
  obtain ⟨q2, q3⟩ := He.ba q
  refine ⟨?_, ?_, fun o e fd ed => ?_⟩
  · split at q1
    · rename_i vs sl e
      obtain ⟨a1, a2⟩ := He.ba q1
      rw [e, arr0 a1, arr0 a2]
    · cases q1
  · split at q3
    · rename_i t _ vs _ e
      split at q3
      · rename_i P1 P2 file tf flags tg inF text tt e1 e2 e3 e4 e5 e6
        simp only [Bool.and_eq_true, beq_iff_eq, Bool.not_eq_true', beq_eq_false_iff_ne] at q3
        obtain ⟨rfl, rfl, rfl, n⟩ := q3
        exact ⟨_, vs, file, tf, flags, tg, inF, text, tt, X _ _ e, rfl, rfl, e1, e2, e3, e4, e5, e6, n⟩
      · cases q3
    · cases q3
  · rw [e] at q2
    obtain ⟨oc, od, dt, sl⟩ := o
    dsimp only at ed
    subst ed
    dsimp only at q2
    split at q2
    · rename_i c' e2
      rw [e2, beq_iff_eq.mp q2]
    · cases q2

def cls56 : List ClsRec := [{ name := "InvalidGraph" }, { name := "LimitExceeded" }, { name := "OutOfRange" }, { name := "InvalidRow" }, { name := "InvalidPath" }, { name := "InvalidWidth" }, { name := "InvalidCode" }, { name := "InvalidLength" }, { name := "InvalidCount" }, { name := "GraphMismatch" }, { name := "InvalidStep" }, { name := "NotOneToOne" }, { name := "NotOnto" }, { name := "EndlessOrigins" }, { name := "InvalidName" }, { name := "DuplicateName" }, { name := "CapacityExceeded" }, { name := "InvalidCapacity" }, { name := "NameInUse" }, { name := "InvalidCommand" }, { name := "ParseError" }, { name := "InvalidFile" }, { name := "UnknownName" }, { name := "EmptyHistory" }]
def ca56 (K : PySem.W.Frag) (c : Nat) : Addr := match cls56[c]? with
  | some r => He.ga K r.name
  | none => 0
def isB (K : PySem.W.Frag) (cv : Value) (tbl : List (Nat × Bool)) : Bool := tbl.all fun q => decide (PySem.W.kitOne K (.ref (ca56 K q.1)) cv = some q.2)
def xds : List XD := [⟨"InvalidGraph", "ValueError.__new__", tVE⟩, ⟨"LimitExceeded", "ValueError.__new__", tVE⟩, ⟨"OutOfRange", "ValueError.__new__", tVE⟩, ⟨"InvalidRow", "ValueError.__new__", tVE⟩, ⟨"InvalidPath", "ValueError.__new__", tVE⟩, ⟨"InvalidWidth", "ValueError.__new__", tVE⟩, ⟨"InvalidCode", "ValueError.__new__", tVE⟩, ⟨"InvalidLength", "ValueError.__new__", tVE⟩, ⟨"InvalidCount", "ValueError.__new__", tVE⟩, ⟨"GraphMismatch", "ValueError.__new__", tVE⟩, ⟨"InvalidStep", "ValueError.__new__", tVE⟩, ⟨"NotOneToOne", "ValueError.__new__", tVE⟩, ⟨"NotOnto", "ValueError.__new__", tVE⟩, ⟨"EndlessOrigins", "ValueError.__new__", tVE⟩, ⟨"InvalidName", "ValueError.__new__", tVE⟩, ⟨"DuplicateName", "ValueError.__new__", tVE⟩, ⟨"CapacityExceeded", "ValueError.__new__", tVE⟩, ⟨"InvalidCapacity", "ValueError.__new__", tVE⟩, ⟨"NameInUse", "ValueError.__new__", tVE⟩, ⟨"InvalidCommand", "ValueError.__new__", tVE⟩, ⟨"ParseError", "ValueError.__new__", tVE⟩, ⟨"InvalidFile", "ValueError.__new__", tVE⟩, ⟨"UnknownName", "LookupError.__new__", tLE⟩, ⟨"EmptyHistory", "LookupError.__new__", tLE⟩]
def isos : List (Str × List (Nat × Bool)) := [("InvalidGraph", tb_InvalidGraph), ("LimitExceeded", tb_LimitExceeded), ("OutOfRange", tb_OutOfRange), ("InvalidRow", tb_InvalidRow), ("InvalidPath", tb_InvalidPath), ("InvalidWidth", tb_InvalidWidth), ("InvalidCode", tb_InvalidCode), ("InvalidLength", tb_InvalidLength), ("InvalidCount", tb_InvalidCount), ("GraphMismatch", tb_GraphMismatch), ("InvalidStep", tb_InvalidStep), ("NotOneToOne", tb_NotOneToOne), ("NotOnto", tb_NotOnto), ("EndlessOrigins", tb_EndlessOrigins), ("InvalidName", tb_InvalidName), ("DuplicateName", tb_DuplicateName), ("CapacityExceeded", tb_CapacityExceeded), ("InvalidCapacity", tb_InvalidCapacity), ("NameInUse", tb_NameInUse), ("InvalidCommand", tb_InvalidCommand), ("ParseError", tb_ParseError), ("InvalidFile", tb_InvalidFile), ("UnknownName", tb_UnknownName), ("EmptyHistory", tb_EmptyHistory), ("WindowError", tb_WindowError), ("Absent", tb_Absent)]
def isbs : List (String × List (Nat × Bool)) := [("ValueError", tb_ValueError), ("LookupError", tb_LookupError), ("KeyError", tb_KeyError), ("IndexError", tb_IndexError)]
def ok56 (K : PySem.W.Frag) : Bool := (xds.all fun d => xok K nm56 d) && ((isos.all fun q => isB K (.ref (He.ga K q.1)) q.2) && ((isbs.all fun q => isB K (.type q.1) q.2) && (baB K "WindowError" "ValueError.__init__" && baB K "Absent" "LookupError.__init__")))
def iniS (i : Nat) : Stmt := match top i with
  | .ClassDef (body := b) .. => b.getLastD (.Pass ⟨0, 0, 0, 0⟩)
  | s => s
def fn56 : List He.DefD := [⟨("_law_bag", none), "_law_bag", "_law_bag", defArgs (top 28), defBody (top 28), defScope (top 28), [], []⟩,
  ⟨("_law_pull", none), "_law_pull", "_law_pull", defArgs (top 29), defBody (top 29), defScope (top 29), [], []⟩,
  ⟨("_law_of", none), "_law_of", "_law_of", defArgs (top 30), defBody (top 30), defScope (top 30), [], []⟩,
  ⟨("_law_like", none), "_law_like", "_law_like", defArgs (top 31), defBody (top 31), defScope (top 31), [], []⟩,
  ⟨("_law_field", none), "_law_field", "_law_field", defArgs (top 32), defBody (top 32), defScope (top 32), [], []⟩,
  ⟨("_law_pool", none), "_law_pool", "_law_pool", defArgs (top 33), defBody (top 33), defScope (top 33), [], []⟩,
  ⟨("_law_flags", none), "_law_flags", "_law_flags", defArgs (top 34), defBody (top 34), defScope (top 34), [], []⟩,
  ⟨("law", none), "law", "law", defArgs (top 35), defBody (top 35), defScope (top 35), [], []⟩,
  ⟨("InvalidGraph", some "__init__"), "__init__", "InvalidGraph.__init__", defArgs (iniS 3), defBody (iniS 3), defScope (iniS 3), [], []⟩,
  ⟨("LimitExceeded", some "__init__"), "__init__", "LimitExceeded.__init__", defArgs (iniS 4), defBody (iniS 4), defScope (iniS 4), [], []⟩,
  ⟨("OutOfRange", some "__init__"), "__init__", "OutOfRange.__init__", defArgs (iniS 5), defBody (iniS 5), defScope (iniS 5), [], []⟩,
  ⟨("InvalidRow", some "__init__"), "__init__", "InvalidRow.__init__", defArgs (iniS 6), defBody (iniS 6), defScope (iniS 6), [], []⟩,
  ⟨("InvalidPath", some "__init__"), "__init__", "InvalidPath.__init__", defArgs (iniS 7), defBody (iniS 7), defScope (iniS 7), [], []⟩,
  ⟨("InvalidWidth", some "__init__"), "__init__", "InvalidWidth.__init__", defArgs (iniS 8), defBody (iniS 8), defScope (iniS 8), [], []⟩,
  ⟨("InvalidCode", some "__init__"), "__init__", "InvalidCode.__init__", defArgs (iniS 9), defBody (iniS 9), defScope (iniS 9), [], []⟩,
  ⟨("InvalidLength", some "__init__"), "__init__", "InvalidLength.__init__", defArgs (iniS 10), defBody (iniS 10), defScope (iniS 10), [], []⟩,
  ⟨("InvalidCount", some "__init__"), "__init__", "InvalidCount.__init__", defArgs (iniS 11), defBody (iniS 11), defScope (iniS 11), [], []⟩,
  ⟨("GraphMismatch", some "__init__"), "__init__", "GraphMismatch.__init__", defArgs (iniS 12), defBody (iniS 12), defScope (iniS 12), [], []⟩,
  ⟨("InvalidStep", some "__init__"), "__init__", "InvalidStep.__init__", defArgs (iniS 13), defBody (iniS 13), defScope (iniS 13), [], []⟩,
  ⟨("NotOneToOne", some "__init__"), "__init__", "NotOneToOne.__init__", defArgs (iniS 14), defBody (iniS 14), defScope (iniS 14), [], []⟩,
  ⟨("NotOnto", some "__init__"), "__init__", "NotOnto.__init__", defArgs (iniS 15), defBody (iniS 15), defScope (iniS 15), [], []⟩,
  ⟨("EndlessOrigins", some "__init__"), "__init__", "EndlessOrigins.__init__", defArgs (iniS 16), defBody (iniS 16), defScope (iniS 16), [], []⟩,
  ⟨("InvalidName", some "__init__"), "__init__", "InvalidName.__init__", defArgs (iniS 17), defBody (iniS 17), defScope (iniS 17), [], []⟩,
  ⟨("DuplicateName", some "__init__"), "__init__", "DuplicateName.__init__", defArgs (iniS 18), defBody (iniS 18), defScope (iniS 18), [], []⟩,
  ⟨("CapacityExceeded", some "__init__"), "__init__", "CapacityExceeded.__init__", defArgs (iniS 19), defBody (iniS 19), defScope (iniS 19), [], []⟩,
  ⟨("InvalidCapacity", some "__init__"), "__init__", "InvalidCapacity.__init__", defArgs (iniS 20), defBody (iniS 20), defScope (iniS 20), [], []⟩,
  ⟨("NameInUse", some "__init__"), "__init__", "NameInUse.__init__", defArgs (iniS 21), defBody (iniS 21), defScope (iniS 21), [], []⟩,
  ⟨("InvalidCommand", some "__init__"), "__init__", "InvalidCommand.__init__", defArgs (iniS 22), defBody (iniS 22), defScope (iniS 22), [], []⟩,
  ⟨("ParseError", some "__init__"), "__init__", "ParseError.__init__", defArgs (iniS 23), defBody (iniS 23), defScope (iniS 23), [], []⟩,
  ⟨("InvalidFile", some "__init__"), "__init__", "InvalidFile.__init__", defArgs (iniS 24), defBody (iniS 24), defScope (iniS 24), [], []⟩,
  ⟨("UnknownName", some "__init__"), "__init__", "UnknownName.__init__", defArgs (iniS 25), defBody (iniS 25), defScope (iniS 25), [], []⟩,
  ⟨("EmptyHistory", some "__init__"), "__init__", "EmptyHistory.__init__", defArgs (iniS 26), defBody (iniS 26), defScope (iniS 26), [], []⟩]
def fa56 : List He.Fa := [.glo "InvalidGraph", .glo "LimitExceeded", .glo "OutOfRange", .glo "InvalidRow", .glo "InvalidPath", .glo "InvalidWidth", .glo "InvalidCode", .glo "InvalidLength", .glo "InvalidCount", .glo "GraphMismatch", .glo "InvalidStep", .glo "NotOneToOne", .glo "NotOnto", .glo "EndlessOrigins", .glo "InvalidName", .glo "DuplicateName", .glo "CapacityExceeded", .glo "InvalidCapacity", .glo "NameInUse", .glo "InvalidCommand", .glo "ParseError", .glo "InvalidFile", .glo "UnknownName", .glo "EmptyHistory", .glo "WindowError", .glo "Absent", .glo "_law_bag", .glo "_law_pull", .glo "_law_of", .glo "_law_like", .glo "_law_field", .glo "_law_pool", .glo "_law_flags", .glo "law", .free "len", .free "list", .free "range", .free "zip", .free "all", .free "any", .free "isinstance", .free "tuple", .free "bool", .free "int", .free "str", .free "ValueError", .free "LookupError", .free "KeyError", .free "IndexError"]
abbrev Al56 : Type := He.AlD × Bool
def K56 (g : Addr → Option Obj) : PySem.W.Frag := He.frG g ((PySem.cStatics :: He.asD g 4).filter fun a => !(a == (tabO g (He.ga (He.frG g (He.asD g 1)) "_law_field")).2))
def obG (g : Addr → Option Obj) : Al56 := (He.obsD fa56 fn56 (K56 g), ok56 (K56 g) && tabB g (K56 g) (He.ga (K56 g) "_law_field") (tabO g (He.ga (He.frG g (He.asD g 1)) "_law_field")).1 (tabO g (He.ga (He.frG g (He.asD g 1)) "_law_field")).2)
structure Says56 (h : Heap) : Prop where
  ex : ∃ (K : PySem.W.Frag) (c Pt : Addr), K.In h ∧ He.SaysD fa56 fn56 K ∧ ok56 K = true ∧ h.get? Pt = some { cls := .none, data := .fields #[] } ∧ PySem.W.CodeHd h c Pt ∧ K.lookup Pt = none ∧ ∀ o, K.lookup (He.ga K "_law_field") = some o → ∀ fd, o.data = .func fd → fd.code = .ref c
theorem frG_not {g : Addr → Option Obj} {a : Addr} : ∀ as : List Addr, a ∉ as → (He.frG g as).lookup a = none
  | [], _ => rfl
  | b :: r, n => by
    have n1 : a ≠ b := fun z => n (z ▸ List.mem_cons_self ..)
    have n2 := frG_not (g := g) r fun z => n (List.mem_cons_of_mem _ z)
    unfold He.frG at n2 ⊢
    rw [List.filterMap_cons]
    cases e : g b with
    | none => exact n2
    | some o =>
      show (match a == b with | true => some o | false => List.lookup a _) = none
      rw [beq_false_of_ne n1]; exact n2
theorem K56_in {h : Heap} : (K56 h.get?).In h := He.frG_in
theorem says_of {h : Heap} (e : obG h.get? = (He.valD fn56, true)) : Says56 h := by
  have e1 : He.obsD fa56 fn56 (K56 h.get?) = He.valD fn56 := congrArg Prod.fst e
  obtain ⟨e2, e3⟩ := He.ba (show (ok56 (K56 h.get?) && tabB h.get? (K56 h.get?) (He.ga (K56 h.get?) "_law_field") (tabO h.get? (He.ga (He.frG h.get? (He.asD h.get? 1)) "_law_field")).1 (tabO h.get? (He.ga (He.frG h.get? (He.asD h.get? 1)) "_law_field")).2) = true from congrArg Prod.snd e)
  obtain ⟨t1, t2, t3⟩ := tabB_ok K56_in e3
  refine ⟨_, _, _, K56_in, e1, e2, t1, t2, frG_not _ fun m => ?_, t3⟩
  have z := (List.mem_filter.mp m).2
  simp at z
def hk56 : PySem.W.Hook where
  α := Al56
  obs := fun s => obG s.heap.get?
  val := fun _ => (He.valD fn56, true)
  says := fun _ h => Says56 h
  of := fun _ _ e => says_of e
  keeps := fun _ _ _ ⟨K, c, Pt, h1, h2, h3, h4, h5, h6, h7⟩ k => ⟨K, c, Pt, PySem.W.Frag.In.keeps h1 k, h2, h3, k _ _ h4, h5.keeps k, h6, h7⟩
def ob56 (s : PySem.W.SharedT) : Al56 := obG (HandSHeadRun.getT s)
theorem ob56_eq (s : PySem.W.SharedT) : ob56 s = hk56.obs s.abs := by
  have e : HandSHeadRun.getT s = s.abs.heap.get? := funext (HandSHeadRun.getT_eq s)
  show obG (HandSHeadRun.getT s) = obG s.abs.heap.get?
  rw [e]
abbrev R56 : PySem.W.OpenRow := PySem.W.OpenLaw.row PySem.Challenge.rw_windowkin_k56_classes_of_errors
def names56_0 : List PySem.Str := ["WindowError", "Absent", "InvalidGraph", "LimitExceeded", "OutOfRange", "InvalidRow", "InvalidPath", "InvalidWidth", "InvalidCode", "InvalidLength", "InvalidCount", "GraphMismatch", "InvalidStep", "NotOneToOne", "NotOnto", "EndlessOrigins", "InvalidName", "DuplicateName", "CapacityExceeded", "InvalidCapacity", "NameInUse", "InvalidCommand", "ParseError", "InvalidFile", "UnknownName", "EmptyHistory", "_law_bag", "_law_pull", "_law_of", "_law_like"]
def names56_1 : List PySem.Str := ["_law_field", "_law_pool", "_law_flags"]
def names56 : List PySem.Str := names56_0 ++ names56_1
theorem run56 (w : World) : HandSHeadRun.RunEq R56 (PySem.W.view R56.prog [35]) hk56 ob56 20000 names56 w := by
  intro os
  kernel_rfl
end WK
set_option Elab.async false
set_option linter.all false
set_option maxRecDepth 100000
set_option maxHeartbeats 0
namespace WK
noncomputable section
open PySem PySem.Spec PyProof.Rows L2 LamX NdefX
def T56 (P : Program) (w : World) (Pt : Addr) : Tb := { nm := nm56, cls := cls56, P := P, w := w, tabs := [(Pt, nmT)], nd := by decide +kernel }
section
variable {P : Program} {w : World} {K : PySem.W.Frag} {mg : Str → Option Value} {base : Heap} {Pt c : Addr}
theorem xall (h : ∀ d ∈ xds, XOk K nm56 d) : ∀ c ∈ cs24, ExcC K (ca56 K c) ∧ XfC K (ca56 K c) ∧ ∀ f ∈ nm56, PySem.W.findIn K (.ref (ca56 K c)) f = some none := by
  have key : ∀ c, c < 24 → ∃ d, xds[c]? = some d ∧ ca56 K c = He.ga K d.x := fun c hc => match c, hc with
    | 0, _ => ⟨_, rfl, rfl⟩
    | 1, _ => ⟨_, rfl, rfl⟩
    | 2, _ => ⟨_, rfl, rfl⟩
    | 3, _ => ⟨_, rfl, rfl⟩
    | 4, _ => ⟨_, rfl, rfl⟩
    | 5, _ => ⟨_, rfl, rfl⟩
    | 6, _ => ⟨_, rfl, rfl⟩
    | 7, _ => ⟨_, rfl, rfl⟩
    | 8, _ => ⟨_, rfl, rfl⟩
    | 9, _ => ⟨_, rfl, rfl⟩
    | 10, _ => ⟨_, rfl, rfl⟩
    | 11, _ => ⟨_, rfl, rfl⟩
    | 12, _ => ⟨_, rfl, rfl⟩
    | 13, _ => ⟨_, rfl, rfl⟩
    | 14, _ => ⟨_, rfl, rfl⟩
    | 15, _ => ⟨_, rfl, rfl⟩
    | 16, _ => ⟨_, rfl, rfl⟩
    | 17, _ => ⟨_, rfl, rfl⟩
    | 18, _ => ⟨_, rfl, rfl⟩
    | 19, _ => ⟨_, rfl, rfl⟩
    | 20, _ => ⟨_, rfl, rfl⟩
    | 21, _ => ⟨_, rfl, rfl⟩
    | 22, _ => ⟨_, rfl, rfl⟩
    | 23, _ => ⟨_, rfl, rfl⟩
    | n + 24, h => absurd h (by omega)
  intro c hc
  have hl : c < 24 := by
    have z : ∀ x ∈ cs24, x < 24 := by decide
    exact z c hc
  obtain ⟨d, e1, e2⟩ := key c hl
  have x := h d (List.mem_of_getElem? e1)
  rw [e2]
  exact ⟨x.ec, x.xf, x.no⟩
theorem isx_of (h : ∀ d ∈ xds, XOk K nm56 d) {cv : Value} {tbl : List (Nat × Bool)} (ht : ∀ q ∈ tbl, q.1 ∈ cs24) (hb : isB K cv tbl = true) : IsXOk (T56 P w Pt) K cv tbl := fun c b hm =>
  ⟨(xall h c (ht _ hm)).1, of_decide_eq_true (List.all_eq_true.mp hb (c, b) hm)⟩
theorem xg_of (h : ∀ d ∈ xds, XOk K nm56 d) {f : Nat} (hf : f < nm56.length) : XgOk (T56 P w Pt) K cs24 f := fun c hc => by
  obtain ⟨_, h2, h3⟩ := xall h c hc
  refine ⟨h2, h3 _ ?_⟩
  show nm56.getD f "" ∈ nm56
  rw [List.getD_eq_getElem?_getD, List.getElem?_eq_getElem hf]
  exact List.getElem_mem hf
theorem mk_InvalidGraph {fd : FuncData} (x : XOk K nm56 ⟨"InvalidGraph", "ValueError.__new__", tVE⟩) (F : FunD K "__init__" "InvalidGraph.__init__" (defArgs (iniS 3)) (defBody (iniS 3)) (defScope (iniS 3)) [] [] (He.ma K (He.ga K "InvalidGraph") "__init__") fd) (mc : mg "InvalidGraph" = some (.ref (He.ga K "InvalidGraph"))) (md : mg "WindowError" = some (.ref (He.ga K "WindowError"))) (V : CiC K "ValueError.__init__" (He.ga K "WindowError") (.type "type")) :
    MkC (T56 P w Pt) P w K mg base "InvalidGraph" 1 0 0 1 fun C => spI1 C "place" "invalidgraph" :=
  ⟨"ValueError", "ValueError.__new__", "ValueError.__init__", tVE, _, fd, ["self", "place"], bs_VE, x.ox, x.iC, x.tI, mc, F.bindsN fun _ _ _ _ _ _ us hl => match us, hl with | [_, _], _ => rfl, initA_ok bs_VE F ⟨rfl, rfl, rfl, by decide +kernel, rfl, by decide +kernel, by decide +kernel⟩ rfl (fun env => ⟨_, rfl⟩) (fun _ => rfl) (fun _ => rfl) (fun _ => rfl) rfl rfl rfl md V x.ox (x.no _ (by decide)) (x.no _ (by decide)) rfl rfl rfl⟩
theorem mk_LimitExceeded {fd : FuncData} (x : XOk K nm56 ⟨"LimitExceeded", "ValueError.__new__", tVE⟩) (F : FunD K "__init__" "LimitExceeded.__init__" (defArgs (iniS 4)) (defBody (iniS 4)) (defScope (iniS 4)) [] [] (He.ma K (He.ga K "LimitExceeded") "__init__") fd) (mc : mg "LimitExceeded" = some (.ref (He.ga K "LimitExceeded"))) (md : mg "WindowError" = some (.ref (He.ga K "WindowError"))) (V : CiC K "ValueError.__init__" (He.ga K "WindowError") (.type "type")) :
    MkC (T56 P w Pt) P w K mg base "LimitExceeded" 1 1 0 1 fun C => spI1 C "limit" "limitexceeded" :=
  ⟨"ValueError", "ValueError.__new__", "ValueError.__init__", tVE, _, fd, ["self", "limit"], bs_VE, x.ox, x.iC, x.tI, mc, F.bindsN fun _ _ _ _ _ _ us hl => match us, hl with | [_, _], _ => rfl, initA_ok bs_VE F ⟨rfl, rfl, rfl, by decide +kernel, rfl, by decide +kernel, by decide +kernel⟩ rfl (fun env => ⟨_, rfl⟩) (fun _ => rfl) (fun _ => rfl) (fun _ => rfl) rfl rfl rfl md V x.ox (x.no _ (by decide)) (x.no _ (by decide)) rfl rfl rfl⟩
theorem mk_OutOfRange {fd : FuncData} (x : XOk K nm56 ⟨"OutOfRange", "ValueError.__new__", tVE⟩) (F : FunD K "__init__" "OutOfRange.__init__" (defArgs (iniS 5)) (defBody (iniS 5)) (defScope (iniS 5)) [] [] (He.ma K (He.ga K "OutOfRange") "__init__") fd) (mc : mg "OutOfRange" = some (.ref (He.ga K "OutOfRange"))) (md : mg "WindowError" = some (.ref (He.ga K "WindowError"))) (V : CiC K "ValueError.__init__" (He.ga K "WindowError") (.type "type")) :
    MkC (T56 P w Pt) P w K mg base "OutOfRange" 1 2 0 1 fun C => spI1 C "number" "outofrange" :=
  ⟨"ValueError", "ValueError.__new__", "ValueError.__init__", tVE, _, fd, ["self", "number"], bs_VE, x.ox, x.iC, x.tI, mc, F.bindsN fun _ _ _ _ _ _ us hl => match us, hl with | [_, _], _ => rfl, initA_ok bs_VE F ⟨rfl, rfl, rfl, by decide +kernel, rfl, by decide +kernel, by decide +kernel⟩ rfl (fun env => ⟨_, rfl⟩) (fun _ => rfl) (fun _ => rfl) (fun _ => rfl) rfl rfl rfl md V x.ox (x.no _ (by decide)) (x.no _ (by decide)) rfl rfl rfl⟩
theorem mk_InvalidRow {fd : FuncData} (x : XOk K nm56 ⟨"InvalidRow", "ValueError.__new__", tVE⟩) (F : FunD K "__init__" "InvalidRow.__init__" (defArgs (iniS 6)) (defBody (iniS 6)) (defScope (iniS 6)) [] [] (He.ma K (He.ga K "InvalidRow") "__init__") fd) (mc : mg "InvalidRow" = some (.ref (He.ga K "InvalidRow"))) (md : mg "WindowError" = some (.ref (He.ga K "WindowError"))) (V : CiC K "ValueError.__init__" (He.ga K "WindowError") (.type "type")) :
    MkC (T56 P w Pt) P w K mg base "InvalidRow" 1 3 0 1 fun C => spI1 C "place" "invalidrow" :=
  ⟨"ValueError", "ValueError.__new__", "ValueError.__init__", tVE, _, fd, ["self", "place"], bs_VE, x.ox, x.iC, x.tI, mc, F.bindsN fun _ _ _ _ _ _ us hl => match us, hl with | [_, _], _ => rfl, initA_ok bs_VE F ⟨rfl, rfl, rfl, by decide +kernel, rfl, by decide +kernel, by decide +kernel⟩ rfl (fun env => ⟨_, rfl⟩) (fun _ => rfl) (fun _ => rfl) (fun _ => rfl) rfl rfl rfl md V x.ox (x.no _ (by decide)) (x.no _ (by decide)) rfl rfl rfl⟩
theorem mk_InvalidPath {fd : FuncData} (x : XOk K nm56 ⟨"InvalidPath", "ValueError.__new__", tVE⟩) (F : FunD K "__init__" "InvalidPath.__init__" (defArgs (iniS 7)) (defBody (iniS 7)) (defScope (iniS 7)) [] [] (He.ma K (He.ga K "InvalidPath") "__init__") fd) (mc : mg "InvalidPath" = some (.ref (He.ga K "InvalidPath"))) (md : mg "WindowError" = some (.ref (He.ga K "WindowError"))) (V : CiC K "ValueError.__init__" (He.ga K "WindowError") (.type "type")) :
    MkC (T56 P w Pt) P w K mg base "InvalidPath" 1 4 0 1 fun C => spI1 C "place" "invalidpath" :=
  ⟨"ValueError", "ValueError.__new__", "ValueError.__init__", tVE, _, fd, ["self", "place"], bs_VE, x.ox, x.iC, x.tI, mc, F.bindsN fun _ _ _ _ _ _ us hl => match us, hl with | [_, _], _ => rfl, initA_ok bs_VE F ⟨rfl, rfl, rfl, by decide +kernel, rfl, by decide +kernel, by decide +kernel⟩ rfl (fun env => ⟨_, rfl⟩) (fun _ => rfl) (fun _ => rfl) (fun _ => rfl) rfl rfl rfl md V x.ox (x.no _ (by decide)) (x.no _ (by decide)) rfl rfl rfl⟩
theorem mk_InvalidWidth {fd : FuncData} (x : XOk K nm56 ⟨"InvalidWidth", "ValueError.__new__", tVE⟩) (F : FunD K "__init__" "InvalidWidth.__init__" (defArgs (iniS 8)) (defBody (iniS 8)) (defScope (iniS 8)) [] [] (He.ma K (He.ga K "InvalidWidth") "__init__") fd) (mc : mg "InvalidWidth" = some (.ref (He.ga K "InvalidWidth"))) (md : mg "WindowError" = some (.ref (He.ga K "WindowError"))) (V : CiC K "ValueError.__init__" (He.ga K "WindowError") (.type "type")) :
    MkC (T56 P w Pt) P w K mg base "InvalidWidth" 1 5 0 1 fun C => spI1 C "number" "invalidwidth" :=
  ⟨"ValueError", "ValueError.__new__", "ValueError.__init__", tVE, _, fd, ["self", "number"], bs_VE, x.ox, x.iC, x.tI, mc, F.bindsN fun _ _ _ _ _ _ us hl => match us, hl with | [_, _], _ => rfl, initA_ok bs_VE F ⟨rfl, rfl, rfl, by decide +kernel, rfl, by decide +kernel, by decide +kernel⟩ rfl (fun env => ⟨_, rfl⟩) (fun _ => rfl) (fun _ => rfl) (fun _ => rfl) rfl rfl rfl md V x.ox (x.no _ (by decide)) (x.no _ (by decide)) rfl rfl rfl⟩
theorem mk_InvalidCode {fd : FuncData} (x : XOk K nm56 ⟨"InvalidCode", "ValueError.__new__", tVE⟩) (F : FunD K "__init__" "InvalidCode.__init__" (defArgs (iniS 9)) (defBody (iniS 9)) (defScope (iniS 9)) [] [] (He.ma K (He.ga K "InvalidCode") "__init__") fd) (mc : mg "InvalidCode" = some (.ref (He.ga K "InvalidCode"))) (md : mg "WindowError" = some (.ref (He.ga K "WindowError"))) (V : CiC K "ValueError.__init__" (He.ga K "WindowError") (.type "type")) :
    MkC (T56 P w Pt) P w K mg base "InvalidCode" 1 6 0 1 fun C => spI1 C "place" "invalidcode" :=
  ⟨"ValueError", "ValueError.__new__", "ValueError.__init__", tVE, _, fd, ["self", "place"], bs_VE, x.ox, x.iC, x.tI, mc, F.bindsN fun _ _ _ _ _ _ us hl => match us, hl with | [_, _], _ => rfl, initA_ok bs_VE F ⟨rfl, rfl, rfl, by decide +kernel, rfl, by decide +kernel, by decide +kernel⟩ rfl (fun env => ⟨_, rfl⟩) (fun _ => rfl) (fun _ => rfl) (fun _ => rfl) rfl rfl rfl md V x.ox (x.no _ (by decide)) (x.no _ (by decide)) rfl rfl rfl⟩
theorem mk_InvalidLength {fd : FuncData} (x : XOk K nm56 ⟨"InvalidLength", "ValueError.__new__", tVE⟩) (F : FunD K "__init__" "InvalidLength.__init__" (defArgs (iniS 10)) (defBody (iniS 10)) (defScope (iniS 10)) [] [] (He.ma K (He.ga K "InvalidLength") "__init__") fd) (mc : mg "InvalidLength" = some (.ref (He.ga K "InvalidLength"))) (md : mg "WindowError" = some (.ref (He.ga K "WindowError"))) (V : CiC K "ValueError.__init__" (He.ga K "WindowError") (.type "type")) :
    MkC (T56 P w Pt) P w K mg base "InvalidLength" 1 7 0 1 fun C => spI1 C "length" "invalidlength" :=
  ⟨"ValueError", "ValueError.__new__", "ValueError.__init__", tVE, _, fd, ["self", "length"], bs_VE, x.ox, x.iC, x.tI, mc, F.bindsN fun _ _ _ _ _ _ us hl => match us, hl with | [_, _], _ => rfl, initA_ok bs_VE F ⟨rfl, rfl, rfl, by decide +kernel, rfl, by decide +kernel, by decide +kernel⟩ rfl (fun env => ⟨_, rfl⟩) (fun _ => rfl) (fun _ => rfl) (fun _ => rfl) rfl rfl rfl md V x.ox (x.no _ (by decide)) (x.no _ (by decide)) rfl rfl rfl⟩
theorem mk_InvalidCount {fd : FuncData} (x : XOk K nm56 ⟨"InvalidCount", "ValueError.__new__", tVE⟩) (F : FunD K "__init__" "InvalidCount.__init__" (defArgs (iniS 11)) (defBody (iniS 11)) (defScope (iniS 11)) [] [] (He.ma K (He.ga K "InvalidCount") "__init__") fd) (mc : mg "InvalidCount" = some (.ref (He.ga K "InvalidCount"))) (md : mg "WindowError" = some (.ref (He.ga K "WindowError"))) (V : CiC K "ValueError.__init__" (He.ga K "WindowError") (.type "type")) :
    MkC (T56 P w Pt) P w K mg base "InvalidCount" 1 8 0 1 fun C => spI1 C "count" "invalidcount" :=
  ⟨"ValueError", "ValueError.__new__", "ValueError.__init__", tVE, _, fd, ["self", "count"], bs_VE, x.ox, x.iC, x.tI, mc, F.bindsN fun _ _ _ _ _ _ us hl => match us, hl with | [_, _], _ => rfl, initA_ok bs_VE F ⟨rfl, rfl, rfl, by decide +kernel, rfl, by decide +kernel, by decide +kernel⟩ rfl (fun env => ⟨_, rfl⟩) (fun _ => rfl) (fun _ => rfl) (fun _ => rfl) rfl rfl rfl md V x.ox (x.no _ (by decide)) (x.no _ (by decide)) rfl rfl rfl⟩
theorem mk_GraphMismatch {fd : FuncData} (x : XOk K nm56 ⟨"GraphMismatch", "ValueError.__new__", tVE⟩) (F : FunD K "__init__" "GraphMismatch.__init__" (defArgs (iniS 12)) (defBody (iniS 12)) (defScope (iniS 12)) [] [] (He.ma K (He.ga K "GraphMismatch") "__init__") fd) (mc : mg "GraphMismatch" = some (.ref (He.ga K "GraphMismatch"))) (md : mg "WindowError" = some (.ref (He.ga K "WindowError"))) (V : CiC K "ValueError.__init__" (He.ga K "WindowError") (.type "type")) :
    MkC (T56 P w Pt) P w K mg base "GraphMismatch" 1 9 0 0 fun C => spI0 C "graphmismatch" :=
  ⟨"ValueError", "ValueError.__new__", "ValueError.__init__", tVE, _, fd, ["self"], bs_VE, x.ox, x.iC, x.tI, mc, F.bindsN fun _ _ _ _ _ _ us hl => match us, hl with | [_], _ => rfl, initB_ok bs_VE F ⟨rfl, rfl, rfl, by decide +kernel, rfl, by decide +kernel, by decide +kernel⟩ rfl (fun env => ⟨_, rfl⟩) (fun _ => rfl) (fun _ => rfl) rfl rfl md V x.ox (x.no _ (by decide)) rfl⟩
theorem mk_InvalidStep {fd : FuncData} (x : XOk K nm56 ⟨"InvalidStep", "ValueError.__new__", tVE⟩) (F : FunD K "__init__" "InvalidStep.__init__" (defArgs (iniS 13)) (defBody (iniS 13)) (defScope (iniS 13)) [] [] (He.ma K (He.ga K "InvalidStep") "__init__") fd) (mc : mg "InvalidStep" = some (.ref (He.ga K "InvalidStep"))) (md : mg "WindowError" = some (.ref (He.ga K "WindowError"))) (V : CiC K "ValueError.__init__" (He.ga K "WindowError") (.type "type")) :
    MkC (T56 P w Pt) P w K mg base "InvalidStep" 1 10 0 0 fun C => spI0 C "invalidstep" :=
  ⟨"ValueError", "ValueError.__new__", "ValueError.__init__", tVE, _, fd, ["self"], bs_VE, x.ox, x.iC, x.tI, mc, F.bindsN fun _ _ _ _ _ _ us hl => match us, hl with | [_], _ => rfl, initB_ok bs_VE F ⟨rfl, rfl, rfl, by decide +kernel, rfl, by decide +kernel, by decide +kernel⟩ rfl (fun env => ⟨_, rfl⟩) (fun _ => rfl) (fun _ => rfl) rfl rfl md V x.ox (x.no _ (by decide)) rfl⟩
theorem mk_NotOneToOne {fd : FuncData} (x : XOk K nm56 ⟨"NotOneToOne", "ValueError.__new__", tVE⟩) (F : FunD K "__init__" "NotOneToOne.__init__" (defArgs (iniS 14)) (defBody (iniS 14)) (defScope (iniS 14)) [] [] (He.ma K (He.ga K "NotOneToOne") "__init__") fd) (mc : mg "NotOneToOne" = some (.ref (He.ga K "NotOneToOne"))) (md : mg "WindowError" = some (.ref (He.ga K "WindowError"))) (V : CiC K "ValueError.__init__" (He.ga K "WindowError") (.type "type")) :
    MkC (T56 P w Pt) P w K mg base "NotOneToOne" 1 11 0 0 fun C => spI0 C "notonetoone" :=
  ⟨"ValueError", "ValueError.__new__", "ValueError.__init__", tVE, _, fd, ["self"], bs_VE, x.ox, x.iC, x.tI, mc, F.bindsN fun _ _ _ _ _ _ us hl => match us, hl with | [_], _ => rfl, initB_ok bs_VE F ⟨rfl, rfl, rfl, by decide +kernel, rfl, by decide +kernel, by decide +kernel⟩ rfl (fun env => ⟨_, rfl⟩) (fun _ => rfl) (fun _ => rfl) rfl rfl md V x.ox (x.no _ (by decide)) rfl⟩
theorem mk_NotOnto {fd : FuncData} (x : XOk K nm56 ⟨"NotOnto", "ValueError.__new__", tVE⟩) (F : FunD K "__init__" "NotOnto.__init__" (defArgs (iniS 15)) (defBody (iniS 15)) (defScope (iniS 15)) [] [] (He.ma K (He.ga K "NotOnto") "__init__") fd) (mc : mg "NotOnto" = some (.ref (He.ga K "NotOnto"))) (md : mg "WindowError" = some (.ref (He.ga K "WindowError"))) (V : CiC K "ValueError.__init__" (He.ga K "WindowError") (.type "type")) :
    MkC (T56 P w Pt) P w K mg base "NotOnto" 1 12 0 0 fun C => spI0 C "notonto" :=
  ⟨"ValueError", "ValueError.__new__", "ValueError.__init__", tVE, _, fd, ["self"], bs_VE, x.ox, x.iC, x.tI, mc, F.bindsN fun _ _ _ _ _ _ us hl => match us, hl with | [_], _ => rfl, initB_ok bs_VE F ⟨rfl, rfl, rfl, by decide +kernel, rfl, by decide +kernel, by decide +kernel⟩ rfl (fun env => ⟨_, rfl⟩) (fun _ => rfl) (fun _ => rfl) rfl rfl md V x.ox (x.no _ (by decide)) rfl⟩
theorem mk_EndlessOrigins {fd : FuncData} (x : XOk K nm56 ⟨"EndlessOrigins", "ValueError.__new__", tVE⟩) (F : FunD K "__init__" "EndlessOrigins.__init__" (defArgs (iniS 16)) (defBody (iniS 16)) (defScope (iniS 16)) [] [] (He.ma K (He.ga K "EndlessOrigins") "__init__") fd) (mc : mg "EndlessOrigins" = some (.ref (He.ga K "EndlessOrigins"))) (md : mg "WindowError" = some (.ref (He.ga K "WindowError"))) (V : CiC K "ValueError.__init__" (He.ga K "WindowError") (.type "type")) :
    MkC (T56 P w Pt) P w K mg base "EndlessOrigins" 1 13 0 0 fun C => spI0 C "endlessorigins" :=
  ⟨"ValueError", "ValueError.__new__", "ValueError.__init__", tVE, _, fd, ["self"], bs_VE, x.ox, x.iC, x.tI, mc, F.bindsN fun _ _ _ _ _ _ us hl => match us, hl with | [_], _ => rfl, initB_ok bs_VE F ⟨rfl, rfl, rfl, by decide +kernel, rfl, by decide +kernel, by decide +kernel⟩ rfl (fun env => ⟨_, rfl⟩) (fun _ => rfl) (fun _ => rfl) rfl rfl md V x.ox (x.no _ (by decide)) rfl⟩
theorem mk_InvalidName {fd : FuncData} (x : XOk K nm56 ⟨"InvalidName", "ValueError.__new__", tVE⟩) (F : FunD K "__init__" "InvalidName.__init__" (defArgs (iniS 17)) (defBody (iniS 17)) (defScope (iniS 17)) [] [] (He.ma K (He.ga K "InvalidName") "__init__") fd) (mc : mg "InvalidName" = some (.ref (He.ga K "InvalidName"))) (md : mg "WindowError" = some (.ref (He.ga K "WindowError"))) (V : CiC K "ValueError.__init__" (He.ga K "WindowError") (.type "type")) :
    MkC (T56 P w Pt) P w K mg base "InvalidName" 1 14 0 1 fun C => spI1 C "name" "invalidname" :=
  ⟨"ValueError", "ValueError.__new__", "ValueError.__init__", tVE, _, fd, ["self", "name"], bs_VE, x.ox, x.iC, x.tI, mc, F.bindsN fun _ _ _ _ _ _ us hl => match us, hl with | [_, _], _ => rfl, initA_ok bs_VE F ⟨rfl, rfl, rfl, by decide +kernel, rfl, by decide +kernel, by decide +kernel⟩ rfl (fun env => ⟨_, rfl⟩) (fun _ => rfl) (fun _ => rfl) (fun _ => rfl) rfl rfl rfl md V x.ox (x.no _ (by decide)) (x.no _ (by decide)) rfl rfl rfl⟩
theorem mk_DuplicateName {fd : FuncData} (x : XOk K nm56 ⟨"DuplicateName", "ValueError.__new__", tVE⟩) (F : FunD K "__init__" "DuplicateName.__init__" (defArgs (iniS 18)) (defBody (iniS 18)) (defScope (iniS 18)) [] [] (He.ma K (He.ga K "DuplicateName") "__init__") fd) (mc : mg "DuplicateName" = some (.ref (He.ga K "DuplicateName"))) (md : mg "WindowError" = some (.ref (He.ga K "WindowError"))) (V : CiC K "ValueError.__init__" (He.ga K "WindowError") (.type "type")) :
    MkC (T56 P w Pt) P w K mg base "DuplicateName" 1 15 0 1 fun C => spI1 C "name" "duplicatename" :=
  ⟨"ValueError", "ValueError.__new__", "ValueError.__init__", tVE, _, fd, ["self", "name"], bs_VE, x.ox, x.iC, x.tI, mc, F.bindsN fun _ _ _ _ _ _ us hl => match us, hl with | [_, _], _ => rfl, initA_ok bs_VE F ⟨rfl, rfl, rfl, by decide +kernel, rfl, by decide +kernel, by decide +kernel⟩ rfl (fun env => ⟨_, rfl⟩) (fun _ => rfl) (fun _ => rfl) (fun _ => rfl) rfl rfl rfl md V x.ox (x.no _ (by decide)) (x.no _ (by decide)) rfl rfl rfl⟩
theorem mk_CapacityExceeded {fd : FuncData} (x : XOk K nm56 ⟨"CapacityExceeded", "ValueError.__new__", tVE⟩) (F : FunD K "__init__" "CapacityExceeded.__init__" (defArgs (iniS 19)) (defBody (iniS 19)) (defScope (iniS 19)) [] [] (He.ma K (He.ga K "CapacityExceeded") "__init__") fd) (mc : mg "CapacityExceeded" = some (.ref (He.ga K "CapacityExceeded"))) (md : mg "WindowError" = some (.ref (He.ga K "WindowError"))) (V : CiC K "ValueError.__init__" (He.ga K "WindowError") (.type "type")) :
    MkC (T56 P w Pt) P w K mg base "CapacityExceeded" 1 16 0 1 fun C => spI1 C "limit" "capacityexceeded" :=
  ⟨"ValueError", "ValueError.__new__", "ValueError.__init__", tVE, _, fd, ["self", "limit"], bs_VE, x.ox, x.iC, x.tI, mc, F.bindsN fun _ _ _ _ _ _ us hl => match us, hl with | [_, _], _ => rfl, initA_ok bs_VE F ⟨rfl, rfl, rfl, by decide +kernel, rfl, by decide +kernel, by decide +kernel⟩ rfl (fun env => ⟨_, rfl⟩) (fun _ => rfl) (fun _ => rfl) (fun _ => rfl) rfl rfl rfl md V x.ox (x.no _ (by decide)) (x.no _ (by decide)) rfl rfl rfl⟩
theorem mk_InvalidCapacity {fd : FuncData} (x : XOk K nm56 ⟨"InvalidCapacity", "ValueError.__new__", tVE⟩) (F : FunD K "__init__" "InvalidCapacity.__init__" (defArgs (iniS 20)) (defBody (iniS 20)) (defScope (iniS 20)) [] [] (He.ma K (He.ga K "InvalidCapacity") "__init__") fd) (mc : mg "InvalidCapacity" = some (.ref (He.ga K "InvalidCapacity"))) (md : mg "WindowError" = some (.ref (He.ga K "WindowError"))) (V : CiC K "ValueError.__init__" (He.ga K "WindowError") (.type "type")) :
    MkC (T56 P w Pt) P w K mg base "InvalidCapacity" 1 17 0 1 fun C => spI1 C "number" "invalidcapacity" :=
  ⟨"ValueError", "ValueError.__new__", "ValueError.__init__", tVE, _, fd, ["self", "number"], bs_VE, x.ox, x.iC, x.tI, mc, F.bindsN fun _ _ _ _ _ _ us hl => match us, hl with | [_, _], _ => rfl, initA_ok bs_VE F ⟨rfl, rfl, rfl, by decide +kernel, rfl, by decide +kernel, by decide +kernel⟩ rfl (fun env => ⟨_, rfl⟩) (fun _ => rfl) (fun _ => rfl) (fun _ => rfl) rfl rfl rfl md V x.ox (x.no _ (by decide)) (x.no _ (by decide)) rfl rfl rfl⟩
theorem mk_NameInUse {fd : FuncData} (x : XOk K nm56 ⟨"NameInUse", "ValueError.__new__", tVE⟩) (F : FunD K "__init__" "NameInUse.__init__" (defArgs (iniS 21)) (defBody (iniS 21)) (defScope (iniS 21)) [] [] (He.ma K (He.ga K "NameInUse") "__init__") fd) (mc : mg "NameInUse" = some (.ref (He.ga K "NameInUse"))) (md : mg "WindowError" = some (.ref (He.ga K "WindowError"))) (V : CiC K "ValueError.__init__" (He.ga K "WindowError") (.type "type")) :
    MkC (T56 P w Pt) P w K mg base "NameInUse" 1 18 0 1 fun C => spI1 C "name" "nameinuse" :=
  ⟨"ValueError", "ValueError.__new__", "ValueError.__init__", tVE, _, fd, ["self", "name"], bs_VE, x.ox, x.iC, x.tI, mc, F.bindsN fun _ _ _ _ _ _ us hl => match us, hl with | [_, _], _ => rfl, initA_ok bs_VE F ⟨rfl, rfl, rfl, by decide +kernel, rfl, by decide +kernel, by decide +kernel⟩ rfl (fun env => ⟨_, rfl⟩) (fun _ => rfl) (fun _ => rfl) (fun _ => rfl) rfl rfl rfl md V x.ox (x.no _ (by decide)) (x.no _ (by decide)) rfl rfl rfl⟩
theorem mk_InvalidCommand {fd : FuncData} (x : XOk K nm56 ⟨"InvalidCommand", "ValueError.__new__", tVE⟩) (F : FunD K "__init__" "InvalidCommand.__init__" (defArgs (iniS 22)) (defBody (iniS 22)) (defScope (iniS 22)) [] [] (He.ma K (He.ga K "InvalidCommand") "__init__") fd) (mc : mg "InvalidCommand" = some (.ref (He.ga K "InvalidCommand"))) (md : mg "WindowError" = some (.ref (He.ga K "WindowError"))) (V : CiC K "ValueError.__init__" (He.ga K "WindowError") (.type "type")) :
    MkC (T56 P w Pt) P w K mg base "InvalidCommand" 1 19 0 1 fun C => spI1 C "position" "invalidcommand" :=
  ⟨"ValueError", "ValueError.__new__", "ValueError.__init__", tVE, _, fd, ["self", "position"], bs_VE, x.ox, x.iC, x.tI, mc, F.bindsN fun _ _ _ _ _ _ us hl => match us, hl with | [_, _], _ => rfl, initA_ok bs_VE F ⟨rfl, rfl, rfl, by decide +kernel, rfl, by decide +kernel, by decide +kernel⟩ rfl (fun env => ⟨_, rfl⟩) (fun _ => rfl) (fun _ => rfl) (fun _ => rfl) rfl rfl rfl md V x.ox (x.no _ (by decide)) (x.no _ (by decide)) rfl rfl rfl⟩
theorem mk_ParseError {fd : FuncData} (x : XOk K nm56 ⟨"ParseError", "ValueError.__new__", tVE⟩) (F : FunD K "__init__" "ParseError.__init__" (defArgs (iniS 23)) (defBody (iniS 23)) (defScope (iniS 23)) [] [] (He.ma K (He.ga K "ParseError") "__init__") fd) (mc : mg "ParseError" = some (.ref (He.ga K "ParseError"))) (md : mg "WindowError" = some (.ref (He.ga K "WindowError"))) (V : CiC K "ValueError.__init__" (He.ga K "WindowError") (.type "type")) :
    MkC (T56 P w Pt) P w K mg base "ParseError" 1 20 0 0 fun C => spI0 C "parseerror" :=
  ⟨"ValueError", "ValueError.__new__", "ValueError.__init__", tVE, _, fd, ["self"], bs_VE, x.ox, x.iC, x.tI, mc, F.bindsN fun _ _ _ _ _ _ us hl => match us, hl with | [_], _ => rfl, initB_ok bs_VE F ⟨rfl, rfl, rfl, by decide +kernel, rfl, by decide +kernel, by decide +kernel⟩ rfl (fun env => ⟨_, rfl⟩) (fun _ => rfl) (fun _ => rfl) rfl rfl md V x.ox (x.no _ (by decide)) rfl⟩
theorem mk_InvalidFile {fd : FuncData} (x : XOk K nm56 ⟨"InvalidFile", "ValueError.__new__", tVE⟩) (F : FunD K "__init__" "InvalidFile.__init__" (defArgs (iniS 24)) (defBody (iniS 24)) (defScope (iniS 24)) [] [] (He.ma K (He.ga K "InvalidFile") "__init__") fd) (mc : mg "InvalidFile" = some (.ref (He.ga K "InvalidFile"))) (md : mg "WindowError" = some (.ref (He.ga K "WindowError"))) (V : CiC K "ValueError.__init__" (He.ga K "WindowError") (.type "type")) :
    MkC (T56 P w Pt) P w K mg base "InvalidFile" 1 21 0 1 fun C => spI1 C "line" "invalidfile" :=
  ⟨"ValueError", "ValueError.__new__", "ValueError.__init__", tVE, _, fd, ["self", "line"], bs_VE, x.ox, x.iC, x.tI, mc, F.bindsN fun _ _ _ _ _ _ us hl => match us, hl with | [_, _], _ => rfl, initA_ok bs_VE F ⟨rfl, rfl, rfl, by decide +kernel, rfl, by decide +kernel, by decide +kernel⟩ rfl (fun env => ⟨_, rfl⟩) (fun _ => rfl) (fun _ => rfl) (fun _ => rfl) rfl rfl rfl md V x.ox (x.no _ (by decide)) (x.no _ (by decide)) rfl rfl rfl⟩
theorem mk_UnknownName {fd : FuncData} (x : XOk K nm56 ⟨"UnknownName", "LookupError.__new__", tLE⟩) (F : FunD K "__init__" "UnknownName.__init__" (defArgs (iniS 25)) (defBody (iniS 25)) (defScope (iniS 25)) [] [] (He.ma K (He.ga K "UnknownName") "__init__") fd) (mc : mg "UnknownName" = some (.ref (He.ga K "UnknownName"))) (md : mg "Absent" = some (.ref (He.ga K "Absent"))) (V : CiC K "LookupError.__init__" (He.ga K "Absent") (.type "type")) :
    MkC (T56 P w Pt) P w K mg base "UnknownName" 1 22 0 1 fun C => spI1 C "name" "unknownname" :=
  ⟨"LookupError", "LookupError.__new__", "LookupError.__init__", tLE, _, fd, ["self", "name"], bs_LE, x.ox, x.iC, x.tI, mc, F.bindsN fun _ _ _ _ _ _ us hl => match us, hl with | [_, _], _ => rfl, initA_ok bs_LE F ⟨rfl, rfl, rfl, by decide +kernel, rfl, by decide +kernel, by decide +kernel⟩ rfl (fun env => ⟨_, rfl⟩) (fun _ => rfl) (fun _ => rfl) (fun _ => rfl) rfl rfl rfl md V x.ox (x.no _ (by decide)) (x.no _ (by decide)) rfl rfl rfl⟩
theorem mk_EmptyHistory {fd : FuncData} (x : XOk K nm56 ⟨"EmptyHistory", "LookupError.__new__", tLE⟩) (F : FunD K "__init__" "EmptyHistory.__init__" (defArgs (iniS 26)) (defBody (iniS 26)) (defScope (iniS 26)) [] [] (He.ma K (He.ga K "EmptyHistory") "__init__") fd) (mc : mg "EmptyHistory" = some (.ref (He.ga K "EmptyHistory"))) (md : mg "Absent" = some (.ref (He.ga K "Absent"))) (V : CiC K "LookupError.__init__" (He.ga K "Absent") (.type "type")) :
    MkC (T56 P w Pt) P w K mg base "EmptyHistory" 1 23 0 0 fun C => spI0 C "emptyhistory" :=
  ⟨"LookupError", "LookupError.__new__", "LookupError.__init__", tLE, _, fd, ["self"], bs_LE, x.ox, x.iC, x.tI, mc, F.bindsN fun _ _ _ _ _ _ us hl => match us, hl with | [_], _ => rfl, initB_ok bs_LE F ⟨rfl, rfl, rfl, by decide +kernel, rfl, by decide +kernel, by decide +kernel⟩ rfl (fun env => ⟨_, rfl⟩) (fun _ => rfl) (fun _ => rfl) rfl rfl md V x.ox (x.no _ (by decide)) rfl⟩
end
end
end WK
set_option Elab.async false
set_option linter.all false
set_option maxRecDepth 100000
set_option maxHeartbeats 0
namespace WK
noncomputable section
open PySem PySem.Spec PyProof.Rows L2 LamX NdefX
/-- the law's promise -/
def spLaw (T : Tb) (K : PySem.W.Frag) : Sp := fun vs H Q _ => ∃ (a : Addr) (ns : List Int), vs = [.ref a] ∧ SqL K H a (ns.map V.int) ∧ (∀ p ∈ T.tabs, H p.1 = some (.tbl #[])) ∧ ∀ H', Q (.bl true) H'
def rho0 (p : Addr) : Rho := ⟨fun l => if l = 0 then some p else none, fun _ => False, fun _ => none⟩
def mh0 : MH := ⟨1, [(0, .bag)]⟩
theorem sim0 {T : Tb} {K : PySem.W.Frag} {H : Hp} {p b : Addr} {ms : List Int} {q : Int} (ht : ∀ t ∈ T.tabs, H t.1 = some (.tbl #[])) (e1 : H p = some (.lst [.ref b, .int 0, .int 0, .int q])) (e2 : H b = some (.lst (ms.map V.int))) (n : b ≠ p) (q0 : 0 ≤ q) (q1 : q < 2147483563) : SimH T K (rho0 p) mh0 H := by
  have at0 : ∀ {l a}, (rho0 p).at_ l = some a → l = 0 ∧ a = p := fun {l a} e => by
    have e : (if l = 0 then some p else none) = some a := e
    by_cases z : l = 0
    · rw [if_pos z] at e; exact ⟨z, (Option.some.inj e).symm⟩
    · rw [if_neg z] at e; cases e
  have mu0 : ∀ {a}, Mu (rho0 p) mh0 a → a = p := fun {a} m => m.elim (fun z => z.elim) fun ⟨l, o, _, r⟩ => (at0 r).2
  have get0 : ∀ {l o}, mh0.get l = some o → l = 0 ∧ o = .bag := fun {l o} e => by
    have e : getL l [(0, .bag)] = some o := e
    rw [getL_cons] at e
    by_cases z : l = 0
    · rw [if_pos z] at e; exact ⟨z, (Option.some.inj e).symm⟩
    · rw [if_neg z] at e; cases e
  refine ⟨(fun l a e => by rw [(at0 e).1]; decide), (fun l v e => by cases e), fun t h => ⟨#[], ht t h, True.intro, fun pos cv hc => ?_⟩, fun l l' o o' a e e' _ _ => (get0 e).1.trans (get0 e').1.symm, fun l o e => ?_, fun a m => m.elim, fun a m z => z.elim⟩
  · have z : codeAmong pos [] = some cv := hc
    simp [codeAmong] at z
  · obtain ⟨rfl, rfl⟩ := get0 e
    exact ⟨p, rfl, b, 0, 0, q, ms, e1, fun m => n (mu0 m), e2, by decide, by decide, q0, q1⟩
section
variable {P : Program} {w : World} {K : PySem.W.Frag} {mg : Str → Option Value} {base : Heap} {T : Tb}
theorem ok_law (c__law_field : Cal T P w K mg base "_law_field" 2 1 (runDef 3 r_field)) (c__law_flags : Cal T P w K mg base "_law_flags" 1 1 (runDef 1 r_flags)) (c__law_like : Cal T P w K mg base "_law_like" 2 2 (runDef 2 r_like)) (c__law_of : Cal T P w K mg base "_law_of" 2 2 (runDef 0 r_of)) (c__law_pool : Cal T P w K mg base "_law_pool" 2 1 runPool) (c__law_pull : Cal T P w K mg base "_law_pull" 1 2 runPull) (hnm : T.nm = nm56) (is_Absent : IsD T K mg "Absent" tb_Absent) (is_WindowError : IsD T K mg "WindowError" tb_WindowError) (isb_IndexError : IsXOk T K (.type "IndexError") tb_IndexError) (isb_KeyError : IsXOk T K (.type "KeyError") tb_KeyError) (isb_LookupError : IsXOk T K (.type "LookupError") tb_LookupError) (isb_ValueError : IsXOk T K (.type "ValueError") tb_ValueError) (m_IndexError : mg "IndexError" = none) (m_KeyError : mg "KeyError" = none) (m_LookupError : mg "LookupError" = none) (m_ValueError : mg "ValueError" = none) (m_any : mg "any" = none) (m_isinstance : mg "isinstance" = none) (m_range : mg "range" = none) (mk_CapacityExceeded : MkC T P w K mg base "CapacityExceeded" 1 16 0 1 fun C => spI1 C "limit" "capacityexceeded") (mk_DuplicateName : MkC T P w K mg base "DuplicateName" 1 15 0 1 fun C => spI1 C "name" "duplicatename") (mk_EmptyHistory : MkC T P w K mg base "EmptyHistory" 1 23 0 0 fun C => spI0 C "emptyhistory") (mk_EndlessOrigins : MkC T P w K mg base "EndlessOrigins" 1 13 0 0 fun C => spI0 C "endlessorigins") (mk_GraphMismatch : MkC T P w K mg base "GraphMismatch" 1 9 0 0 fun C => spI0 C "graphmismatch") (mk_InvalidCapacity : MkC T P w K mg base "InvalidCapacity" 1 17 0 1 fun C => spI1 C "number" "invalidcapacity") (mk_InvalidCode : MkC T P w K mg base "InvalidCode" 1 6 0 1 fun C => spI1 C "place" "invalidcode") (mk_InvalidCommand : MkC T P w K mg base "InvalidCommand" 1 19 0 1 fun C => spI1 C "position" "invalidcommand") (mk_InvalidCount : MkC T P w K mg base "InvalidCount" 1 8 0 1 fun C => spI1 C "count" "invalidcount") (mk_InvalidFile : MkC T P w K mg base "InvalidFile" 1 21 0 1 fun C => spI1 C "line" "invalidfile") (mk_InvalidGraph : MkC T P w K mg base "InvalidGraph" 1 0 0 1 fun C => spI1 C "place" "invalidgraph") (mk_InvalidLength : MkC T P w K mg base "InvalidLength" 1 7 0 1 fun C => spI1 C "length" "invalidlength") (mk_InvalidName : MkC T P w K mg base "InvalidName" 1 14 0 1 fun C => spI1 C "name" "invalidname") (mk_InvalidPath : MkC T P w K mg base "InvalidPath" 1 4 0 1 fun C => spI1 C "place" "invalidpath") (mk_InvalidRow : MkC T P w K mg base "InvalidRow" 1 3 0 1 fun C => spI1 C "place" "invalidrow") (mk_InvalidStep : MkC T P w K mg base "InvalidStep" 1 10 0 0 fun C => spI0 C "invalidstep") (mk_InvalidWidth : MkC T P w K mg base "InvalidWidth" 1 5 0 1 fun C => spI1 C "number" "invalidwidth") (mk_LimitExceeded : MkC T P w K mg base "LimitExceeded" 1 1 0 1 fun C => spI1 C "limit" "limitexceeded") (mk_NameInUse : MkC T P w K mg base "NameInUse" 1 18 0 1 fun C => spI1 C "name" "nameinuse") (mk_NotOneToOne : MkC T P w K mg base "NotOneToOne" 1 11 0 0 fun C => spI0 C "notonetoone") (mk_NotOnto : MkC T P w K mg base "NotOnto" 1 12 0 0 fun C => spI0 C "notonto") (mk_OutOfRange : MkC T P w K mg base "OutOfRange" 1 2 0 1 fun C => spI1 C "number" "outofrange") (mk_ParseError : MkC T P w K mg base "ParseError" 1 20 0 0 fun C => spI0 C "parseerror") (mk_UnknownName : MkC T P w K mg base "UnknownName" 1 22 0 1 fun C => spI1 C "name" "unknownname") (xg_word : XgOk T K cs24 0) {fB : Addr} {fdB : FuncData} (FB : FnOk P w K mg base (L2.CX P w) 1 fB fdB ["_law_script"] (spBag K)) (gB : mg "_law_bag" = some (.ref fB)) (kB : PySem.W.keepIn K (.ref fB) = true) (bB : Binds K fdB ["_law_script"] []) {f : Addr} {fd : FuncData} (F : FnP K "law" 35 f fd) :
    FnOk P w K mg base (L2.CX P w) 4 f fd ["_law_script"] (spLaw T K) := by
  refine F.ok sc_law (fun vs H Q E h => ?_) fun cdv A outer s H vs Q EK hr h => ?_
  · obtain ⟨a, ns, rfl, _⟩ := h; rfl
  · have tk : Takes (cxOf (L2.CX P w) P w K mg base N_law "law" (defScope (top 35)) f cdv A outer s H EK) (wx T K (XF T K EK)) := Takes.imp (takes_of (X := cxOf (L2.CX P w) P w K mg base N_law "law" (defScope (top 35)) f cdv A outer s H EK) (E := EK) rfl rfl rfl rfl) fun c d σ H ⟨ρ, m, h, x, s1, s2, xd, e⟩ => e c d xd
    refine ⟨tSeq (tAsg (tCall (spBag K) [] (fun _ _ _ => False) (tCons (tVar 0) tNil)) (gName 1)) (tS T K (XF T K EK) r_law), ?_, ?_⟩
    · exact pss_cons (ps_asg (pe_call FB (hr.mono (by decide)) rfl gB kB bB .nil (pass_wx tk) (pa_cons (pe_var rfl (vis_by rfl) rfl rfl) pa_nil rfl) rfl rfl rfl) (pg_name sc_law.nd rfl (loc_by rfl) (.inl rfl)) rfl rfl rfl)
        (ss_law c__law_field c__law_flags c__law_like c__law_of c__law_pool c__law_pull hnm is_Absent is_WindowError isb_IndexError isb_KeyError isb_LookupError isb_ValueError m_IndexError m_KeyError m_LookupError m_ValueError m_any m_isinstance m_range mk_CapacityExceeded mk_DuplicateName mk_EmptyHistory mk_EndlessOrigins mk_GraphMismatch mk_InvalidCapacity mk_InvalidCode mk_InvalidCommand mk_InvalidCount mk_InvalidFile mk_InvalidGraph mk_InvalidLength mk_InvalidName mk_InvalidPath mk_InvalidRow mk_InvalidStep mk_InvalidWidth mk_LimitExceeded mk_NameInUse mk_NotOneToOne mk_NotOnto mk_OutOfRange mk_ParseError mk_UnknownName xg_word hr tk)
    · obtain ⟨a, ns, rfl, hs, ht, hQ⟩ := h
      refine ⟨.ref a, rfl, a, ns, rfl, hs, fun p b ms q H' x e1 e2 _ n _ q0 q1 => ?_⟩
      refine ⟨rho0 p, [none, some (.ref 0), none, none, none, none, none, none, none, none, none, none, none, none], mh0, sim0 (fun t h => x _ _ (ht t h)) e1 e2 n q0 q1, ⟨rfl, fun i y e => ?_⟩, Tr.wp_mono (Tr.chk_ok law_run) fun r hr => ?_⟩
      · rcases i with _ | _ | i
        · cases e
        · have e : MV.ref 0 = y := Option.some.inj (Option.some.inj e)
          subst e
          exact ⟨.ref p, rfl, .ref rfl⟩
        · have z : ∀ i : Nat, ([none, none, none, none, none, none, none, none, none, none, none, none] : MS)[i]? ≠ some (some y) := fun i => slots_at 12 i y
          exact absurd e (z i)
      · unfold isTrS at hr
        split at hr
        · intro ρ' H2 v l s' d
          cases d
          exact hQ H2
        · cases hr
end
end
end WK
set_option Elab.async false
set_option linter.all false
set_option maxRecDepth 100000
set_option maxHeartbeats 0
namespace WK
noncomputable section
open PySem PySem.Spec PyProof.Rows L2 LamX NdefX
abbrev P56 : Program := (PySem.Challenge.rw_windowkin_k56_classes_of_errors).prog
theorem law_at (w : World) (mg : Str → Option Value) (fa : Addr) (h : Heap) (Y : Says56 h) (G : h.Ns mainGlobals mg) (hmg : mg "law" = some (.ref fa)) : ∃ K : PySem.W.Frag, K.In h ∧ LawAtS PySem.Challenge.rw_windowkin_k56_classes_of_errors w K (L2.CX P56 w) 4 63 "_law_script" mg fa h := by
  obtain ⟨K, c, Pt, KX, cs, ok, t1, t2, t3, t4⟩ := Y.ex
  obtain ⟨o1, ok⟩ := He.ba ok
  obtain ⟨o2, ok⟩ := He.ba ok
  obtain ⟨o3, ok⟩ := He.ba ok
  obtain ⟨o4, o5⟩ := He.ba ok
  have xs : ∀ d ∈ xds, XOk K nm56 d := fun d hd => xok_ok (List.all_eq_true.mp o1 d hd)
  have vW := baB_ok o4 (by decide +kernel)
  have vA := baB_ok o5 (by decide +kernel)
  have g_InvalidGraph := He.glo_ok KX G (cs.fact 0 (f := .glo "InvalidGraph") rfl)
  have g_LimitExceeded := He.glo_ok KX G (cs.fact 1 (f := .glo "LimitExceeded") rfl)
  have g_OutOfRange := He.glo_ok KX G (cs.fact 2 (f := .glo "OutOfRange") rfl)
  have g_InvalidRow := He.glo_ok KX G (cs.fact 3 (f := .glo "InvalidRow") rfl)
  have g_InvalidPath := He.glo_ok KX G (cs.fact 4 (f := .glo "InvalidPath") rfl)
  have g_InvalidWidth := He.glo_ok KX G (cs.fact 5 (f := .glo "InvalidWidth") rfl)
  have g_InvalidCode := He.glo_ok KX G (cs.fact 6 (f := .glo "InvalidCode") rfl)
  have g_InvalidLength := He.glo_ok KX G (cs.fact 7 (f := .glo "InvalidLength") rfl)
  have g_InvalidCount := He.glo_ok KX G (cs.fact 8 (f := .glo "InvalidCount") rfl)
  have g_GraphMismatch := He.glo_ok KX G (cs.fact 9 (f := .glo "GraphMismatch") rfl)
  have g_InvalidStep := He.glo_ok KX G (cs.fact 10 (f := .glo "InvalidStep") rfl)
  have g_NotOneToOne := He.glo_ok KX G (cs.fact 11 (f := .glo "NotOneToOne") rfl)
  have g_NotOnto := He.glo_ok KX G (cs.fact 12 (f := .glo "NotOnto") rfl)
  have g_EndlessOrigins := He.glo_ok KX G (cs.fact 13 (f := .glo "EndlessOrigins") rfl)
  have g_InvalidName := He.glo_ok KX G (cs.fact 14 (f := .glo "InvalidName") rfl)
  have g_DuplicateName := He.glo_ok KX G (cs.fact 15 (f := .glo "DuplicateName") rfl)
  have g_CapacityExceeded := He.glo_ok KX G (cs.fact 16 (f := .glo "CapacityExceeded") rfl)
  have g_InvalidCapacity := He.glo_ok KX G (cs.fact 17 (f := .glo "InvalidCapacity") rfl)
  have g_NameInUse := He.glo_ok KX G (cs.fact 18 (f := .glo "NameInUse") rfl)
  have g_InvalidCommand := He.glo_ok KX G (cs.fact 19 (f := .glo "InvalidCommand") rfl)
  have g_ParseError := He.glo_ok KX G (cs.fact 20 (f := .glo "ParseError") rfl)
  have g_InvalidFile := He.glo_ok KX G (cs.fact 21 (f := .glo "InvalidFile") rfl)
  have g_UnknownName := He.glo_ok KX G (cs.fact 22 (f := .glo "UnknownName") rfl)
  have g_EmptyHistory := He.glo_ok KX G (cs.fact 23 (f := .glo "EmptyHistory") rfl)
  have g_WindowError := He.glo_ok KX G (cs.fact 24 (f := .glo "WindowError") rfl)
  have g_Absent := He.glo_ok KX G (cs.fact 25 (f := .glo "Absent") rfl)
  have g__law_bag := He.glo_ok KX G (cs.fact 26 (f := .glo "_law_bag") rfl)
  have g__law_pull := He.glo_ok KX G (cs.fact 27 (f := .glo "_law_pull") rfl)
  have g__law_of := He.glo_ok KX G (cs.fact 28 (f := .glo "_law_of") rfl)
  have g__law_like := He.glo_ok KX G (cs.fact 29 (f := .glo "_law_like") rfl)
  have g__law_field := He.glo_ok KX G (cs.fact 30 (f := .glo "_law_field") rfl)
  have g__law_pool := He.glo_ok KX G (cs.fact 31 (f := .glo "_law_pool") rfl)
  have g__law_flags := He.glo_ok KX G (cs.fact 32 (f := .glo "_law_flags") rfl)
  have g_law := He.glo_ok KX G (cs.fact 33 (f := .glo "law") rfl)
  have m_len := He.free_ok KX G (cs.fact 34 (f := .free "len") rfl)
  have m_list := He.free_ok KX G (cs.fact 35 (f := .free "list") rfl)
  have m_range := He.free_ok KX G (cs.fact 36 (f := .free "range") rfl)
  have m_zip := He.free_ok KX G (cs.fact 37 (f := .free "zip") rfl)
  have m_all := He.free_ok KX G (cs.fact 38 (f := .free "all") rfl)
  have m_any := He.free_ok KX G (cs.fact 39 (f := .free "any") rfl)
  have m_isinstance := He.free_ok KX G (cs.fact 40 (f := .free "isinstance") rfl)
  have m_tuple := He.free_ok KX G (cs.fact 41 (f := .free "tuple") rfl)
  have m_bool := He.free_ok KX G (cs.fact 42 (f := .free "bool") rfl)
  have m_int := He.free_ok KX G (cs.fact 43 (f := .free "int") rfl)
  have m_str := He.free_ok KX G (cs.fact 44 (f := .free "str") rfl)
  have m_ValueError := He.free_ok KX G (cs.fact 45 (f := .free "ValueError") rfl)
  have m_LookupError := He.free_ok KX G (cs.fact 46 (f := .free "LookupError") rfl)
  have m_KeyError := He.free_ok KX G (cs.fact 47 (f := .free "KeyError") rfl)
  have m_IndexError := He.free_ok KX G (cs.fact 48 (f := .free "IndexError") rfl)
  obtain ⟨fd__law_bag, F__law_bag⟩ := cs.def_ 0 rfl
  replace F__law_bag : FnP K "_law_bag" 28 (He.ga K "_law_bag") fd__law_bag := F__law_bag
  obtain ⟨fd__law_pull, F__law_pull⟩ := cs.def_ 1 rfl
  replace F__law_pull : FnP K "_law_pull" 29 (He.ga K "_law_pull") fd__law_pull := F__law_pull
  obtain ⟨fd__law_of, F__law_of⟩ := cs.def_ 2 rfl
  replace F__law_of : FnP K "_law_of" 30 (He.ga K "_law_of") fd__law_of := F__law_of
  obtain ⟨fd__law_like, F__law_like⟩ := cs.def_ 3 rfl
  replace F__law_like : FnP K "_law_like" 31 (He.ga K "_law_like") fd__law_like := F__law_like
  obtain ⟨fd__law_field, F__law_field⟩ := cs.def_ 4 rfl
  replace F__law_field : FnP K "_law_field" 32 (He.ga K "_law_field") fd__law_field := F__law_field
  obtain ⟨fd__law_pool, F__law_pool⟩ := cs.def_ 5 rfl
  replace F__law_pool : FnP K "_law_pool" 33 (He.ga K "_law_pool") fd__law_pool := F__law_pool
  obtain ⟨fd__law_flags, F__law_flags⟩ := cs.def_ 6 rfl
  replace F__law_flags : FnP K "_law_flags" 34 (He.ga K "_law_flags") fd__law_flags := F__law_flags
  obtain ⟨fd_law, F_law⟩ := cs.def_ 7 rfl
  replace F_law : FnP K "law" 35 (He.ga K "law") fd_law := F_law
  obtain ⟨fd_InvalidGraph, F_InvalidGraph⟩ := cs.def_ 8 rfl
  obtain ⟨fd_LimitExceeded, F_LimitExceeded⟩ := cs.def_ 9 rfl
  obtain ⟨fd_OutOfRange, F_OutOfRange⟩ := cs.def_ 10 rfl
  obtain ⟨fd_InvalidRow, F_InvalidRow⟩ := cs.def_ 11 rfl
  obtain ⟨fd_InvalidPath, F_InvalidPath⟩ := cs.def_ 12 rfl
  obtain ⟨fd_InvalidWidth, F_InvalidWidth⟩ := cs.def_ 13 rfl
  obtain ⟨fd_InvalidCode, F_InvalidCode⟩ := cs.def_ 14 rfl
  obtain ⟨fd_InvalidLength, F_InvalidLength⟩ := cs.def_ 15 rfl
  obtain ⟨fd_InvalidCount, F_InvalidCount⟩ := cs.def_ 16 rfl
  obtain ⟨fd_GraphMismatch, F_GraphMismatch⟩ := cs.def_ 17 rfl
  obtain ⟨fd_InvalidStep, F_InvalidStep⟩ := cs.def_ 18 rfl
  obtain ⟨fd_NotOneToOne, F_NotOneToOne⟩ := cs.def_ 19 rfl
  obtain ⟨fd_NotOnto, F_NotOnto⟩ := cs.def_ 20 rfl
  obtain ⟨fd_EndlessOrigins, F_EndlessOrigins⟩ := cs.def_ 21 rfl
  obtain ⟨fd_InvalidName, F_InvalidName⟩ := cs.def_ 22 rfl
  obtain ⟨fd_DuplicateName, F_DuplicateName⟩ := cs.def_ 23 rfl
  obtain ⟨fd_CapacityExceeded, F_CapacityExceeded⟩ := cs.def_ 24 rfl
  obtain ⟨fd_InvalidCapacity, F_InvalidCapacity⟩ := cs.def_ 25 rfl
  obtain ⟨fd_NameInUse, F_NameInUse⟩ := cs.def_ 26 rfl
  obtain ⟨fd_InvalidCommand, F_InvalidCommand⟩ := cs.def_ 27 rfl
  obtain ⟨fd_ParseError, F_ParseError⟩ := cs.def_ 28 rfl
  obtain ⟨fd_InvalidFile, F_InvalidFile⟩ := cs.def_ 29 rfl
  obtain ⟨fd_UnknownName, F_UnknownName⟩ := cs.def_ 30 rfl
  obtain ⟨fd_EmptyHistory, F_EmptyHistory⟩ := cs.def_ 31 rfl
  have b__law_bag : Binds K fd__law_bag ["_law_script"] [] := F__law_bag.bindsN fun _ _ _ _ _ _ us hl => match us, hl with | [_], _ => rfl
  have b__law_pull : Binds K fd__law_pull ["_law_bag_here", "_law_many"] [] := F__law_pull.bindsN fun _ _ _ _ _ _ us hl => match us, hl with | [_, _], _ => rfl
  have b__law_of : Binds K fd__law_of ["_law_bag_here", "_law_things"] [] := F__law_of.bindsN fun _ _ _ _ _ _ us hl => match us, hl with | [_, _], _ => rfl
  have b__law_like : Binds K fd__law_like ["_law_found", "_law_due"] [] := F__law_like.bindsN fun _ _ _ _ _ _ us hl => match us, hl with | [_, _], _ => rfl
  have b__law_field : Binds K fd__law_field ["_law_e"] [] := F__law_field.bindsN fun _ _ _ _ _ _ us hl => match us, hl with | [_], _ => rfl
  have b__law_pool : Binds K fd__law_pool ["_law_bag_here"] [] := F__law_pool.bindsN fun _ _ _ _ _ _ us hl => match us, hl with | [_], _ => rfl
  have b__law_flags : Binds K fd__law_flags ["_law_e"] [] := F__law_flags.bindsN fun _ _ _ _ _ _ us hl => match us, hl with | [_], _ => rfl
  have e := hmg.symm.trans g_law
  cases e
  refine ⟨K, KX, fd_law, [(c, Pt)], spLaw (T56 P56 w Pt) K, ?_, ?_, ?_, fun s u => ?_, fun H a ns hl _ hH hS => ⟨a, ns, rfl, hS, fun p hp => ?_, fun _ => rfl⟩, fun base KB GB TB => ?_⟩
  · intro p hp; rw [List.mem_singleton.mp hp]; exact t1
  · intro p hp; rw [List.mem_singleton.mp hp]; exact t3
  · intro p hp; rw [List.mem_singleton.mp hp]; exact t2
  · exact F_law.bindsA (ps := ["_law_script"]) (fun _ _ _ _ _ _ us hl => match us, hl with | [_], _ => rfl) s [u] rfl
  · obtain rfl : p = (Pt, nmT) := List.mem_singleton.mp hp
    exact hH (c, Pt) (List.mem_cons_self ..)
  have hnm : (T56 P56 w Pt).nm = nm56 := rfl
  have xg_word : XgOk (T56 P56 w Pt) K cs24 0 := xg_of xs (by decide)
  have xg_place : XgOk (T56 P56 w Pt) K cs24 1 := xg_of xs (by decide)
  have xg_limit : XgOk (T56 P56 w Pt) K cs24 2 := xg_of xs (by decide)
  have xg_number : XgOk (T56 P56 w Pt) K cs24 3 := xg_of xs (by decide)
  have xg_length : XgOk (T56 P56 w Pt) K cs24 4 := xg_of xs (by decide)
  have xg_count : XgOk (T56 P56 w Pt) K cs24 5 := xg_of xs (by decide)
  have xg_name : XgOk (T56 P56 w Pt) K cs24 6 := xg_of xs (by decide)
  have xg_position : XgOk (T56 P56 w Pt) K cs24 7 := xg_of xs (by decide)
  have xg_line : XgOk (T56 P56 w Pt) K cs24 8 := xg_of xs (by decide)
  have is_InvalidGraph : IsD (T56 P56 w Pt) K mg "InvalidGraph" tb_InvalidGraph := ⟨_, g_InvalidGraph, isx_of xs (by decide) (List.all_eq_true.mp o2 ("InvalidGraph", tb_InvalidGraph) (List.mem_of_getElem? (i := 0) rfl))⟩
  have is_LimitExceeded : IsD (T56 P56 w Pt) K mg "LimitExceeded" tb_LimitExceeded := ⟨_, g_LimitExceeded, isx_of xs (by decide) (List.all_eq_true.mp o2 ("LimitExceeded", tb_LimitExceeded) (List.mem_of_getElem? (i := 1) rfl))⟩
  have is_OutOfRange : IsD (T56 P56 w Pt) K mg "OutOfRange" tb_OutOfRange := ⟨_, g_OutOfRange, isx_of xs (by decide) (List.all_eq_true.mp o2 ("OutOfRange", tb_OutOfRange) (List.mem_of_getElem? (i := 2) rfl))⟩
  have is_InvalidRow : IsD (T56 P56 w Pt) K mg "InvalidRow" tb_InvalidRow := ⟨_, g_InvalidRow, isx_of xs (by decide) (List.all_eq_true.mp o2 ("InvalidRow", tb_InvalidRow) (List.mem_of_getElem? (i := 3) rfl))⟩
  have is_InvalidPath : IsD (T56 P56 w Pt) K mg "InvalidPath" tb_InvalidPath := ⟨_, g_InvalidPath, isx_of xs (by decide) (List.all_eq_true.mp o2 ("InvalidPath", tb_InvalidPath) (List.mem_of_getElem? (i := 4) rfl))⟩
  have is_InvalidWidth : IsD (T56 P56 w Pt) K mg "InvalidWidth" tb_InvalidWidth := ⟨_, g_InvalidWidth, isx_of xs (by decide) (List.all_eq_true.mp o2 ("InvalidWidth", tb_InvalidWidth) (List.mem_of_getElem? (i := 5) rfl))⟩
  have is_InvalidCode : IsD (T56 P56 w Pt) K mg "InvalidCode" tb_InvalidCode := ⟨_, g_InvalidCode, isx_of xs (by decide) (List.all_eq_true.mp o2 ("InvalidCode", tb_InvalidCode) (List.mem_of_getElem? (i := 6) rfl))⟩
  have is_InvalidLength : IsD (T56 P56 w Pt) K mg "InvalidLength" tb_InvalidLength := ⟨_, g_InvalidLength, isx_of xs (by decide) (List.all_eq_true.mp o2 ("InvalidLength", tb_InvalidLength) (List.mem_of_getElem? (i := 7) rfl))⟩
  have is_InvalidCount : IsD (T56 P56 w Pt) K mg "InvalidCount" tb_InvalidCount := ⟨_, g_InvalidCount, isx_of xs (by decide) (List.all_eq_true.mp o2 ("InvalidCount", tb_InvalidCount) (List.mem_of_getElem? (i := 8) rfl))⟩
  have is_GraphMismatch : IsD (T56 P56 w Pt) K mg "GraphMismatch" tb_GraphMismatch := ⟨_, g_GraphMismatch, isx_of xs (by decide) (List.all_eq_true.mp o2 ("GraphMismatch", tb_GraphMismatch) (List.mem_of_getElem? (i := 9) rfl))⟩
  have is_InvalidStep : IsD (T56 P56 w Pt) K mg "InvalidStep" tb_InvalidStep := ⟨_, g_InvalidStep, isx_of xs (by decide) (List.all_eq_true.mp o2 ("InvalidStep", tb_InvalidStep) (List.mem_of_getElem? (i := 10) rfl))⟩
  have is_NotOneToOne : IsD (T56 P56 w Pt) K mg "NotOneToOne" tb_NotOneToOne := ⟨_, g_NotOneToOne, isx_of xs (by decide) (List.all_eq_true.mp o2 ("NotOneToOne", tb_NotOneToOne) (List.mem_of_getElem? (i := 11) rfl))⟩
  have is_NotOnto : IsD (T56 P56 w Pt) K mg "NotOnto" tb_NotOnto := ⟨_, g_NotOnto, isx_of xs (by decide) (List.all_eq_true.mp o2 ("NotOnto", tb_NotOnto) (List.mem_of_getElem? (i := 12) rfl))⟩
  have is_EndlessOrigins : IsD (T56 P56 w Pt) K mg "EndlessOrigins" tb_EndlessOrigins := ⟨_, g_EndlessOrigins, isx_of xs (by decide) (List.all_eq_true.mp o2 ("EndlessOrigins", tb_EndlessOrigins) (List.mem_of_getElem? (i := 13) rfl))⟩
  have is_InvalidName : IsD (T56 P56 w Pt) K mg "InvalidName" tb_InvalidName := ⟨_, g_InvalidName, isx_of xs (by decide) (List.all_eq_true.mp o2 ("InvalidName", tb_InvalidName) (List.mem_of_getElem? (i := 14) rfl))⟩
  have is_DuplicateName : IsD (T56 P56 w Pt) K mg "DuplicateName" tb_DuplicateName := ⟨_, g_DuplicateName, isx_of xs (by decide) (List.all_eq_true.mp o2 ("DuplicateName", tb_DuplicateName) (List.mem_of_getElem? (i := 15) rfl))⟩
  have is_CapacityExceeded : IsD (T56 P56 w Pt) K mg "CapacityExceeded" tb_CapacityExceeded := ⟨_, g_CapacityExceeded, isx_of xs (by decide) (List.all_eq_true.mp o2 ("CapacityExceeded", tb_CapacityExceeded) (List.mem_of_getElem? (i := 16) rfl))⟩
  have is_InvalidCapacity : IsD (T56 P56 w Pt) K mg "InvalidCapacity" tb_InvalidCapacity := ⟨_, g_InvalidCapacity, isx_of xs (by decide) (List.all_eq_true.mp o2 ("InvalidCapacity", tb_InvalidCapacity) (List.mem_of_getElem? (i := 17) rfl))⟩
  have is_NameInUse : IsD (T56 P56 w Pt) K mg "NameInUse" tb_NameInUse := ⟨_, g_NameInUse, isx_of xs (by decide) (List.all_eq_true.mp o2 ("NameInUse", tb_NameInUse) (List.mem_of_getElem? (i := 18) rfl))⟩
  have is_InvalidCommand : IsD (T56 P56 w Pt) K mg "InvalidCommand" tb_InvalidCommand := ⟨_, g_InvalidCommand, isx_of xs (by decide) (List.all_eq_true.mp o2 ("InvalidCommand", tb_InvalidCommand) (List.mem_of_getElem? (i := 19) rfl))⟩
  have is_ParseError : IsD (T56 P56 w Pt) K mg "ParseError" tb_ParseError := ⟨_, g_ParseError, isx_of xs (by decide) (List.all_eq_true.mp o2 ("ParseError", tb_ParseError) (List.mem_of_getElem? (i := 20) rfl))⟩
  have is_InvalidFile : IsD (T56 P56 w Pt) K mg "InvalidFile" tb_InvalidFile := ⟨_, g_InvalidFile, isx_of xs (by decide) (List.all_eq_true.mp o2 ("InvalidFile", tb_InvalidFile) (List.mem_of_getElem? (i := 21) rfl))⟩
  have is_UnknownName : IsD (T56 P56 w Pt) K mg "UnknownName" tb_UnknownName := ⟨_, g_UnknownName, isx_of xs (by decide) (List.all_eq_true.mp o2 ("UnknownName", tb_UnknownName) (List.mem_of_getElem? (i := 22) rfl))⟩
  have is_EmptyHistory : IsD (T56 P56 w Pt) K mg "EmptyHistory" tb_EmptyHistory := ⟨_, g_EmptyHistory, isx_of xs (by decide) (List.all_eq_true.mp o2 ("EmptyHistory", tb_EmptyHistory) (List.mem_of_getElem? (i := 23) rfl))⟩
  have is_WindowError : IsD (T56 P56 w Pt) K mg "WindowError" tb_WindowError := ⟨_, g_WindowError, isx_of xs (by decide) (List.all_eq_true.mp o2 ("WindowError", tb_WindowError) (List.mem_of_getElem? (i := 24) rfl))⟩
  have is_Absent : IsD (T56 P56 w Pt) K mg "Absent" tb_Absent := ⟨_, g_Absent, isx_of xs (by decide) (List.all_eq_true.mp o2 ("Absent", tb_Absent) (List.mem_of_getElem? (i := 25) rfl))⟩
  have isb_ValueError : IsXOk (T56 P56 w Pt) K (.type "ValueError") tb_ValueError := isx_of xs (by decide) (List.all_eq_true.mp o3 ("ValueError", tb_ValueError) (List.mem_of_getElem? (i := 0) rfl))
  have isb_LookupError : IsXOk (T56 P56 w Pt) K (.type "LookupError") tb_LookupError := isx_of xs (by decide) (List.all_eq_true.mp o3 ("LookupError", tb_LookupError) (List.mem_of_getElem? (i := 1) rfl))
  have isb_KeyError : IsXOk (T56 P56 w Pt) K (.type "KeyError") tb_KeyError := isx_of xs (by decide) (List.all_eq_true.mp o3 ("KeyError", tb_KeyError) (List.mem_of_getElem? (i := 2) rfl))
  have isb_IndexError : IsXOk (T56 P56 w Pt) K (.type "IndexError") tb_IndexError := isx_of xs (by decide) (List.all_eq_true.mp o3 ("IndexError", tb_IndexError) (List.mem_of_getElem? (i := 3) rfl))
  have mk_InvalidGraph : MkC (T56 P56 w Pt) P56 w K mg base "InvalidGraph" 1 0 0 1 fun C => spI1 C "place" "invalidgraph" := mk_InvalidGraph (xs _ (List.mem_of_getElem? (i := 0) rfl)) F_InvalidGraph g_InvalidGraph g_WindowError vW
  have mk_LimitExceeded : MkC (T56 P56 w Pt) P56 w K mg base "LimitExceeded" 1 1 0 1 fun C => spI1 C "limit" "limitexceeded" := mk_LimitExceeded (xs _ (List.mem_of_getElem? (i := 1) rfl)) F_LimitExceeded g_LimitExceeded g_WindowError vW
  have mk_OutOfRange : MkC (T56 P56 w Pt) P56 w K mg base "OutOfRange" 1 2 0 1 fun C => spI1 C "number" "outofrange" := mk_OutOfRange (xs _ (List.mem_of_getElem? (i := 2) rfl)) F_OutOfRange g_OutOfRange g_WindowError vW
  have mk_InvalidRow : MkC (T56 P56 w Pt) P56 w K mg base "InvalidRow" 1 3 0 1 fun C => spI1 C "place" "invalidrow" := mk_InvalidRow (xs _ (List.mem_of_getElem? (i := 3) rfl)) F_InvalidRow g_InvalidRow g_WindowError vW
  have mk_InvalidPath : MkC (T56 P56 w Pt) P56 w K mg base "InvalidPath" 1 4 0 1 fun C => spI1 C "place" "invalidpath" := mk_InvalidPath (xs _ (List.mem_of_getElem? (i := 4) rfl)) F_InvalidPath g_InvalidPath g_WindowError vW
  have mk_InvalidWidth : MkC (T56 P56 w Pt) P56 w K mg base "InvalidWidth" 1 5 0 1 fun C => spI1 C "number" "invalidwidth" := mk_InvalidWidth (xs _ (List.mem_of_getElem? (i := 5) rfl)) F_InvalidWidth g_InvalidWidth g_WindowError vW
  have mk_InvalidCode : MkC (T56 P56 w Pt) P56 w K mg base "InvalidCode" 1 6 0 1 fun C => spI1 C "place" "invalidcode" := mk_InvalidCode (xs _ (List.mem_of_getElem? (i := 6) rfl)) F_InvalidCode g_InvalidCode g_WindowError vW
  have mk_InvalidLength : MkC (T56 P56 w Pt) P56 w K mg base "InvalidLength" 1 7 0 1 fun C => spI1 C "length" "invalidlength" := mk_InvalidLength (xs _ (List.mem_of_getElem? (i := 7) rfl)) F_InvalidLength g_InvalidLength g_WindowError vW
  have mk_InvalidCount : MkC (T56 P56 w Pt) P56 w K mg base "InvalidCount" 1 8 0 1 fun C => spI1 C "count" "invalidcount" := mk_InvalidCount (xs _ (List.mem_of_getElem? (i := 8) rfl)) F_InvalidCount g_InvalidCount g_WindowError vW
  have mk_GraphMismatch : MkC (T56 P56 w Pt) P56 w K mg base "GraphMismatch" 1 9 0 0 fun C => spI0 C "graphmismatch" := mk_GraphMismatch (xs _ (List.mem_of_getElem? (i := 9) rfl)) F_GraphMismatch g_GraphMismatch g_WindowError vW
  have mk_InvalidStep : MkC (T56 P56 w Pt) P56 w K mg base "InvalidStep" 1 10 0 0 fun C => spI0 C "invalidstep" := mk_InvalidStep (xs _ (List.mem_of_getElem? (i := 10) rfl)) F_InvalidStep g_InvalidStep g_WindowError vW
  have mk_NotOneToOne : MkC (T56 P56 w Pt) P56 w K mg base "NotOneToOne" 1 11 0 0 fun C => spI0 C "notonetoone" := mk_NotOneToOne (xs _ (List.mem_of_getElem? (i := 11) rfl)) F_NotOneToOne g_NotOneToOne g_WindowError vW
  have mk_NotOnto : MkC (T56 P56 w Pt) P56 w K mg base "NotOnto" 1 12 0 0 fun C => spI0 C "notonto" := mk_NotOnto (xs _ (List.mem_of_getElem? (i := 12) rfl)) F_NotOnto g_NotOnto g_WindowError vW
  have mk_EndlessOrigins : MkC (T56 P56 w Pt) P56 w K mg base "EndlessOrigins" 1 13 0 0 fun C => spI0 C "endlessorigins" := mk_EndlessOrigins (xs _ (List.mem_of_getElem? (i := 13) rfl)) F_EndlessOrigins g_EndlessOrigins g_WindowError vW
  have mk_InvalidName : MkC (T56 P56 w Pt) P56 w K mg base "InvalidName" 1 14 0 1 fun C => spI1 C "name" "invalidname" := mk_InvalidName (xs _ (List.mem_of_getElem? (i := 14) rfl)) F_InvalidName g_InvalidName g_WindowError vW
  have mk_DuplicateName : MkC (T56 P56 w Pt) P56 w K mg base "DuplicateName" 1 15 0 1 fun C => spI1 C "name" "duplicatename" := mk_DuplicateName (xs _ (List.mem_of_getElem? (i := 15) rfl)) F_DuplicateName g_DuplicateName g_WindowError vW
  have mk_CapacityExceeded : MkC (T56 P56 w Pt) P56 w K mg base "CapacityExceeded" 1 16 0 1 fun C => spI1 C "limit" "capacityexceeded" := mk_CapacityExceeded (xs _ (List.mem_of_getElem? (i := 16) rfl)) F_CapacityExceeded g_CapacityExceeded g_WindowError vW
  have mk_InvalidCapacity : MkC (T56 P56 w Pt) P56 w K mg base "InvalidCapacity" 1 17 0 1 fun C => spI1 C "number" "invalidcapacity" := mk_InvalidCapacity (xs _ (List.mem_of_getElem? (i := 17) rfl)) F_InvalidCapacity g_InvalidCapacity g_WindowError vW
  have mk_NameInUse : MkC (T56 P56 w Pt) P56 w K mg base "NameInUse" 1 18 0 1 fun C => spI1 C "name" "nameinuse" := mk_NameInUse (xs _ (List.mem_of_getElem? (i := 18) rfl)) F_NameInUse g_NameInUse g_WindowError vW
  have mk_InvalidCommand : MkC (T56 P56 w Pt) P56 w K mg base "InvalidCommand" 1 19 0 1 fun C => spI1 C "position" "invalidcommand" := mk_InvalidCommand (xs _ (List.mem_of_getElem? (i := 19) rfl)) F_InvalidCommand g_InvalidCommand g_WindowError vW
  have mk_ParseError : MkC (T56 P56 w Pt) P56 w K mg base "ParseError" 1 20 0 0 fun C => spI0 C "parseerror" := mk_ParseError (xs _ (List.mem_of_getElem? (i := 20) rfl)) F_ParseError g_ParseError g_WindowError vW
  have mk_InvalidFile : MkC (T56 P56 w Pt) P56 w K mg base "InvalidFile" 1 21 0 1 fun C => spI1 C "line" "invalidfile" := mk_InvalidFile (xs _ (List.mem_of_getElem? (i := 21) rfl)) F_InvalidFile g_InvalidFile g_WindowError vW
  have mk_UnknownName : MkC (T56 P56 w Pt) P56 w K mg base "UnknownName" 1 22 0 1 fun C => spI1 C "name" "unknownname" := mk_UnknownName (xs _ (List.mem_of_getElem? (i := 22) rfl)) F_UnknownName g_UnknownName g_Absent vA
  have mk_EmptyHistory : MkC (T56 P56 w Pt) P56 w K mg base "EmptyHistory" 1 23 0 0 fun C => spI0 C "emptyhistory" := mk_EmptyHistory (xs _ (List.mem_of_getElem? (i := 23) rfl)) F_EmptyHistory g_EmptyHistory g_Absent vA
  have c__law_pull : Cal (T56 P56 w Pt) P56 w K mg base "_law_pull" 1 2 runPull := ⟨_, fd__law_pull, _, g__law_pull, F__law_pull.kp, b__law_pull, rfl, WK.pull_ok (fn_run F__law_pull scPl rfl fun cdv A outer s H EK E hr tk => bPl m_len rfl rfl (u200 hr))⟩
  have c__law_of : Cal (T56 P56 w Pt) P56 w K mg base "_law_of" 2 2 (runDef 0 r_of) := ⟨_, fd__law_of, _, g__law_of, F__law_of.kp, b__law_of, rfl, by apply ok_of <;> assumption⟩
  have c0 : Cal (T56 P56 w Pt) P56 w K mg base "_law_like" 1 2 (runDef 2 r_like0) := ⟨_, fd__law_like, _, g__law_like, F__law_like.kp, b__law_like, rfl, by apply ok_like0 <;> assumption⟩
  have c__law_like : Cal (T56 P56 w Pt) P56 w K mg base "_law_like" 2 2 (runDef 2 r_like) := ⟨_, fd__law_like, _, g__law_like, F__law_like.kp, b__law_like, rfl, by apply ok_like <;> assumption⟩
  have hT : TailF (T56 P56 w Pt) K mg base c Pt := ⟨hnm, xg_word, xg_length, xg_count, xg_position, xg_line, TB (c, Pt) (List.mem_cons_self ..), List.mem_cons_self .., fun p hp _ => by rw [List.mem_singleton.mp hp]⟩
  have hc : fd__law_field.code = .ref c := by
    obtain ⟨oc, od, dV, kV, doc, pm, an, cdv, ct, osl, e, lk, _⟩ := F__law_field.ex
    exact t4 _ lk _ rfl
  have c__law_field : Cal (T56 P56 w Pt) P56 w K mg base "_law_field" 2 1 (runDef 3 r_field) := ⟨_, fd__law_field, _, g__law_field, F__law_field.kp, b__law_field, rfl, ok_field hnm xg_limit xg_name xg_number xg_place xg_word F__law_field hc hT⟩
  have c__law_pool : Cal (T56 P56 w Pt) P56 w K mg base "_law_pool" 2 1 runPool := ⟨_, fd__law_pool, _, g__law_pool, F__law_pool.kp, b__law_pool, rfl, WK.pool_ok (by apply ok_pool <;> assumption)⟩
  have c__law_flags : Cal (T56 P56 w Pt) P56 w K mg base "_law_flags" 1 1 (runDef 1 r_flags) := ⟨_, fd__law_flags, _, g__law_flags, F__law_flags.kp, b__law_flags, rfl, by apply ok_flags <;> assumption⟩
  exact ok_law c__law_field c__law_flags c__law_like c__law_of c__law_pool c__law_pull hnm is_Absent is_WindowError isb_IndexError isb_KeyError isb_LookupError isb_ValueError m_IndexError m_KeyError m_LookupError m_ValueError m_any m_isinstance m_range mk_CapacityExceeded mk_DuplicateName mk_EmptyHistory mk_EndlessOrigins mk_GraphMismatch mk_InvalidCapacity mk_InvalidCode mk_InvalidCommand mk_InvalidCount mk_InvalidFile mk_InvalidGraph mk_InvalidLength mk_InvalidName mk_InvalidPath mk_InvalidRow mk_InvalidStep mk_InvalidWidth mk_LimitExceeded mk_NameInUse mk_NotOneToOne mk_NotOnto mk_OutOfRange mk_ParseError mk_UnknownName xg_word (bag_ok F__law_bag m_list) g__law_bag F__law_bag.kp b__law_bag F_law
end
end WK
open PySem PySem.W PySem.Calls PyProof.Rows
theorem PySem.Challenge.cw_windowkin_k56_classes_of_errors_holds : PySem.Challenge.rw_windowkin_k56_classes_of_errors.Holds := by
  w_on; o_law
  refine HandSHeadRun.head_any (r := OpenLaw.row PySem.Challenge.rw_windowkin_k56_classes_of_errors) (q := view (OpenLaw.row PySem.Challenge.rw_windowkin_k56_classes_of_errors).prog [35]) (H := WK.hk56) (ob := WK.ob56) (M := 20000) (loose := WK.names56) (d := HandSHeadRun.topDef (OpenLaw.row PySem.Challenge.rw_windowkin_k56_classes_of_errors).prog 35) (kwd := []) WK.ob56_eq
    (by kernel_rfl) (fun s => by kernel_rfl) WK.run56 (by kernel_rfl) (by kernel_rfl) (by kernel_rfl) (by rfl) (by first | assumption | decide +kernel) (by decide +kernel) ⟨rfl, rfl, rfl, rfl, rfl, by decide +kernel⟩ ?hw ?hc
  case hw => w_witness2
  case hc =>
    refine LamX.walk_ofTsE (l := PySem.Challenge.rw_windowkin_k56_classes_of_errors) (n := 63) (k := 4) (x := "_law_script") (CX := fun w => L2.CX WK.P56 w) rfl (by decide) (by kernel_rfl) ⟨rfl, by decide, by decide⟩ ?F (fun _ _ _ _ _ ⟨_, _, _, _, _, _, _, _, _, _, _, _, z⟩ => z)
    intro w mg fa h Y G hmg0
    have hmg : mg ("law" : PySem.Str) = some (.ref fa) := by
      have e : (HandSHeadRun.topDef (OpenLaw.row PySem.Challenge.rw_windowkin_k56_classes_of_errors).prog 35).name = ("law" : PySem.Str) := by kernel_rfl
      rw [← e]
      exact hmg0
    exact WK.law_at w mg fa h Y G hmg
