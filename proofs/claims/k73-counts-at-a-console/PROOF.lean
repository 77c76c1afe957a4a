import PyProof.Rows.All
import Wide.All
import OpenK.AllK
import Wide.FinOn
import HandS.ForMost
import HandS.ForExc
import HandS.WordsExc
import HandS.Defaults
import HandS.Nested
import KE.KDictKeyed
import HandS.ExcInit
import HandS.HeadHook1
import HandS.HeadHook2
import HandS.TupAny
import HandS.TupMul
import HandS.TupLe
import HandS.Deep
import HandS.Flow
import HandS.WideMore
import HandS.Style
import HandS.CallSlots
import HandS.Property
import HandS.Walk
import HandS.Zip
import HandS.IsInst
import HandS.SortInts
import HandS.ClsMeth
import HandS.TryOnly
import KE.KExcInit
import HandS.ExcField
import HandS.ExcIs
import KE.KExcIs
import HandS.Wide
import KE.KUnpackStar
import PyProof.RulesMatch
import HandS.Star
import HandS.MethStar
import HandS.MakeKwOnly
import HandS.Finally
import HandS.Text
import KE.KTryMore
import HandS.TryMany
import HandS.Iter
import HandS.Codes
import KE.GoesEnum
import HandS.SetBool
import HandS.Strs
import HandS.NamedTupGet
import HandS.SlotsOwn
import HandS.WordsDict
import KE.KStateDown
import HandS.Head0
import HandS.Head1
import HandS.Head2
import HandS.HeadEnd
import HandS.HeadHook3
import HandS.HeadWalk
import PySem.Challenge.RW_windowkin_k73_counts_at_a_console
set_option Elab.async false
set_option linter.all false
set_option maxRecDepth 100000
/-! values, the small language, its runs -/
namespace WK
noncomputable section
open PySem

/-- a row that is not looked into: one that was drawn; one whose first edges were dropped -/
inductive RT where
  | base (l : Nat) | drp (t : RT) (k : Nat)
inductive MV where
  | row (t : RT) | num (l : Nat) | nst (p : Str) (l : Nat)
  | non | bl (b : Bool) | int (i : Int) | str (x : Str)
  | tup (xs : List MV) | lst (xs : List MV)
  | dct (k : Bool) (kvs : List (MV × MV))
  | ins (c : Nat) (fs : List (Nat × MV))
  | exc (c : Nat) (fs : List (Nat × MV))
  | ref (l : Nat)
  | ati (l : Nat) | ats (l : Nat)
instance : Inhabited MV := ⟨.non⟩
/-! ### rows -/
def shortL (cy : List Int) : List Int := match (List.range' 1 (cy.length - 1)).find? (fun s => cy.length % s == 0 && ((List.replicate (cy.length / s) (cy.take s)).flatten == cy)) with
  | some s => cy.take s
  | none => cy
def pullR : List Int → List Int → List Int × List Int
  | [], cy => ([], cy)
  | x :: r, cy => match decide (cy.getLast? = some x) with
    | true => pullR r (x :: cy.dropLast)
    | false => ((x :: r).reverse, cy)
def normL (hd cy : List Int) : List Int × List Int := pullR hd.reverse (shortL cy)
def dropL (hd cy : List Int) (n : Int) : List Int × List Int := match decide (n < hd.length) with
  | true => normL (hd.drop n.toNat) cy
  | false => normL [] (cy.drop ((n - hd.length) % cy.length).toNat ++ cy.take ((n - hd.length) % cy.length).toNat)
structure RowOk (hd cy : List Int) : Prop where
  nf : normL hd cy = (hd, cy)
  ne : cy ≠ []
  h8 : hd.length ≤ 8
  c8 : cy.length ≤ 8
  ent : ∀ x ∈ hd ++ cy, x = 0 ∨ x = 1
abbrev rowM (hd cy : List Int) : MV := .tup [.tup (hd.map .int), .tup (cy.map .int)]
def intsR : List MV → Option (List Int)
  | [] => some []
  | .int i :: r => match intsR r with
    | some l => some (i :: l)
    | none => none
  | _ => none
def evalR (sv : Nat → Option MV) : RT → Option (List Int × List Int)
  | .base l => match sv l with
    | some (.tup [.tup hs, .tup cs]) => match intsR hs, intsR cs with
      | some hd, some cy => some (hd, cy)
      | _, _ => none
    | _ => none
  | .drp t k => match evalR sv t, sv k with
    | some (hd, cy), some (.int n) => some (dropL hd cy n)
    | _, _ => none
theorem evalR_mono {sv sv' : Nat → Option MV} (h : ∀ l v, sv l = some v → sv' l = some v) : ∀ {t : RT} {p : List Int × List Int}, evalR sv t = some p → evalR sv' t = some p
  | .base l, p, e => by
    unfold evalR at e ⊢
    cases q : sv l with
    | none => rw [q] at e; cases e
    | some x => rw [q] at e; rw [h l x q]; exact e
  | .drp t k, p, e => by
    unfold evalR at e ⊢
    cases q : evalR sv t with
    | none => rw [q] at e; cases e
    | some y =>
      cases q2 : sv k with
      | none => rw [q, q2] at e; cases e
      | some x => rw [q, q2] at e; rw [evalR_mono h q, h k x q2]; exact e

/-- what stands at a label -/
inductive MO where
  | lst (xs : List MV) | dct (k : Bool) (kvs : List (MV × MV)) | ins (c : Nat) (fs : List (Nat × MV)) | bag
/-- the things that may change, by labels; nxt: the next label -/
structure MH where
  nxt : Nat
  es : List (Nat × MO)
def getL (l : Nat) : List (Nat × MO) → Option MO
  | [] => none
  | (k, o) :: r => match Nat.beq l k with
    | true => some o
    | false => getL l r
def setL (l : Nat) (o : MO) : List (Nat × MO) → List (Nat × MO)
  | [] => []
  | (k, u) :: r => match Nat.beq l k with
    | true => (k, o) :: r
    | false => (k, u) :: setL l o r
def delL (l : Nat) : List (Nat × MO) → List (Nat × MO)
  | [] => []
  | (k, u) :: r => match Nat.beq l k with
    | true => delL l r
    | false => (k, u) :: delL l r
def MH.get (h : MH) (l : Nat) : Option MO := getL l h.es
def MH.put (h : MH) (l : Nat) (o : MO) : MH := ⟨h.nxt, setL l o h.es⟩
def MH.del (h : MH) (l : Nat) : MH := ⟨h.nxt, delL l h.es⟩
def MH.new (h : MH) (o : MO) : MH := ⟨h.nxt + 1, (h.nxt, o) :: h.es⟩
abbrev MS := List (Option MV)

/-- draws are asked for -/
inductive Tr (α : Type) where
  | ret (a : α) | ask (n : Int) (k : Int → Tr α) | bad
def Tr.bind {α β : Type} (t : Tr α) (f : α → Tr β) : Tr β := Tr.rec (motive := fun _ => Tr β) f (fun n _ ih => .ask n ih) .bad t
def Tr.wp {α : Type} : Tr α → (α → Prop) → Prop
  | .ret a, Q => Q a
  | .ask n k, Q => ∀ r : Int, 0 ≤ r → r < n → (k r).wp Q
  | .bad, _ => False
theorem Tr.wp_bind {α β : Type} (t : Tr α) (f : α → Tr β) (Q : β → Prop) : (t.bind f).wp Q ↔ t.wp fun a => (f a).wp Q := by
  induction t with
  | ret a => exact Iff.rfl
  | ask n k ih => exact ⟨fun h r h0 h1 => (ih r).mp (h r h0 h1), fun h r h0 h1 => (ih r).mpr (h r h0 h1)⟩
  | bad => exact Iff.rfl
theorem Tr.wp_mono {α : Type} {t : Tr α} {Q Q' : α → Prop} (h : t.wp Q) (hq : ∀ a, Q a → Q' a) : t.wp Q' := by
  induction t with
  | ret a => exact hq a h
  | ask n k ih => exact fun r h0 h1 => ih r (h r h0 h1)
  | bad => exact h
/-- all draws below n, one by one -/
def allB (n : Nat) (f : Int → Bool) : Bool := Nat.rec (motive := fun _ => Bool) true (fun m ih => ih && f (m : Int)) n
theorem allB_ok {f : Int → Bool} : ∀ {n : Nat}, allB n f = true → ∀ r : Int, 0 ≤ r → r < n → f r = true
  | 0, _, r, h0, h1 => absurd h1 (by simp; omega)
  | n + 1, h, r, h0, h1 => by
    have h2 : (allB n f && f (n : Int)) = true := h
    obtain ⟨ha, hb⟩ := Bool.and_eq_true_iff.mp h2
    by_cases e : r = (n : Int)
    · rw [e]; exact hb
    · exact allB_ok ha r h0 (by omega)
def Tr.chk {α : Type} (p : α → Bool) : Tr α → Bool
  | .ret a => p a
  | .ask n k => decide (n ≤ 1000) && allB n.toNat fun r => (k r).chk p
  | .bad => false
theorem Tr.chk_ok {α : Type} {p : α → Bool} : ∀ {t : Tr α}, t.chk p = true → t.wp fun a => p a = true
  | .ret a, h => h
  | .ask n k, h => fun r h0 h1 => by
    obtain ⟨_, hb⟩ := Bool.and_eq_true_iff.mp (show (decide (n ≤ 1000) && allB n.toNat fun r => (k r).chk p) = true from h)
    exact Tr.chk_ok (allB_ok hb r h0 (by omega))
  | .bad, h => by cases h

/-- an expression's end -/
inductive ER where
  | ok (v : MV) (h : MH) | ex (x : MV) (h : MH)
/-- a list of expressions' end -/
inductive EL where
  | ok (vs : List MV) (h : MH) | ex (x : MV) (h : MH)
/-- a statement's end -/
inductive SR where
  | nx (σ : MS) (h : MH) | bk (σ : MS) (h : MH) | ct (σ : MS) (h : MH) | rt (v : MV) (h : MH) | ex (x : MV) (σ : MS) (h : MH)
def Tr.be {α : Type} (t : Tr ER) (f : MV → MH → Tr α) (g : MV → MH → Tr α) : Tr α := t.bind fun r => ER.rec (motive := fun _ => Tr α) f g r
def exE (x : MV) (h : MH) : Tr ER := .ret (.ex x h)
def exL (x : MV) (h : MH) : Tr EL := .ret (.ex x h)
def okE (v : MV) (h : MH) : Tr ER := .ret (.ok v h)

/-! ### the text's tables -/
structure ClsRec where
  name : Str
  meths : List (Nat × Nat) := []
  props : List (Nat × Nat) := []
  cons : List (Nat × MV) := []
  sup : List Nat := []
structure Dat where
  nm : List Str                   -- attributes' names
  cls : List ClsRec

/-! ### values' own reckoning -/
def lk (f : Nat) : List (Nat × MV) → Option MV
  | [] => none
  | (k, v) :: r => match Nat.beq f k with
    | true => some v
    | false => lk f r
def put (f : Nat) (v : MV) : List (Nat × MV) → List (Nat × MV)
  | [] => [(f, v)]
  | (k, u) :: r => match Nat.beq f k with
    | true => (k, v) :: r
    | false => (k, u) :: put f v r
def asc {α : Type} (k : Nat) : List (Nat × α) → Option α
  | [] => none
  | (j, v) :: r => match Nat.beq k j with
    | true => some v
    | false => asc k r
/-- a list's items -/
def asL (h : MH) : MV → Option (List MV)
  | .lst xs => some xs
  | .ref l => match h.get l with
    | some (.lst xs) => some xs
    | _ => none
  | _ => none
/-- a list's or a tuple's items -/
def asQ (h : MH) : MV → Option (List MV)
  | .tup xs => some xs
  | v => asL h v
def asD (h : MH) : MV → Option (Bool × List (MV × MV))
  | .dct k kvs => some (k, kvs)
  | .ref l => match h.get l with
    | some (.dct k kvs) => some (k, kvs)
    | _ => none
  | _ => none
mutual
def keyOf : MV → Option NestedKey
  | .non => some .none
  | .int i => some (.num i)
  | .str x => some (.text x)
  | .tup xs => match keysOf xs with
    | some ks => some (.tup ks)
    | none => none
  | _ => none
def keysOf : List MV → Option (List NestedKey)
  | [] => some []
  | x :: r => match keyOf x with
    | some k => match keysOf r with
      | some ks => some (k :: ks)
      | none => none
    | none => none
end
/-- a tuple as a dict's key, not too deep -/
def keyN (x : MV) : Option NestedKey := match keyOf x with
  | some k => match Nat.ble k.depth 8 with
    | true => some k
    | false => none
  | none => none
def asI (h : MH) : MV → Option (Nat × List (Nat × MV))
  | .ins c fs => some (c, fs)
  | .ref l => match h.get l with
    | some (.ins c fs) => some (c, fs)
    | _ => none
  | _ => none
def nIx (n : Nat) (i : Int) : Option Nat := match i with
  | .ofNat j => match Nat.ble (j + 1) n with
    | true => some j
    | false => none
  | .negSucc j => match Nat.ble (j + 1) n with
    | true => some (n - (j + 1))
    | false => none
def nth : List MV → Nat → Option MV
  | [], _ => none
  | x :: _, 0 => some x
  | _ :: r, n + 1 => nth r n
mutual
def eqV : MV → MV → Bool
  | .non, .non => true
  | .bl a, .bl b => a == b
  | .int a, .int b => decide (a = b)
  | .str a, .str b => decide (a = b)
  | .tup xs, .tup ys => eqVs xs ys
  | .lst xs, .lst ys => eqVs xs ys
  | .ati a, .ati b => Nat.beq a b
  | .ats a, .ats b => Nat.beq a b
  | _, _ => false
def eqVs : List MV → List MV → Bool
  | [], [] => true
  | x :: xs, y :: ys => eqV x y && eqVs xs ys
  | _, _ => false
end
def okO (o : Option MV) (h : MH) : Tr ER := match o with
  | some v => okE v h
  | none => .bad
def Tr.bl {α : Type} (t : Tr EL) (f : List MV → MH → Tr α) (g : MV → MH → Tr α) : Tr α := t.bind fun r => EL.rec (motive := fun _ => Tr α) f g r
end
end WK
set_option Elab.async false
set_option linter.all false
set_option maxRecDepth 100000
/-! how the small language's values stand in the layer's heap -/
namespace WK
noncomputable section
open PySem L2
open NdefX (NTab TabN TabsN)

/-- where the labels stand; amb: what callers may change -/
structure Rho where
  at_ : Nat → Option Addr
  amb : Addr → Prop
  sv : Nat → Option MV
/-- the text's tables, the program, the world, the tables of code objects -/
structure Tb extends Dat where
  P : Program
  w : World
  tabs : List NTab
  nd : nm.Nodup
def isTbl : HO → Bool
  | .tbl _ => true
  | _ => false
/-- the addresses of the things that may change here -/
def Own (ρ : Rho) (h : MH) (a : Addr) : Prop := ∃ l o, h.get l = some o ∧ ρ.at_ l = some a
def Mu (ρ : Rho) (h : MH) (a : Addr) : Prop := ρ.amb a ∨ Own ρ h a

section
variable (T : Tb) (K : PySem.W.Frag)
def cAd (c : Nat) : Addr := match T.cls[c]? with
  | some r => He.ga K r.name
  | none => 0
def nmS (f : Nat) : Str := T.nm.getD f ""
end

/-- at d stands a dict with keys that are tuples: the keys, their tuples' places, the values -/
def dictX (P : Program) (w : World) (d : Addr) (ps : List (NestedKey × Addr × V)) : Heap → Prop := fun h =>
  ∃ xs : List (NestedKey × Addr × Value), Paired (fun (p : NestedKey × Addr × V) (q : NestedKey × Addr × Value) => p.1 = q.1 ∧ p.2.1 = q.2.1 ∧ RelV p.2.2 q.2.2) ps xs ∧
    ∃ o es ep, h.get? d = some o ∧ o.ExactDict ∧ o.data = .dict es ep ∧ es.toList = xs.map (entryOfKey (nestedKind P w)) ∧ (xs.map (·.1)).Nodup
def dictH (P : Program) (w : World) (d : Addr) (ps : List (NestedKey × Addr × V)) : HO := .ext (dictX P w d ps)
mutual
inductive Den (T : Tb) (K : PySem.W.Frag) (ρ : Rho) (M : Addr → Prop) (H : Hp) : MV → V → Prop
  | non : Den T K ρ M H .non .non
  | bl (b : Bool) : Den T K ρ M H (.bl b) (.bl b)
  | int (i : Int) : Den T K ρ M H (.int i) (.int i)
  | str (x : Str) : Den T K ρ M H (.str x) (.str x)
  | tup {xs : List MV} {vs : List V} {a : Addr} : ¬ M a → H a = some (.tup vs) → DenL T K ρ M H xs vs → Den T K ρ M H (.tup xs) (.ref a)
  | tupK {xs : List MV} {vs : List V} {a : Addr} : (∀ H, SqT K H a vs) → DenL T K ρ M H xs vs → Den T K ρ M H (.tup xs) (.ref a)
  | lst {xs : List MV} {vs : List V} {a : Addr} : ¬ M a → H a = some (.lst vs) → DenL T K ρ M H xs vs → Den T K ρ M H (.lst xs) (.ref a)
  | ins {c : Nat} {fs : List (Nat × MV)} {gs : List (Str × V)} {a dx : Addr} : ¬ M a → H a = some (.ins (cAd T K c) dx gs) → DenF T K ρ M H fs gs → Den T K ρ M H (.ins c fs) (.ref a)
  | exc {c : Nat} {fs : List (Nat × MV)} {gs : List (Str × V)} {a d : Addr} : ¬ M a → H a = some (exo a (cAd T K c) (some d)) → ¬ M d → H d = some (exd d gs) → DenF T K ρ M H fs gs → Den T K ρ M H (.exc c fs) (.ref a)
  | ref {l : Nat} {a : Addr} : ρ.at_ l = some a → Den T K ρ M H (.ref l) (.ref a)
  | ati {l : Nat} {i : Int} : ρ.sv l = some (.int i) → Den T K ρ M H (.ati l) (.int i)
  | ats {l : Nat} {x : Str} : ρ.sv l = some (.str x) → x.length ≤ 64 → Den T K ρ M H (.ats l) (.str x)
  | row {t : RT} {hd cy : List Int} {a : Addr} : evalR ρ.sv t = some (hd, cy) → RowOk hd cy → Den T K ρ M H (rowM hd cy) (.ref a) → Den T K ρ M H (.row t) (.ref a)
  | num {l : Nat} {n : Int} : ρ.sv l = some (.int n) → 0 ≤ n → n < 1000000000 → Den T K ρ M H (.num l) (.int n)
  | nst {p : Str} {l : Nat} {n : Int} : ρ.sv l = some (.int n) → 0 ≤ n → n < 1000000000 → Den T K ρ M H (.nst p l) (.str (p ++ Str.ofString (toString n)))
  | dK {kvs : List (MV × MV)} {ps : List (Key × V)} {a : Addr} : ¬ M a → H a = some (.dK ps) → DenK T K ρ M H kvs ps → Den T K ρ M H (.dct true kvs) (.ref a)
  | dN {kvs : List (MV × MV)} {ps : List (NestedKey × Addr × V)} {a : Addr} : ¬ M a → H a = some (dictH T.P T.w a ps) → (a == sysModules) = false → DenN T K ρ M H kvs ps → Den T K ρ M H (.dct false kvs) (.ref a)
inductive DenL (T : Tb) (K : PySem.W.Frag) (ρ : Rho) (M : Addr → Prop) (H : Hp) : List MV → List V → Prop
  | nil : DenL T K ρ M H [] []
  | cons {x : MV} {v : V} {xs : List MV} {vs : List V} : Den T K ρ M H x v → DenL T K ρ M H xs vs → DenL T K ρ M H (x :: xs) (v :: vs)
inductive DenF (T : Tb) (K : PySem.W.Frag) (ρ : Rho) (M : Addr → Prop) (H : Hp) : List (Nat × MV) → List (Str × V) → Prop
  | nil : DenF T K ρ M H [] []
  | cons {f : Nat} {x : MV} {v : V} {fs : List (Nat × MV)} {gs : List (Str × V)} : f < T.nm.length → Den T K ρ M H x v → DenF T K ρ M H fs gs → DenF T K ρ M H ((f, x) :: fs) ((nmS T f, v) :: gs)
inductive DenK (T : Tb) (K : PySem.W.Frag) (ρ : Rho) (M : Addr → Prop) (H : Hp) : List (MV × MV) → List (Key × V) → Prop
  | nil : DenK T K ρ M H [] []
  | consI {i : Int} {x : MV} {v : V} {r : List (MV × MV)} {r' : List (Key × V)} : Den T K ρ M H x v → DenK T K ρ M H r r' → DenK T K ρ M H ((.int i, x) :: r) ((.inl i, v) :: r')
  | consS {z : Str} {x : MV} {v : V} {r : List (MV × MV)} {r' : List (Key × V)} : Den T K ρ M H x v → DenK T K ρ M H r r' → DenK T K ρ M H ((.str z, x) :: r) ((.inr z, v) :: r')
inductive DenN (T : Tb) (K : PySem.W.Frag) (ρ : Rho) (M : Addr → Prop) (H : Hp) : List (MV × MV) → List (NestedKey × Addr × V) → Prop
  | nil : DenN T K ρ M H [] []
  | cons {k x : MV} {nk : NestedKey} {a : Addr} {v : V} {r : List (MV × MV)} {r' : List (NestedKey × Addr × V)} : keyN k = some nk → Den T K ρ M H k (.ref a) → Den T K ρ M H x v → DenN T K ρ M H r r' → DenN T K ρ M H ((k, x) :: r) ((nk, a, v) :: r')
end

/-- an object at a label -/
def ObR (T : Tb) (K : PySem.W.Frag) (ρ : Rho) (M : Addr → Prop) (H : Hp) (a : Addr) : MO → Prop
  | .lst xs => ∃ vs, H a = some (.lst vs) ∧ DenL T K ρ M H xs vs
  | .ins c fs => ∃ dx gs, H a = some (.ins (cAd T K c) dx gs) ∧ DenF T K ρ M H fs gs
  | .dct true kvs => ∃ ps, H a = some (.dK ps) ∧ DenK T K ρ M H kvs ps
  | .dct false kvs => ∃ ps, H a = some (dictH T.P T.w a ps) ∧ (a == sysModules) = false ∧ DenN T K ρ M H kvs ps
  | .bag => ∃ (b : Addr) (i z q : Int) (ns : List Int), H a = some (.lst [.ref b, .int i, .int z, .int q]) ∧ ¬ M b ∧ H b = some (.lst (ns.map V.int)) ∧ 0 ≤ i ∧ 0 ≤ z ∧ 0 ≤ q ∧ q < 2147483563
/-- the tables of code objects; what they tell stays as it is -/
def TabsW (T : Tb) (ρ : Rho) (h : MH) (H : Hp) : Prop := ∀ p ∈ T.tabs, ∃ ps : Array Value, H p.1 = some (.tbl ps) ∧ TriplesOk ps.toList ∧ ∀ (pos : Pos) (cv : Value), codeAmong pos ps.toList = some cv → ∃ c, cv = .ref c ∧ H c = some (LamX.CodeO c (p.2 pos.line pos.col)) ∧ ¬ Mu ρ h c
theorem TabsW.n {T : Tb} {ρ : Rho} {h : MH} {H : Hp} (t : TabsW T ρ h H) : TabsN T.tabs H := fun p hp => let ⟨ps, e1, e2, e3⟩ := t p hp; ⟨ps, e1, e2, fun pos cv z => let ⟨c, q1, q2, _⟩ := e3 pos cv z; ⟨c, q1, q2⟩⟩
theorem TabsW.mv {T : Tb} {ρ ρ' : Rho} {h h' : MH} {H H' : Hp} (t : TabsW T ρ h H) (e : ∀ b o, H b = some o → ¬ Mu ρ h b → H' b = some o) (tb : ∀ b ps, H b = some (.tbl ps) → H' b = some (.tbl ps)) (n : ∀ b o, H b = some o → ¬ Mu ρ h b → ¬ Mu ρ' h' b) : TabsW T ρ' h' H' := fun p hp =>
  let ⟨ps, e1, e2, e3⟩ := t p hp; ⟨ps, tb _ _ e1, e2, fun pos cv z => let ⟨c, q1, q2, q3⟩ := e3 pos cv z; ⟨c, q1, e _ _ q2 q3, n _ _ q2 q3⟩⟩
structure SimH (T : Tb) (K : PySem.W.Frag) (ρ : Rho) (h : MH) (H : Hp) : Prop where
  lt : ∀ l a, ρ.at_ l = some a → l < h.nxt
  ltv : ∀ l v, ρ.sv l = some v → l < h.nxt
  tb : TabsW T ρ h H
  inj : ∀ l l' o o' a, h.get l = some o → h.get l' = some o' → ρ.at_ l = some a → ρ.at_ l' = some a → l = l'
  ob : ∀ l o, h.get l = some o → ∃ a, ρ.at_ l = some a ∧ ObR T K ρ (Mu ρ h) H a o
  am : ∀ a, ρ.amb a → ∃ o, H a = some o
  dis : ∀ a, Own ρ h a → ¬ ρ.amb a
/-- the slots -/
structure SimS (T : Tb) (K : PySem.W.Frag) (ρ : Rho) (M : Addr → Prop) (H : Hp) (m : MS) (σ : St) : Prop where
  len : m.length = σ.length
  at_ : ∀ (i : Nat) (x : MV), m[i]? = some (some x) → ∃ v, σ[i]? = some (some v) ∧ Den T K ρ M H x v
/-- what goes on: labels stay, what can't change stays -/
structure Le (ρ : Rho) (h : MH) (H : Hp) (ρ' : Rho) (h' : MH) (H' : Hp) : Prop where
  ext : ∀ l a, ρ.at_ l = some a → ρ'.at_ l = some a
  exv : ∀ l v, ρ.sv l = some v → ρ'.sv l = some v
  nxt : h.nxt ≤ h'.nxt
  amb : ∀ a, ρ.amb a → ρ'.amb a
  amb2 : ∀ a, ρ'.amb a → ρ.amb a ∨ H a = none
  own : ∀ a, Own ρ' h' a → Own ρ h a ∨ H a = none
  keep : ∀ a o, H a = some o → ¬ Own ρ h a → isTbl o = false → H' a = some o
  live : ∀ a o, H a = some o → ∃ u, H' a = some u
section
variable {T : Tb} {K : PySem.W.Frag} {ρ ρ' ρ'' : Rho} {h h' h'' : MH} {H H' H'' : Hp} {x : MV} {v : V}
theorem Le.refl : Le ρ h H ρ h H := ⟨fun _ _ e => e, fun _ _ e => e, Nat.le_refl _, fun _ m => m, fun _ m => .inl m, fun _ m => .inl m, fun _ _ e _ _ => e, fun _ o e => ⟨o, e⟩⟩
theorem Le.nown (e : Le ρ h H ρ' h' H') {a : Addr} {o : HO} (ha : H a = some o) (n : ¬ Own ρ h a) : ¬ Own ρ' h' a := fun m => by
  rcases e.own a m with q | q
  · exact n q
  · rw [ha] at q; cases q
theorem Le.nomu (e : Le ρ h H ρ' h' H') {a : Addr} {o : HO} (ha : H a = some o) (n : ¬ Mu ρ h a) : ¬ Mu ρ' h' a := fun m => by
  rcases m with m | m
  · rcases e.amb2 a m with q | q
    · exact n (.inl q)
    · rw [ha] at q; cases q
  · exact e.nown ha (fun q => n (.inr q)) m
theorem Le.kp (e : Le ρ h H ρ' h' H') {a : Addr} {o : HO} (ha : H a = some o) (n : ¬ Mu ρ h a) (t : isTbl o = false) : H' a = some o := e.keep a o ha (fun q => n (.inr q)) t
theorem Le.trans (a : Le ρ h H ρ' h' H') (b : Le ρ' h' H' ρ'' h'' H'') : Le ρ h H ρ'' h'' H'' where
  ext := fun l x e => b.ext l x (a.ext l x e)
  exv := fun l x e => b.exv l x (a.exv l x e)
  nxt := Nat.le_trans a.nxt b.nxt
  amb := fun x m => b.amb x (a.amb x m)
  amb2 := fun x m => by
    cases q : H x with
    | none => exact .inr rfl
    | some o =>
      obtain ⟨u, q'⟩ := a.live x o q
      rcases b.amb2 x m with z | z
      · rcases a.amb2 x z with y | y
        · exact .inl y
        · rw [q] at y; cases y
      · rw [q'] at z; cases z
  own := fun x m => by
    cases q : H x with
    | none => exact .inr rfl
    | some o =>
      obtain ⟨u, q'⟩ := a.live x o q
      rcases b.own x m with z | z
      · rcases a.own x z with y | y
        · exact .inl y
        · rw [q] at y; cases y
      · rw [q'] at z; cases z
  keep := fun x o e n t => b.keep x o (a.keep x o e n t) (a.nown e n) t
  live := fun x o e => let ⟨u, e1⟩ := a.live x o e; b.live x u e1
mutual
theorem Den.le (e : Le ρ h H ρ' h' H') : ∀ {x : MV} {v : V}, Den T K ρ (Mu ρ h) H x v → Den T K ρ' (Mu ρ' h') H' x v
  | _, _, .non => .non
  | _, _, .bl b => .bl b
  | _, _, .int i => .int i
  | _, _, .str x => .str x
  | _, _, .tup n r d => .tup (e.nomu r n) (e.kp r n rfl) (DenL.le e d)
  | _, _, .tupK s d => .tupK s (DenL.le e d)
  | _, _, .lst n r d => .lst (e.nomu r n) (e.kp r n rfl) (DenL.le e d)
  | _, _, .ins n r d => .ins (e.nomu r n) (e.kp r n rfl) (DenF.le e d)
  | _, _, .exc n r n2 r2 d => .exc (e.nomu r n) (e.kp r n rfl) (e.nomu r2 n2) (e.kp r2 n2 rfl) (DenF.le e d)
  | _, _, .ref r => .ref (e.ext _ _ r)
  | _, _, .ati r => .ati (e.exv _ _ r)
  | _, _, .ats r l => .ats (e.exv _ _ r) l
  | _, _, .row r o d => .row (evalR_mono e.exv r) o (Den.le e d)
  | _, _, .num r a b => .num (e.exv _ _ r) a b
  | _, _, .nst r a b => .nst (e.exv _ _ r) a b
  | _, _, .dK n r d => .dK (e.nomu r n) (e.kp r n rfl) (DenK.le e d)
  | _, _, .dN n r y d => .dN (e.nomu r n) (e.kp r n rfl) y (DenN.le e d)
theorem DenL.le (e : Le ρ h H ρ' h' H') : ∀ {xs : List MV} {vs : List V}, DenL T K ρ (Mu ρ h) H xs vs → DenL T K ρ' (Mu ρ' h') H' xs vs
  | _, _, .nil => .nil
  | _, _, .cons d r => .cons (Den.le e d) (DenL.le e r)
theorem DenF.le (e : Le ρ h H ρ' h' H') : ∀ {xs : List (Nat × MV)} {vs : List (Str × V)}, DenF T K ρ (Mu ρ h) H xs vs → DenF T K ρ' (Mu ρ' h') H' xs vs
  | _, _, .nil => .nil
  | _, _, .cons f d r => .cons f (Den.le e d) (DenF.le e r)
theorem DenK.le (e : Le ρ h H ρ' h' H') : ∀ {xs : List (MV × MV)} {vs : List (Key × V)}, DenK T K ρ (Mu ρ h) H xs vs → DenK T K ρ' (Mu ρ' h') H' xs vs
  | _, _, .nil => .nil
  | _, _, .consI d r => .consI (Den.le e d) (DenK.le e r)
  | _, _, .consS d r => .consS (Den.le e d) (DenK.le e r)
theorem DenN.le (e : Le ρ h H ρ' h' H') : ∀ {xs : List (MV × MV)} {vs : List (NestedKey × Addr × V)}, DenN T K ρ (Mu ρ h) H xs vs → DenN T K ρ' (Mu ρ' h') H' xs vs
  | _, _, .nil => .nil
  | _, _, .cons k d1 d r => .cons k (Den.le e d1) (Den.le e d) (DenN.le e r)
end
theorem SimS.le {m : MS} {σ : St} (e : Le ρ h H ρ' h' H') (s : SimS T K ρ (Mu ρ h) H m σ) : SimS T K ρ' (Mu ρ' h') H' m σ :=
  ⟨s.len, fun i x q => let ⟨v, a, b⟩ := s.at_ i x q; ⟨v, a, b.le e⟩⟩
end

/-! ### readings -/
/-- what is wanted of an exception -/
abbrev XW := MV → MS → Rho → MH → Hp → Prop
/-- an exception that may come -/
def exP (T : Tb) (K : PySem.W.Frag) (E : XW) (m : MS) (ρ : Rho) (h : MH) (H : Hp) (x : MV) (h' : MH) : Prop := ∀ ρ' H', Le ρ h H ρ' h' H' → SimH T K ρ' h' H' → E x m ρ' h' H'
theorem exP.le {T : Tb} {K : PySem.W.Frag} {E : XW} {m : MS} {ρ ρ' : Rho} {h h' : MH} {H H' : Hp} (l : Le ρ h H ρ' h' H') {x : MV} {h2 : MH} (w : exP T K E m ρ h H x h2) : exP T K E m ρ' h' H' x h2 := fun ρ2 H2 l2 s => w ρ2 H2 (l.trans l2) s
abbrev RunE := MS → MH → Tr ER
def postE (T : Tb) (K : PySem.W.Frag) (E : XW) (m : MS) (ρ : Rho) (h : MH) (H : Hp) (Q : VK) : ER → Prop
  | .ok x h' => ∀ ρ' H' v, Le ρ h H ρ' h' H' → SimH T K ρ' h' H' → Den T K ρ' (Mu ρ' h') H' x v → Q v H'
  | .ex x h' => exP T K E m ρ h H x h'
def tE (T : Tb) (K : PySem.W.Frag) (E : XW) (f : RunE) : TE := fun σ H Q => ∃ ρ m h, SimH T K ρ h H ∧ SimS T K ρ (Mu ρ h) H m σ ∧ (f m h).wp (postE T K E m ρ h H Q)
theorem peI {X : Cx} {e : Expr} {t t' : TE} (p : PE X e t) (h : ∀ σ H Q, t' σ H Q → t σ H Q) : PE X e t' := ⟨fun pins s σ H Q I q => p.run pins s σ H Q I (h σ H Q q)⟩
theorem psI {X : Cx} {e : Stmt} {t t' : TS} (p : PS X e t) (h : ∀ D σ H, t' D σ H → t D σ H) : PS X e t' := ⟨fun pins s σ H Q I q => p.run pins s σ H Q I (h Q σ H q)⟩
theorem pssI {X : Cx} {e : List Stmt} {t t' : TS} (p : PSs X e t) (h : ∀ D σ H, t' D σ H → t D σ H) : PSs X e t' := ⟨fun pins s σ H Q I q => p.run pins s σ H Q I (h Q σ H q)⟩

section
variable {T : Tb} {X : Cx} {E : XW}
/-- a value that is known without a look at the heap -/
theorem e_con {e : Expr} {x : MV} {v : V} (p : PE X e (tC v)) (d : ∀ ρ M H, Den T X.K ρ M H x v) : PE X e (tE T X.K E fun _ h => okE x h) := peI p fun σ H Q ⟨ρ, m, h, s1, s2, w⟩ => w ρ H v Le.refl s1 (d _ _ _)
def getS (m : MS) (i : Nat) : Option MV := List.rec (motive := fun _ => Nat → Option MV) (fun _ => none) (fun x _ ih i => Nat.rec (motive := fun _ => Option MV) x (fun j _ => ih j) i) m i
theorem getS_ok : ∀ {m : MS} {i : Nat} {v : MV}, getS m i = some v → m[i]? = some (some v)
  | [], _, _, e => by cases e
  | x :: r, 0, v, e => by
    have e' : x = some v := e
    rw [e']; rfl
  | x :: r, i + 1, v, e => by
    have e' : getS r i = some v := e
    simpa using getS_ok e'
def runVar (i : Nat) : RunE := fun m h => Option.rec (motive := fun _ => Tr ER) .bad (fun v => okE v h) (getS m i)
theorem e_var {i : Nat} {x : Str} {pos : Pos} (hN : X.N[i]? = some x) (hv : Vis X.env.scope x) (hd : (x == ("__debug__" : Str)) = false) (hcd : (x == ("__classdict__" : Str)) = false) : PE X (.Name x pos) (tE T X.K E (runVar i)) :=
  peI (pe_var hN hv hd hcd) fun σ H Q ⟨ρ, m, h, s1, s2, w⟩ => by
    unfold runVar at w
    cases e : getS m i with
    | none => rw [e] at w; exact w.elim
    | some y =>
      rw [e] at w
      obtain ⟨v, e2, d⟩ := s2.at_ i y (getS_ok e)
      exact ⟨v, e2, w ρ H v Le.refl s1 d⟩
/-- one after another -/
theorem Tr.wp_be {α : Type} {t : Tr ER} {f g : MV → MH → Tr α} {Q : α → Prop} (h : (t.be f g).wp Q) : t.wp fun r => match r with
    | .ok v h => (f v h).wp Q
    | .ex x h => (g x h).wp Q := by
  refine Tr.wp_mono ((Tr.wp_bind _ _ _).mp h) fun r q => ?_
  cases r <;> exact q
def run2 (f g : RunE) (op : MV → MV → MH → Tr ER) : RunE := fun m h => (f m h).be (fun x h1 => (g m h1).be (fun y h2 => op x y h2) exE) exE
/-- what an operation by values must do -/
def OpS (T : Tb) (X : Cx) (r : R2) (op : MV → MV → MH → Tr ER) : Prop := ∀ ρ h H x y v u E m Q, SimH T X.K ρ h H → Den T X.K ρ (Mu ρ h) H x v → Den T X.K ρ (Mu ρ h) H y u → (op x y h).wp (postE T X.K E m ρ h H Q) → r v u H Q
theorem postE.le {K : PySem.W.Frag} {m : MS} {ρ ρ' : Rho} {h h' : MH} {H H' : Hp} {Q : VK} (l : Le ρ h H ρ' h' H') : ∀ r, postE T K E m ρ h H Q r → postE T K E m ρ' h' H' Q r
  | .ok _ _, w => fun ρ2 H2 v l2 s d => w ρ2 H2 v (l.trans l2) s d
  | .ex _ _, w => exP.le l w
theorem t_run2 {f g : RunE} {op : MV → MV → MH → Tr ER} {r : R2} (ho : OpS T X r op) (σ : St) (H : Hp) (Q : VK) (w : tE T X.K E (run2 f g op) σ H Q) : tOp r (tE T X.K E f) (tE T X.K E g) σ H Q := by
  obtain ⟨ρ, m, h, s1, s2, w⟩ := w
  refine ⟨ρ, m, h, s1, s2, Tr.wp_mono (Tr.wp_be w) fun q w1 => ?_⟩
  cases q with
  | ex x h1 => exact w1
  | ok x h1 =>
    intro ρ1 H1 v l1 s1' d1
    refine ⟨ρ1, m, h1, s1', s2.le l1, Tr.wp_mono (Tr.wp_be w1) fun q w2 => ?_⟩
    cases q with
    | ex x h2 => exact exP.le l1 w2
    | ok y h2 =>
      intro ρ2 H2 u l2 s2' d2
      exact ho ρ2 h2 H2 x y v u E m Q s2' (d1.le l2) d2 (Tr.wp_mono w2 (postE.le (l1.trans l2)))
theorem e_bin {op : Operator} {a b : Expr} {pos : Pos} {f g : RunE} {o : MV → MV → MH → Tr ER} {r : R2} (hr : OpR X (binaryOp op) r) (ho : OpS T X r o) (ha : PE X a (tE T X.K E f)) (hb : PE X b (tE T X.K E g)) :
    PE X (.BinOp a op b pos) (tE T X.K E (run2 f g o)) := peI (pe_op hr ha hb) (t_run2 ho)

/-! ### new things -/
section
variable {T : Tb} {K : PySem.W.Frag} {ρ : Rho} {h : MH} {H : Hp}
theorem ObR.at {M : Addr → Prop} {a : Addr} {o : MO} (q : ObR T K ρ M H a o) : ∃ u, H a = some u := by
  cases o with
  | lst xs => obtain ⟨vs, e, _⟩ := q; exact ⟨_, e⟩
  | ins c fs => obtain ⟨dx, gs, e, _⟩ := q; exact ⟨_, e⟩
  | dct k kvs =>
    cases k with
    | true => obtain ⟨ps, e, _⟩ := q; exact ⟨_, e⟩
    | false => obtain ⟨ps, e, _⟩ := q; exact ⟨_, e⟩
  | bag => obtain ⟨b, i, z, c, ns, e, _⟩ := q; exact ⟨_, e⟩
theorem SimH.atO (s : SimH T K ρ h H) {a : Addr} (m : Own ρ h a) : ∃ o, H a = some o := by
  obtain ⟨l, o, e, r⟩ := m
  obtain ⟨b, r', q⟩ := s.ob l o e
  rw [r] at r'; cases r'
  exact q.at
theorem SimH.at (s : SimH T K ρ h H) {a : Addr} (m : Mu ρ h a) : ∃ o, H a = some o := by
  rcases m with m | m
  · exact s.am a m
  · exact s.atO m
theorem SimH.nomu (s : SimH T K ρ h H) {a : Addr} (n : H a = none) : ¬ Mu ρ h a := fun m => by
  obtain ⟨o, e⟩ := s.at m
  rw [n] at e; cases e
theorem Le.neu {p : Addr} {o : HO} (n : H p = none) : Le ρ h H ρ h (upd H p o) :=
  ⟨fun _ _ e => e, fun _ _ e => e, Nat.le_refl _, fun _ m => m, fun _ m => .inl m, fun _ m => .inl m, fun a u e _ _ => by rw [upd_ne (ne_of_none e n)]; exact e, fun a o e => ⟨o, by rw [upd_ne (ne_of_none e n)]; exact e⟩⟩
theorem ObR.le {ρ' : Rho} {h' : MH} {H' : Hp} {a : Addr} {o : MO} (l : Le ρ h H ρ' h' H') (k : ∀ u, isTbl u = false → H a = some u → H' a = some u) (q : ObR T K ρ (Mu ρ h) H a o) : ObR T K ρ' (Mu ρ' h') H' a o := by
  cases o with
  | lst xs => obtain ⟨vs, e, d⟩ := q; exact ⟨vs, k _ rfl e, d.le l⟩
  | ins c fs => obtain ⟨dx, gs, e, d⟩ := q; exact ⟨dx, gs, k _ rfl e, d.le l⟩
  | dct kk kvs =>
    cases kk with
    | true => obtain ⟨ps, e, d⟩ := q; exact ⟨ps, k _ rfl e, d.le l⟩
    | false => obtain ⟨ps, e, y, d⟩ := q; exact ⟨ps, k _ rfl e, y, d.le l⟩
  | bag =>
    obtain ⟨b, i, z, c, ns, e, n, sq, r⟩ := q
    exact ⟨b, i, z, c, ns, k _ rfl e, l.nomu sq n, l.kp sq n rfl, r⟩
/-- a new thing that stays as it is -/
theorem SimH.neu (s : SimH T K ρ h H) {p : Addr} {o : HO} (n : H p = none) : SimH T K ρ h (upd H p o) :=
  ⟨s.lt, s.ltv, s.tb.mv (fun b u e _ => by rw [upd_ne (ne_of_none e n)]; exact e) (fun b u e => by rw [upd_ne (ne_of_none e n)]; exact e) (fun _ _ _ m => m), s.inj, fun l u e => by
    obtain ⟨a, r, q⟩ := s.ob l u e
    exact ⟨a, r, q.le (Le.neu n) fun v _ z => by rw [upd_ne (ne_of_none z n)]; exact z⟩, fun a q => by
    obtain ⟨u, z⟩ := s.am a q
    exact ⟨u, by rw [upd_ne (ne_of_none z n)]; exact z⟩, s.dis⟩
/-- a new thing that may change -/
def rhoN (ρ : Rho) (l : Nat) (p : Addr) : Rho := ⟨fun k => if k = l then some p else ρ.at_ k, ρ.amb, ρ.sv⟩
theorem rhoN_at {ρ : Rho} {l : Nat} {p : Addr} : (rhoN ρ l p).at_ l = some p := if_pos rfl
theorem rhoN_ne {ρ : Rho} {l k : Nat} {p : Addr} (n : k ≠ l) : (rhoN ρ l p).at_ k = ρ.at_ k := if_neg n
theorem beq_self (n : Nat) : Nat.beq n n = true := by simp
theorem beq_ne {l k : Nat} (e : l ≠ k) : Nat.beq l k = false := by
  cases z : Nat.beq l k with
  | false => rfl
  | true => exact absurd (Nat.eq_of_beq_eq_true z) e
theorem getL_cons (l k : Nat) (o : MO) (r : List (Nat × MO)) : getL l ((k, o) :: r) = if l = k then some o else getL l r := by
  by_cases e : l = k
  · subst e
    rw [if_pos rfl]
    show (match Nat.beq l l with | true => some o | false => getL l r) = _
    rw [beq_self]
  · rw [if_neg e]
    show (match Nat.beq l k with | true => some o | false => getL l r) = _
    rw [beq_ne e]
theorem getL_new (h : MH) (o : MO) (l : Nat) : (h.new o).get l = if l = h.nxt then some o else h.get l := getL_cons l h.nxt o h.es
theorem SimH.get_lt (s : SimH T K ρ h H) {l : Nat} {o : MO} (e : h.get l = some o) : l < h.nxt := by
  obtain ⟨a, r, _⟩ := s.ob l o e
  exact s.lt l a r
theorem SimH.own_new (s : SimH T K ρ h H) {p : Addr} {o : MO} {a : Addr} (m : Own (rhoN ρ h.nxt p) (h.new o) a) : a = p ∨ Own ρ h a := by
  obtain ⟨l, u, e, r⟩ := m
  rw [getL_new] at e
  by_cases q : l = h.nxt
  · subst q
    rw [rhoN_at] at r; cases r; exact .inl rfl
  · rw [rhoN_ne q] at r
    rw [if_neg q] at e
    exact .inr ⟨l, u, e, r⟩
theorem SimH.le_lab (s : SimH T K ρ h H) {p : Addr} {o : HO} {u : MO} (n : H p = none) : Le ρ h H (rhoN ρ h.nxt p) (h.new u) (upd H p o) where
  ext := fun l a e => by
    rw [rhoN_ne (Nat.ne_of_lt (s.lt l a e))]; exact e
  exv := fun _ _ e => e
  nxt := Nat.le_succ _
  amb := fun _ m => m
  amb2 := fun _ m => .inl m
  own := fun a m => by
    rcases s.own_new m with q | q
    · rw [q]; exact .inr n
    · exact .inl q
  keep := fun a v e _ _ => by rw [upd_ne (ne_of_none e n)]; exact e
  live := fun a o e => ⟨o, by rw [upd_ne (ne_of_none e n)]; exact e⟩
theorem SimH.lab (s : SimH T K ρ h H) {p : Addr} {o : HO} {u : MO} (n : H p = none) (q : ObR T K (rhoN ρ h.nxt p) (Mu (rhoN ρ h.nxt p) (h.new u)) (upd H p o) p u) : SimH T K (rhoN ρ h.nxt p) (h.new u) (upd H p o) where
  lt := fun l a e => by
    show l < h.nxt + 1
    by_cases z : l = h.nxt
    · omega
    · rw [rhoN_ne z] at e
      have := s.lt l a e
      omega
  ltv := fun l v e => Nat.lt_succ_of_lt (s.ltv l v e)
  tb := s.tb.mv (fun b u e _ => by rw [upd_ne (ne_of_none e n)]; exact e) (fun b u e => by rw [upd_ne (ne_of_none e n)]; exact e) (fun b u e m => (s.le_lab (o := o) n).nomu e m)
  inj := fun l l' w w' a e e' r r' => by
    rw [getL_new] at e e'
    have old : ∀ {k : Nat} {w : MO}, h.get k = some w → ρ.at_ k = some p → False := fun {k w} e r => by
      obtain ⟨v, z⟩ := s.atO ⟨k, w, e, r⟩
      rw [n] at z; cases z
    by_cases z : l = h.nxt <;> by_cases z' : l' = h.nxt
    · omega
    · subst z
      rw [rhoN_at] at r; cases r
      rw [if_neg z'] at e'
      rw [rhoN_ne z'] at r'
      exact (old e' r').elim
    · subst z'
      rw [rhoN_at] at r'; cases r'
      rw [if_neg z] at e
      rw [rhoN_ne z] at r
      exact (old e r).elim
    · rw [if_neg z] at e
      rw [rhoN_ne z] at r
      rw [if_neg z'] at e'
      rw [rhoN_ne z'] at r'
      exact s.inj l l' w w' a e e' r r'
  ob := fun l w e => by
    rw [getL_new] at e
    by_cases z : l = h.nxt
    · rw [if_pos z] at e; cases e
      subst z
      exact ⟨p, rhoN_at, q⟩
    · rw [if_neg z] at e
      obtain ⟨a, r, x⟩ := s.ob l w e
      exact ⟨a, by rw [rhoN_ne z]; exact r, x.le (s.le_lab n) fun v _ y => by rw [upd_ne (ne_of_none y n)]; exact y⟩
  am := fun a q => by
    obtain ⟨u, z⟩ := s.am a q
    exact ⟨u, by rw [upd_ne (ne_of_none z n)]; exact z⟩
  dis := fun a m q => by
    rcases s.own_new m with z | z
    · obtain ⟨u, y⟩ := s.am a q
      rw [z, n] at y; cases y
    · exact s.dis a z q
/-! ### what stands at a value -/
theorem den_asL {x : MV} {xs : List MV} {v : V} (s : SimH T K ρ h H) (e : asL h x = some xs) (d : Den T K ρ (Mu ρ h) H x v) : ∃ a vs, v = .ref a ∧ H a = some (.lst vs) ∧ DenL T K ρ (Mu ρ h) H xs vs := by
  cases x with
  | lst ys =>
    cases e
    cases d with
    | lst n r d => exact ⟨_, _, rfl, r, d⟩
  | ref l =>
    have e1 : (match h.get l with
      | some (.lst xs) => some xs
      | _ => none) = some xs := e
    cases q : h.get l with
    | none => rw [q] at e1; cases e1
    | some o =>
      rw [q] at e1
      cases o with
      | lst ys =>
        cases e1
        cases d with
        | ref r =>
          obtain ⟨a, r', vs, z, dd⟩ := s.ob l _ q
          rw [r] at r'; cases r'
          exact ⟨_, vs, rfl, z, dd⟩
      | _ => cases e1
  | _ => cases e
theorem den_asQ {x : MV} {xs : List MV} {v : V} (s : SimH T K ρ h H) (e : asQ h x = some xs) (d : Den T K ρ (Mu ρ h) H x v) : ∃ a vs, v = .ref a ∧ (SqL K H a vs ∨ SqT K H a vs) ∧ DenL T K ρ (Mu ρ h) H xs vs := by
  unfold asQ at e
  split at e
  · cases e
    cases d with
    | tup n r d => exact ⟨_, _, rfl, .inr (SqT.of r), d⟩
    | tupK r d => exact ⟨_, _, rfl, .inr (r _), d⟩
  · obtain ⟨a, vs, e1, e2, e3⟩ := den_asL s e d
    exact ⟨a, vs, e1, .inl (SqL.of e2), e3⟩
theorem DenL.length {M : Addr → Prop} : ∀ {xs : List MV} {vs : List V}, DenL T K ρ M H xs vs → xs.length = vs.length
  | _, _, .nil => rfl
  | _, _, .cons _ d => congrArg (· + 1) d.length
theorem DenL.nth {M : Addr → Prop} : ∀ {xs : List MV} {vs : List V} {i : Nat} {x : MV}, DenL T K ρ M H xs vs → nth xs i = some x → ∃ v, vs[i]? = some v ∧ Den T K ρ M H x v
  | _, _, _, _, .nil, e => by cases e
  | _, _, 0, _, .cons d r, e => by cases e; exact ⟨_, rfl, d⟩
  | _, _, i + 1, _, .cons d r, e => by
    obtain ⟨v, e1, e2⟩ := DenL.nth (i := i) r e
    exact ⟨v, by simpa using e1, e2⟩
theorem DenL.app {M : Addr → Prop} : ∀ {xs : List MV} {vs : List V} {ys : List MV} {ws : List V}, DenL T K ρ M H xs vs → DenL T K ρ M H ys ws → DenL T K ρ M H (xs ++ ys) (vs ++ ws)
  | _, _, _, _, .nil, e => e
  | _, _, _, _, .cons d r, e => .cons d (DenL.app r e)
/-- a new tuple, a new list of known things -/
theorem post_tup {E : XW} {m : MS} {Q : VK} {xs : List MV} {vs : List V} (s : SimH T K ρ h H) (d : DenL T K ρ (Mu ρ h) H xs vs) (w : postE T K E m ρ h H Q (.ok (.tup xs) h)) : ∀ p, H p = none → Q (.ref p) (upd H p (.tup vs)) := fun p n =>
  w ρ _ _ (Le.neu n) (s.neu n) (.tup (s.nomu n) upd_same (d.le (Le.neu n)))
theorem post_lst {E : XW} {m : MS} {Q : VK} {xs : List MV} {vs : List V} (s : SimH T K ρ h H) (d : DenL T K ρ (Mu ρ h) H xs vs) (w : postE T K E m ρ h H Q (.ok (.lst xs) h)) : ∀ p, H p = none → Q (.ref p) (upd H p (.lst vs)) := fun p n =>
  w ρ _ _ (Le.neu n) (s.neu n) (.lst (s.nomu n) upd_same (d.le (Le.neu n)))
theorem post_lab {E : XW} {m : MS} {Q : VK} {xs : List MV} {vs : List V} (s : SimH T K ρ h H) (d : DenL T K ρ (Mu ρ h) H xs vs) (w : postE T K E m ρ h H Q (.ok (.ref h.nxt) (h.new (.lst xs)))) : ∀ p, H p = none → Q (.ref p) (upd H p (.lst vs)) := fun p n =>
  w _ _ _ (s.le_lab n) (s.lab n ⟨vs, upd_same, d.le (s.le_lab n)⟩) (.ref rhoN_at)
end
end
end
end WK
set_option Elab.async false
set_option linter.all false
set_option maxRecDepth 100000
/-! operations by values -/
namespace WK
noncomputable section
open PySem L2
section
variable {T : Tb} {X : Cx} {E : XW}
def leB (n : Nat) (m : Nat) : Bool := Nat.ble n m
theorem leB_ok {n m : Nat} (h : leB n m = true) : n ≤ m := Nat.le_of_ble_eq_true h
def ifT {α : Type} (b : Bool) (t : Tr α) : Tr α := Bool.rec (motive := fun _ => Tr α) .bad t b
theorem ifT_wp {α : Type} {b : Bool} {t : Tr α} {Q : α → Prop} (h : (ifT b t).wp Q) : b = true ∧ t.wp Q := by
  cases b with
  | true => exact ⟨rfl, h⟩
  | false => exact h.elim
/-- a new list: one that stays as it is, or one that may change -/
def newL (m : Bool) (xs : List MV) (h : MH) : Tr ER := match m with
  | true => okE (.ref h.nxt) (h.new (.lst xs))
  | false => okE (.lst xs) h
theorem newL_ok {m : Bool} {K : PySem.W.Frag} {ρ : Rho} {h : MH} {H : Hp} {ms : MS} {Q : VK} {xs : List MV} {vs : List V} (s : SimH T K ρ h H) (d : DenL T K ρ (Mu ρ h) H xs vs) (w : (newL m xs h).wp (postE T K E ms ρ h H Q)) : ∀ p, H p = none → Q (.ref p) (upd H p (.lst vs)) := by
  cases m with
  | true => exact post_lab s d w
  | false => exact post_lst s d w
def ok1 (v : MV) (h : MH) : Tr ER := okE v h
theorem post_int {K : PySem.W.Frag} {ρ : Rho} {h : MH} {H : Hp} {m : MS} {Q : VK} {i : Int} (s : SimH T K ρ h H) (w : postE T K E m ρ h H Q (.ok (.int i) h)) : Q (.int i) H := w ρ H _ Le.refl s (.int _)
theorem post_bl {K : PySem.W.Frag} {ρ : Rho} {h : MH} {H : Hp} {m : MS} {Q : VK} {i : Bool} (s : SimH T K ρ h H) (w : postE T K E m ρ h H Q (.ok (.bl i) h)) : Q (.bl i) H := w ρ H _ Le.refl s (.bl _)
theorem post_str {K : PySem.W.Frag} {ρ : Rho} {h : MH} {H : Hp} {m : MS} {Q : VK} {i : Str} (s : SimH T K ρ h H) (w : postE T K E m ρ h H Q (.ok (.str i) h)) : Q (.str i) H := w ρ H _ Le.refl s (.str _)
theorem post_den {K : PySem.W.Frag} {ρ : Rho} {h : MH} {H : Hp} {m : MS} {Q : VK} {x : MV} {v : V} (s : SimH T K ρ h H) (d : Den T K ρ (Mu ρ h) H x v) (w : postE T K E m ρ h H Q (.ok x h)) : Q v H := w ρ H _ Le.refl s d

/-! ### + - * // % ** -/
def opAdd (m : Bool) (x y : MV) (h : MH) : Tr ER := match x, y with
  | .int i, .int j => okE (.int (i + j)) h
  | .str a, .str b => ifT (leB (a.length + b.length) sizeLine) (okE (.str (a ++ b)) h)
  | .tup xs, .tup ys => ifT (leB (xs.length + ys.length) sizeLine) (okE (.tup (xs ++ ys)) h)
  | x, y => match asL h x, asL h y with
    | some xs, some ys => ifT (leB (xs.length + ys.length) sizeLine) (newL m (xs ++ ys) h)
    | _, _ => .bad
def rAddA (K : PySem.W.Frag) : R2 := fun x y H Q => rI0 (fun i j => .int (i + j)) x y H Q ∨ (∃ i j, x = .str i ∧ y = .str j ∧ i.length + j.length ≤ sizeLine ∧ Q (.str (i ++ j)) H) ∨ rCatA K x y H Q ∨ rCat x y H Q
theorem op_addA : OpR X (binaryOp .Add) (rAddA X.K) := op_add.or (op_add_str.or (op_catA.or op_cat))
theorem den_tup {K : PySem.W.Frag} {ρ : Rho} {M : Addr → Prop} {H : Hp} {xs : List MV} {v : V} (d : Den T K ρ M H (.tup xs) v) : ∃ a vs, v = .ref a ∧ SqT K H a vs ∧ DenL T K ρ M H xs vs := by
  cases d with
  | tup n r d => exact ⟨_, _, rfl, SqT.of r, d⟩
  | tupK r d => exact ⟨_, _, rfl, r _, d⟩
theorem DenL.nilV {K : PySem.W.Frag} {ρ : Rho} {M : Addr → Prop} {H : Hp} {xs : List MV} {vs : List V} (d : DenL T K ρ M H xs vs) : vs = [] ↔ xs = [] := by
  cases d <;> simp
theorem opAdd_ok (m : Bool) : OpS T X (rAddA X.K) (opAdd m) := fun ρ h H x y v u E ms Q s dx dy w => by
  unfold opAdd at w
  split at w
  · cases dx; cases dy
    exact .inl ⟨_, _, rfl, rfl, post_int s w⟩
  · obtain ⟨c, w⟩ := ifT_wp w
    cases dx; cases dy
    exact .inr (.inl ⟨_, _, rfl, rfl, leB_ok c, post_str s w⟩)
  · obtain ⟨c, w⟩ := ifT_wp w
    have dx' := dx
    have dy' := dy
    obtain ⟨a, vs, rfl, e1, d1⟩ := den_tup dx
    obtain ⟨b, ws, rfl, e2, d2⟩ := den_tup dy
    refine .inr (.inr (.inl ⟨a, b, vs, ws, rfl, rfl, e1, e2, by rw [← d1.length, ← d2.length]; exact leB_ok c, fun z => ?_, fun _ z => ?_, fun _ _ => ?_⟩))
    · have z' := d1.nilV.mp z
      subst z'
      exact post_den s dy' w
    · have z' := d2.nilV.mp z
      subst z'
      rw [List.append_nil] at w
      exact post_den s dx' w
    · exact post_tup s (d1.app d2) w
  · split at w
    · rename_i e1 e2
      obtain ⟨c, w⟩ := ifT_wp w
      obtain ⟨a, vs, rfl, r1, d1⟩ := den_asL s e1 dx
      obtain ⟨b, ws, rfl, r2, d2⟩ := den_asL s e2 dy
      exact .inr (.inr (.inr ⟨a, b, vs, ws, rfl, rfl, r1, r2, by rw [← d1.length, ← d2.length]; exact leB_ok c, newL_ok s (d1.app d2) w⟩))
    · exact w.elim
def opSub (x y : MV) (h : MH) : Tr ER := match x, y with
  | .int i, .int j => okE (.int (i - j)) h
  | _, _ => .bad
theorem opSub_ok : OpS T X (rI0 fun i j => .int (i - j)) opSub := fun ρ h H x y v u E ms Q s dx dy w => by
  unfold opSub at w
  split at w
  · cases dx; cases dy
    exact ⟨_, _, rfl, rfl, post_int s w⟩
  · exact w.elim
/-- within -2^64 .. 2^64 -/
def smI (i : Int) : Bool := Nat.ble i.natAbs 18446744073709551615
theorem smI_ok {i : Int} (h : smI i = true) : -(2 ^ 64) < i ∧ i < 2 ^ 64 := by
  have h2 := Nat.le_of_ble_eq_true h
  constructor <;> omega
def repV (k : Nat) (xs : List MV) : List MV := (List.replicate k xs).flatten
def opMul (m : Bool) (x y : MV) (h : MH) : Tr ER := match x, y with
  | .int i, .int j => ifT (smI i || smI j) (okE (.int (i * j)) h)
  | .tup xs, .int k => ifT (leB 1 xs.length && leB xs.length 1000 && decide (2 ≤ k) && decide (k ≤ 1000)) (okE (.tup (repV k.toNat xs)) h)
  | x, .int k => match asL h x with
    | some xs => ifT (decide (-(2 ^ 63) ≤ k) && decide (k < 2 ^ 63) && leB (xs.length * k.toNat) sizeLine) (newL m (repV k.toNat xs) h)
    | none => .bad
  | _, _ => .bad
def rMulA (K : PySem.W.Frag) : R2 := fun x y H Q => rI CMul (fun i j => .int (i * j)) x y H Q ∨ rRepT K x y H Q ∨ rRep x y H Q
theorem op_mulA : OpR X (binaryOp .Mult) (rMulA X.K) := op_mul.or (op_repT.or op_rep)
theorem DenL.rep {K : PySem.W.Frag} {ρ : Rho} {M : Addr → Prop} {H : Hp} {xs : List MV} {vs : List V} (d : DenL T K ρ M H xs vs) : ∀ k : Nat, DenL T K ρ M H (repV k xs) (List.replicate k vs).flatten
  | 0 => .nil
  | k + 1 => by
    show DenL T K ρ M H (List.replicate (k + 1) xs).flatten _
    rw [List.replicate_succ, List.replicate_succ, List.flatten_cons, List.flatten_cons]
    exact d.app (d.rep k)
theorem opMul_ok (m : Bool) : OpS T X (rMulA X.K) (opMul m) := fun ρ h H x y v u E ms Q s dx dy w => by
  unfold opMul at w
  split at w
  · obtain ⟨c, w⟩ := ifT_wp w
    cases dx; cases dy
    refine .inl ⟨_, _, rfl, rfl, ?_, post_int s w⟩
    rw [Bool.or_eq_true] at c
    exact c.imp smI_ok smI_ok
  · obtain ⟨c, w⟩ := ifT_wp w
    obtain ⟨a, vs, rfl, e1, d1⟩ := den_tup dx
    cases dy
    simp only [Bool.and_eq_true, decide_eq_true_eq] at c
    obtain ⟨⟨⟨c1, c2⟩, c3⟩, c4⟩ := c
    have l1 := leB_ok c1
    have l2 := leB_ok c2
    rw [d1.length] at l1 l2
    refine .inr (.inl ⟨a, _, vs, rfl, rfl, e1, fun z => by rw [z] at l1; simp at l1, c3, c4, l2, post_tup s (d1.rep _) w⟩)
  · split at w
    · rename_i e1
      obtain ⟨c, w⟩ := ifT_wp w
      obtain ⟨a, vs, rfl, r1, d1⟩ := den_asL s e1 dx
      cases dy
      simp only [Bool.and_eq_true, decide_eq_true_eq] at c
      obtain ⟨⟨c1, c2⟩, c3⟩ := c
      exact .inr (.inr ⟨a, _, vs, rfl, rfl, r1, c1, c2, by rw [← d1.length]; exact leB_ok c3, newL_ok s (d1.rep _) w⟩)
    · exact w.elim
  · exact w.elim
def opFdiv (x y : MV) (h : MH) : Tr ER := match x, y with
  | .int i, .int j => ifT (decide (j ≠ 0) && decide (j.natAbs < 1073741824)) (okE (.int (i.fdiv j)) h)
  | _, _ => .bad
theorem opFdiv_ok : OpS T X (rI CDivN fun i j => .int (i.fdiv j)) opFdiv := fun ρ h H x y v u E ms Q s dx dy w => by
  unfold opFdiv at w
  split at w
  · obtain ⟨c, w⟩ := ifT_wp w
    cases dx; cases dy
    simp only [Bool.and_eq_true, decide_eq_true_eq] at c
    exact ⟨_, _, rfl, rfl, c, post_int s w⟩
  · exact w.elim
def opMod (x y : MV) (h : MH) : Tr ER := match x, y with
  | .int i, .int j => ifT (decide (j ≠ 0)) (okE (.int (i.fmod j)) h)
  | _, _ => .bad
theorem opMod_ok : OpS T X (rI (fun _ j => j ≠ 0) fun i j => .int (i.fmod j)) opMod := fun ρ h H x y v u E ms Q s dx dy w => by
  unfold opMod at w
  split at w
  · obtain ⟨c, w⟩ := ifT_wp w
    cases dx; cases dy
    exact ⟨_, _, rfl, rfl, of_decide_eq_true c, post_int s w⟩
  · exact w.elim
def opPow (x y : MV) (h : MH) : Tr ER := match x, y with
  | .int i, .int j => ifT (decide (0 ≤ j) && decide (j ≤ 1000000) && decide (i.natAbs < 2 ^ 64)) (okE (.int (i ^ j.toNat)) h)
  | _, _ => .bad
theorem opPow_ok : OpS T X (rI CPow fun i j => .int (i ^ j.toNat)) opPow := fun ρ h H x y v u E ms Q s dx dy w => by
  unfold opPow at w
  split at w
  · obtain ⟨c, w⟩ := ifT_wp w
    cases dx; cases dy
    simp only [Bool.and_eq_true, decide_eq_true_eq] at c
    exact ⟨_, _, rfl, rfl, ⟨c.1.1, c.1.2, c.2⟩, post_int s w⟩
  · exact w.elim

/-! ### comparisons -/
def scM : MV → Bool
  | .non => true | .bl _ => true | .int _ => true | .str _ => true
  | _ => false
/-- a scalar as the layer has it -/
def scV : MV → V
  | .bl b => .bl b | .int i => .int i | .str x => .str x
  | _ => .non
theorem den_sc {K : PySem.W.Frag} {ρ : Rho} {M : Addr → Prop} {H : Hp} {x : MV} {v : V} (c : scM x = true) (d : Den T K ρ M H x v) : v = scV x ∧ flatV v = true := by
  cases d <;> first | exact ⟨rfl, rfl⟩ | cases c
mutual
def toPD (h : MH) : Nat → MV → Option PyData
  | 0, _ => none
  | n + 1, x => match x with
    | .non => some .none
    | .bl b => some (.bool b)
    | .int i => some (.int i)
    | .str x => some (.str x)
    | .tup xs => (toPDs h n xs).map .tuple
    | x => match asL h x with
      | some xs => (toPDs h n xs).map .list
      | none => none
def toPDs (h : MH) : Nat → List MV → Option (List PyData)
  | 0, _ => none
  | _ + 1, [] => some []
  | n + 1, x :: r => match toPD h n x, toPDs h n r with
    | some d, some ds => some (d :: ds)
    | _, _ => none
end
mutual
theorem den_PD {K : PySem.W.Frag} {ρ : Rho} {h : MH} {H : Hp} (s : SimH T K ρ h H) : ∀ {n : Nat} {x : MV} {v : V} {d : PyData}, toPD h n x = some d → Den T K ρ (Mu ρ h) H x v → Dp K H v d
  | 0, _, _, _, e, _ => by cases e
  | n + 1, x, v, d, e, q => by
    unfold toPD at e
    split at e
    · cases e; cases q; exact .non
    · cases e; cases q; exact .bl _
    · cases e; cases q; exact .int _
    · cases e; cases q; exact .str _
    · obtain ⟨ds, e1, rfl⟩ := Option.map_eq_some_iff.mp e
      obtain ⟨a, vs, rfl, r, dd⟩ := den_tup q
      exact .tup r (den_PDs s e1 dd)
    · split at e
      · rename_i xs e0
        obtain ⟨ds, e1, rfl⟩ := Option.map_eq_some_iff.mp e
        obtain ⟨a, vs, rfl, r, dd⟩ := den_asL s e0 q
        exact .lst (SqL.of r) (den_PDs s e1 dd)
      · cases e
theorem den_PDs {K : PySem.W.Frag} {ρ : Rho} {h : MH} {H : Hp} (s : SimH T K ρ h H) : ∀ {n : Nat} {x : List MV} {v : List V} {d : List PyData}, toPDs h n x = some d → DenL T K ρ (Mu ρ h) H x v → DpAll K H v d
  | 0, _, _, _, e, _ => by cases e
  | n + 1, [], v, d, e, q => by
    cases e; cases q; exact .nil
  | n + 1, x :: r, v, d, e, q => by
    unfold toPDs at e
    cases q with
    | cons q1 q2 =>
      split at e
      · rename_i e1 e2
        cases e
        exact .cons (den_PD s e1 q1) (den_PDs s e2 q2)
      · cases e
end
def pdN : Nat := 100000
def shB (d : PyData) : Bool := SeqAt.shaped d
/-- == of data -/
def eqD (h : MH) (x y : MV) : Option Bool := match x, y with
  | .int i, .int j => some (decide (i = j))
  | .str a, .str b => some (decide (a = b))
  | .ati a, .ati b => match Nat.beq a b with
    | true => some true
    | false => none
  | .ats a, .ats b => match Nat.beq a b with
    | true => some true
    | false => none
  | x, y => match toPD h pdN x, toPD h pdN y with
    | some d, some e => match shB d && shB e with
      | true => some (PyData.eqv d e)
      | false => none
    | _, _ => none
def bO (o : Option Bool) (h : MH) : Tr ER := match o with
  | some b => okE (.bl b) h
  | none => .bad
theorem bO_wp {o : Option Bool} {h : MH} {Q : ER → Prop} (w : (bO o h).wp Q) : ∃ b, o = some b ∧ Q (.ok (.bl b) h) := by
  cases o with
  | some b => exact ⟨b, rfl, w⟩
  | none => exact w.elim
abbrev CF := MV → MV → MH → Option Bool
def cOp (c : CF) (x y : MV) (h : MH) : Tr ER := bO (c x y h) h
def cEq : CF := fun x y h => eqD h x y
def cNe : CF := fun x y h => (eqD h x y).map not
def rEqA (K : PySem.W.Frag) : R2 := fun x y H Q => rEq x y H Q ∨ rEqD K x y H Q
def rNeA (K : PySem.W.Frag) : R2 := fun x y H Q => rNe x y H Q ∨ rNeD K x y H Q
theorem op_eqA (hu : X.A.units + 64 < cLine) : OpR X (compareOp .Eq) (rEqA X.K) := op_eq.or (op_eqD hu)
theorem op_neA (hu : X.A.units + 64 < cLine) : OpR X (compareOp .NotEq) (rNeA X.K) := op_ne.or (op_neD hu)
theorem cEq_ok : OpS T X (rEqA X.K) (cOp cEq) := fun ρ h H x y v u E ms Q s dx dy w => by
  obtain ⟨b, e, w⟩ := bO_wp w
  have w1 : Q (.bl b) H := post_bl s w
  unfold cEq eqD at e
  split at e
  · cases e; cases dx; cases dy
    refine .inl ⟨rfl, ?_⟩
    simpa using w1
  · cases e; cases dx; cases dy
    refine .inl ⟨rfl, ?_⟩
    simpa using w1
  · split at e
    · rename_i c
      have c' := Nat.eq_of_beq_eq_true c
      subst c'
      cases e; cases dx; cases dy
      rename_i r1 _ r2
      rw [r1] at r2; cases r2
      exact .inl ⟨rfl, by simpa using w1⟩
    · cases e
  · split at e
    · rename_i c
      have c' := Nat.eq_of_beq_eq_true c
      subst c'
      cases e; cases dx; cases dy
      rename_i r1 _ _ r2
      rw [r1] at r2; cases r2
      exact .inl ⟨rfl, by simpa using w1⟩
    · cases e
  · split at e
    · rename_i d1 d2 e1 e2
      split at e
      · rename_i c
        cases e
        obtain ⟨c1, c2⟩ := Bool.and_eq_true_iff.mp c
        exact .inr ⟨d1, d2, den_PD s e1 dx, den_PD s e2 dy, c1, c2, w1⟩
      · cases e
    · cases e
theorem cNe_ok : OpS T X (rNeA X.K) (cOp cNe) := fun ρ h H x y v u E ms Q s dx dy w => by
  obtain ⟨b', e, w⟩ := bO_wp w
  obtain ⟨b, e2, rfl⟩ := Option.map_eq_some_iff.mp e
  clear e
  have e := e2
  clear e2
  have w1 : Q (.bl (!b)) H := post_bl s w
  unfold eqD at e
  split at e
  · cases e; cases dx; cases dy
    refine .inl ⟨rfl, ?_⟩
    simpa using w1
  · cases e; cases dx; cases dy
    refine .inl ⟨rfl, ?_⟩
    simpa using w1
  · split at e
    · rename_i c
      have c' := Nat.eq_of_beq_eq_true c
      subst c'
      cases e; cases dx; cases dy
      rename_i r1 _ r2
      rw [r1] at r2; cases r2
      exact .inl ⟨rfl, by simpa using w1⟩
    · cases e
  · split at e
    · rename_i c
      have c' := Nat.eq_of_beq_eq_true c
      subst c'
      cases e; cases dx; cases dy
      rename_i r1 _ _ r2
      rw [r1] at r2; cases r2
      exact .inl ⟨rfl, by simpa using w1⟩
    · cases e
  · split at e
    · rename_i d1 d2 e1 e2
      split at e
      · rename_i c
        cases e
        obtain ⟨c1, c2⟩ := Bool.and_eq_true_iff.mp c
        exact .inr ⟨d1, d2, den_PD s e1 dx, den_PD s e2 dy, c1, c2, w1⟩
      · cases e
    · cases e
/-- a tuple's ints -/
def intsM : List MV → Option (List Int)
  | [] => some []
  | .int i :: r => match intsM r with
    | some is => some (i :: is)
    | none => none
  | _ => none
theorem intsM_ok {K : PySem.W.Frag} {ρ : Rho} {M : Addr → Prop} {H : Hp} : ∀ {xs : List MV} {vs : List V} {ns : List Int}, intsM xs = some ns → DenL T K ρ M H xs vs → vs = ns.map V.int
  | [], _, _, e, d => by cases e; cases d; rfl
  | .int i :: r, _, _, e, d => by
    have e1 : (match intsM r with
      | some is => some (i :: is)
      | none => none) = some _ := e
    cases q : intsM r with
    | none => rw [q] at e1; cases e1
    | some is =>
      rw [q] at e1; cases e1
      cases d with
      | cons d1 d2 => cases d1; rw [intsM_ok q d2]; rfl
def cInt (p : Int → Int → Bool) : CF := fun x y _ => match x, y with
  | .int i, .int j => some (p i j)
  | _, _ => none
theorem cInt_ok (p : Int → Int → Bool) : OpS T X (rI0 fun i j => .bl (p i j)) (cOp (cInt p)) := fun ρ h H x y v u E ms Q s dx dy w => by
  obtain ⟨b, e, w⟩ := bO_wp w
  unfold cInt at e
  split at e
  · cases e; cases dx; cases dy
    exact ⟨_, _, rfl, rfl, post_bl s w⟩
  · cases e
def cLt : CF := fun x y _ => match x, y with
  | .int i, .int j => some (decide (i < j))
  | .tup xs, .tup ys => match intsM xs, intsM ys with
    | some ns, some ms => some (HT.lexLt ns ms)
    | _, _ => none
  | _, _ => none
def rLtA (K : PySem.W.Frag) : R2 := fun x y H Q => rI0 (fun i j => .bl (decide (i < j))) x y H Q ∨ rLtT K x y H Q
theorem op_ltA (hu : X.A.units < cLine) : OpR X (compareOp .Lt) (rLtA X.K) := op_lt.or (op_ltT hu)
theorem cLt_ok : OpS T X (rLtA X.K) (cOp cLt) := fun ρ h H x y v u E ms Q s dx dy w => by
  obtain ⟨b, e, w⟩ := bO_wp w
  unfold cLt at e
  split at e
  · cases e; cases dx; cases dy
    exact .inl ⟨_, _, rfl, rfl, post_bl s w⟩
  · split at e
    · rename_i ns ms e1 e2
      cases e
      obtain ⟨a, vs, rfl, r1, d1⟩ := den_tup dx
      obtain ⟨b, ws, rfl, r2, d2⟩ := den_tup dy
      rw [intsM_ok e1 d1] at r1
      rw [intsM_ok e2 d2] at r2
      exact .inr ⟨a, b, ns, ms, rfl, rfl, r1, r2, post_bl s w⟩
    · cases e
  · cases e
/-- is None, is not None -/
def isNon : MV → Bool
  | .non => true
  | _ => false
theorem isNon_ok {K : PySem.W.Frag} {ρ : Rho} {M : Addr → Prop} {H : Hp} {x : MV} {v : V} (d : Den T K ρ M H x v) : decide (v = .non) = isNon x := by
  cases d <;> rfl
def cIsN : CF := fun x y _ => match y with
  | .non => some (isNon x)
  | _ => none
def cNotN : CF := fun x y _ => match y with
  | .non => some (!isNon x)
  | _ => none
theorem cIsN_ok : OpS T X (fun x y H Q => y = .non ∧ Q (.bl (decide (x = .non))) H) (cOp cIsN) := fun ρ h H x y v u E ms Q s dx dy w => by
  obtain ⟨b, e, w⟩ := bO_wp w
  unfold cIsN at e
  split at e
  · cases e; cases dy
    refine ⟨rfl, ?_⟩
    rw [isNon_ok dx]
    exact post_bl s w
  · cases e
theorem cNotN_ok : OpS T X (fun x y H Q => y = .non ∧ Q (.bl (!decide (x = .non))) H) (cOp cNotN) := fun ρ h H x y v u E ms Q s dx dy w => by
  obtain ⟨b, e, w⟩ := bO_wp w
  unfold cNotN at e
  split at e
  · cases e; cases dy
    refine ⟨rfl, ?_⟩
    rw [isNon_ok dx]
    exact post_bl s w
  · cases e
/-! ### in, not in -/
def inM (x : MV) (ys : List MV) : Bool := ys.any fun y => L2.eqV (scV y) (scV x)
def cIn : CF := fun x y h => match y with
  | .str z => match x with
    | .str ⟨⟨[c]⟩⟩ => some (decide (c ∈ z.cps.toList))
    | _ => none
  | y => match asQ h y with
    | none => none
    | some ys => match scM x && ys.all scM with
      | true => some (inM x ys)
      | false => match y with
        | .tup _ => none
        | y => match toPD h pdN x, toPD h pdN y with
          | some d, some (.list ds) => match shB d && shB (.list ds) with
            | true => some (ds.any fun z => PyData.eqv z d)
            | false => none
          | _, _ => none
def cNi : CF := fun x y h => (cIn x y h).map not
def rInA (K : PySem.W.Frag) : R2 := fun x y H Q => (∃ (c : Nat) (z : Str), x = .str ⟨#[c]⟩ ∧ y = .str z ∧ Q (.bl (decide (c ∈ z.cps.toList))) H) ∨ rIn K false x y H Q ∨ rInD K x y H Q
def rNiA (K : PySem.W.Frag) : R2 := fun x y H Q => (∃ (c : Nat) (z : Str), x = .str ⟨#[c]⟩ ∧ y = .str z ∧ Q (.bl (!decide (c ∈ z.cps.toList))) H) ∨ rIn K true x y H Q ∨ rNotInD K x y H Q
theorem op_inA (hu : X.A.units + 65 < cLine) : OpR X (compareOp .In) (rInA X.K) := op_in_sign.or (op_in_seq.or (op_inD hu))
theorem op_niA (hu : X.A.units + 65 < cLine) : OpR X (compareOp .NotIn) (rNiA X.K) := op_notIn_sign.or (op_notIn_seq.or (op_notInD hu))
theorem den_scs {K : PySem.W.Frag} {ρ : Rho} {M : Addr → Prop} {H : Hp} : ∀ {xs : List MV} {vs : List V}, xs.all scM = true → DenL T K ρ M H xs vs → vs = xs.map scV ∧ vs.all flatV = true
  | [], _, _, d => by cases d; exact ⟨rfl, rfl⟩
  | x :: r, _, e, d => by
    cases d with
    | cons d1 d2 =>
      obtain ⟨e1, e2⟩ := Bool.and_eq_true_iff.mp (show (scM x && r.all scM) = true from e)
      obtain ⟨q1, q2⟩ := den_sc e1 d1
      obtain ⟨q3, q4⟩ := den_scs e2 d2
      refine ⟨by rw [q1, q3]; rfl, ?_⟩
      show (flatV _ && List.all _ flatV) = true
      rw [q2, q4]; rfl
theorem inM_ok {x : MV} {ys : List MV} : inV (scV x) (ys.map scV) = inM x ys := by
  unfold inV inM
  rw [List.any_map]
  rfl
/-- what the two roads of 'in' say -/
theorem cIn_says {K : PySem.W.Frag} {ρ : Rho} {h : MH} {H : Hp} {x y : MV} {v u : V} {b : Bool} (s : SimH T K ρ h H) (dx : Den T K ρ (Mu ρ h) H x v) (dy : Den T K ρ (Mu ρ h) H y u) (e : cIn x y h = some b) :
    (∃ (c : Nat) (z : Str), v = .str ⟨#[c]⟩ ∧ u = .str z ∧ b = decide (c ∈ z.cps.toList)) ∨
    (∃ p xs, u = .ref p ∧ (SqL K H p xs ∨ SqT K H p xs) ∧ flatV v = true ∧ xs.all flatV = true ∧ b = inV v xs) ∨
    (∃ d ds, Dp K H v d ∧ Dp K H u (.list ds) ∧ SeqAt.shaped d = true ∧ SeqAt.shaped (.list ds) = true ∧ b = ds.any fun z => PyData.eqv z d) := by
  unfold cIn at e
  split at e
  · split at e
    · cases e; cases dx; cases dy
      exact .inl ⟨_, _, rfl, rfl, rfl⟩
    · cases e
  · split at e
    · cases e
    · rename_i ys e1
      obtain ⟨a, vs, rfl, r, d⟩ := den_asQ s e1 dy
      split at e
      · rename_i c
        obtain ⟨c1, c2⟩ := Bool.and_eq_true_iff.mp c
        cases e
        obtain ⟨q1, q2⟩ := den_sc c1 dx
        obtain ⟨q3, q4⟩ := den_scs c2 d
        refine .inr (.inl ⟨a, vs, rfl, r, q2, q4, ?_⟩)
        rw [q1, q3, inM_ok]
      · split at e
        · cases e
        · split at e
          · rename_i d1 ds e2 e3
            split at e
            · rename_i c
              obtain ⟨c1, c2⟩ := Bool.and_eq_true_iff.mp c
              cases e
              exact .inr (.inr ⟨d1, ds, den_PD s e2 dx, den_PD s e3 dy, c1, c2, rfl⟩)
            · cases e
          · cases e
theorem cIn_ok : OpS T X (rInA X.K) (cOp cIn) := fun ρ h H x y v u E ms Q s dx dy w => by
  obtain ⟨b, e, w⟩ := bO_wp w
  have w1 : Q (.bl b) H := post_bl s w
  rcases cIn_says s dx dy e with ⟨c, z, e1, e2, e3⟩ | ⟨p, xs, e1, e2, e3, e4, e5⟩ | ⟨d, ds, e1, e2, e3, e4, e5⟩
  · exact .inl ⟨c, z, e1, e2, by rw [← e3]; exact w1⟩
  · exact .inr (.inl ⟨p, xs, e1, e2, e3, e4, by rw [if_neg Bool.false_ne_true, ← e5]; exact w1⟩)
  · exact .inr (.inr ⟨d, ds, e1, e2, e3, e4, by rw [← e5]; exact w1⟩)
theorem cNi_ok : OpS T X (rNiA X.K) (cOp cNi) := fun ρ h H x y v u E ms Q s dx dy w => by
  obtain ⟨b', e, w⟩ := bO_wp w
  obtain ⟨b, e2, rfl⟩ := Option.map_eq_some_iff.mp e
  clear e
  have e := e2
  clear e2
  have w1 : Q (.bl (!b)) H := post_bl s w
  rcases cIn_says s dx dy e with ⟨c, z, e1, e2, e3⟩ | ⟨p, xs, e1, e2, e3, e4, e5⟩ | ⟨d, ds, e1, e2, e3, e4, e5⟩
  · exact .inl ⟨c, z, e1, e2, by rw [← e3]; exact w1⟩
  · exact .inr (.inl ⟨p, xs, e1, e2, e3, e4, by rw [if_pos rfl, ← e5]; exact w1⟩)
  · exact .inr (.inr ⟨d, ds, e1, e2, e3, e4, by rw [← e5]; exact w1⟩)
end
end
end WK
set_option Elab.async false
set_option linter.all false
set_option maxRecDepth 100000
/-! expressions -/
namespace WK
noncomputable section
open PySem L2
section
variable {T : Tb} {X : Cx} {E : XW}
/-! ### truth -/
def tru (h : MH) : MV → Option Bool
  | .non => some false
  | .bl b => some b
  | .int i => some (i != 0)
  | .str x => match leB x.length sizeLine with
    | true => some ((x.length : Int) != 0)
    | false => none
  | x => match asQ h x with
    | some xs => some (!xs.isEmpty)
    | none => none
/-- what a truth leads to -/
def br {α : Type} (h : MH) (x : MV) (t f : Tr α) : Tr α := match x with
  | .bl b => Bool.rec (motive := fun _ => Tr α) f t b
  | x => match tru h x with
    | some true => t
    | some false => f
    | none => .bad
theorem br_eq {α : Type} (h : MH) (x : MV) (t f : Tr α) : br h x t f = (match tru h x with
    | some true => t
    | some false => f
    | none => .bad) := by
  cases x <;> first | rfl | skip
  rename_i b
  cases b <;> rfl
theorem isEmpty_len {K : PySem.W.Frag} {ρ : Rho} {M : Addr → Prop} {H : Hp} {xs : List MV} {vs : List V} (d : DenL T K ρ M H xs vs) : xs.isEmpty = vs.isEmpty := by
  cases d <;> rfl
theorem tru_ok {K : PySem.W.Frag} {ρ : Rho} {h : MH} {H : Hp} {x : MV} {v : V} {b : Bool} (s : SimH T K ρ h H) (d : Den T K ρ (Mu ρ h) H x v) (e : tru h x = some b) : TruV K v H b := by
  unfold tru at e
  split at e
  · cases e; cases d; rfl
  · cases e; cases d; rfl
  · cases e; cases d; rfl
  · split at e
    · rename_i c
      cases e; cases d
      exact ⟨leB_ok c, rfl⟩
    · cases e
  · split at e
    · rename_i xs e1
      cases e
      obtain ⟨a, vs, rfl, r, d1⟩ := den_asQ s e1 d
      rw [isEmpty_len d1]
      rcases r with r | r
      · exact .inl ⟨vs, r, rfl⟩
      · exact .inr (.inl ⟨vs, r, rfl⟩)
    · cases e
def postT (T : Tb) (K : PySem.W.Frag) (E : XW) (m : MS) (ρ : Rho) (h : MH) (H : Hp) (Q : Bool → Hp → Prop) : ER → Prop
  | .ok x h' => ∃ b, tru h' x = some b ∧ ∀ ρ' H', Le ρ h H ρ' h' H' → SimH T K ρ' h' H' → Q b H'
  | .ex x h' => exP T K E m ρ h H x h'
def tT (T : Tb) (K : PySem.W.Frag) (E : XW) (f : RunE) : TT := fun σ H Q => ∃ ρ m h, SimH T K ρ h H ∧ SimS T K ρ (Mu ρ h) H m σ ∧ (f m h).wp (postT T K E m ρ h H Q)
theorem ptI {X : Cx} {e : Expr} {t t' : TT} (p : PT X e t) (h : ∀ σ H Q, t' σ H Q → t σ H Q) : PT X e t' := ⟨fun pins s σ H Q I q => p.run pins s σ H Q I (h σ H Q q)⟩
theorem pwI {X : Cx} {e : Expr} {t t' : TT} (p : PW X e t) (h : ∀ σ H Q, t' σ H Q → t σ H Q) : PW X e t' := ⟨fun wh pins s σ H Q I q => p.run wh pins s σ H Q I (h σ H Q q)⟩
/-- an expression, as a value and as a test -/
structure SE (T : Tb) (X : Cx) (E : XW) (e : Expr) (f : RunE) : Prop where
  v : PE X e (tE T X.K E f)
  t : PT X e (tT T X.K E f)
theorem postT_le {K : PySem.W.Frag} {m : MS} {ρ ρ' : Rho} {h h' : MH} {H H' : Hp} {Q : Bool → Hp → Prop} (l : Le ρ h H ρ' h' H') : ∀ r, postT T K E m ρ h H Q r → postT T K E m ρ' h' H' Q r
  | .ok _ _, ⟨b, e, w⟩ => ⟨b, e, fun ρ2 H2 l2 s => w ρ2 H2 (l.trans l2) s⟩
  | .ex _ _, w => exP.le l w
theorem SE.ofV {e : Expr} {f : RunE} (p : PE X e (tE T X.K E f)) (he : ∀ whole, isTrue e X.env whole = (do let v ← whole; standAt e.pos; holding [v] (truthy v))) : SE T X E e f := ⟨p, ptI (pt_truth p he) fun σ H Q ⟨ρ, m, h, s1, s2, w⟩ => ⟨ρ, m, h, s1, s2, Tr.wp_mono w fun r q => by
  cases r with
  | ex x h' => exact q
  | ok x h' =>
    obtain ⟨b, e, q⟩ := q
    exact fun ρ' H' v l s d => ⟨b, tru_ok s d e, q ρ' H' l s⟩⟩⟩
theorem s_con {e : Expr} {x : MV} {v : V} (p : PE X e (tC v)) (d : ∀ ρ M H, Den T X.K ρ M H x v) (he : ∀ whole, isTrue e X.env whole = (do let v ← whole; standAt e.pos; holding [v] (truthy v))) : SE T X E e fun _ h => okE x h := .ofV (e_con p d) he
theorem s_var {i : Nat} {x : Str} {pos : Pos} (hN : X.N[i]? = some x) (hv : Vis X.env.scope x) (hd : (x == ("__debug__" : Str)) = false) (hcd : (x == ("__classdict__" : Str)) = false) : SE T X E (.Name x pos) (runVar i) := .ofV (e_var hN hv hd hcd) fun _ => rfl
theorem s_bin {op : Operator} {a b : Expr} {pos : Pos} {f g : RunE} {o : MV → MV → MH → Tr ER} {r : R2} (hr : OpR X (binaryOp op) r) (ho : OpS T X r o) (ha : SE T X E a f) (hb : SE T X E b g) : SE T X E (.BinOp a op b pos) (run2 f g o) := .ofV (e_bin hr ho ha.v hb.v) fun _ => rfl

/-! ### comparisons -/
/-- a run that gives True or False -/
def IsB (f : RunE) : Prop := ∀ (m : MS) (h : MH) (Q : ER → Prop), (f m h).wp Q → (f m h).wp fun r => Q r ∧ ∀ x h', r = .ok x h' → ∃ b, x = .bl b
theorem t_ofB {f : RunE} {t : TE} (hb : IsB f) (ht : ∀ σ H Q, tE T X.K E f σ H Q → t σ H Q) (σ : St) (H : Hp) (Q : Bool → Hp → Prop) (w : tT T X.K E f σ H Q) : tTest t σ H Q := by
  obtain ⟨ρ, m, h, s1, s2, w⟩ := w
  refine ht σ H _ ⟨ρ, m, h, s1, s2, Tr.wp_mono (hb m h _ w) fun r q => ?_⟩
  obtain ⟨q, q2⟩ := q
  cases r with
  | ex x h' => exact q
  | ok x h' =>
    obtain ⟨b, rfl⟩ := q2 x h' rfl
    obtain ⟨b', e, w3⟩ := q
    cases e
    intro ρ' H' v l s d
    cases d
    exact ⟨b, rfl, w3 ρ' H' l s⟩
theorem isB_bO (o : Option Bool) (h : MH) (Q : ER → Prop) (w : (bO o h).wp Q) : (bO o h).wp fun r => Q r ∧ ∀ x h', r = .ok x h' → ∃ b, x = .bl b := by
  cases o with
  | none => exact w
  | some b => exact ⟨w, fun x h' e => by cases e; exact ⟨b, rfl⟩⟩
theorem isB_ok (b : Bool) (h : MH) (Q : ER → Prop) (w : (okE (.bl b) h).wp Q) : (okE (.bl b) h).wp fun r => Q r ∧ ∀ x h', r = .ok x h' → ∃ b, x = .bl b := ⟨w, fun x h' e => by cases e; exact ⟨b, rfl⟩⟩
theorem isB_ex (x : MV) (h : MH) (Q : ER → Prop) (w : (exE x h).wp Q) : (exE x h).wp fun r => Q r ∧ ∀ x h', r = .ok x h' → ∃ b, x = .bl b := ⟨w, fun x h' e => by cases e⟩
theorem isB_be {t : Tr ER} {f : MV → MH → Tr ER} {Q : ER → Prop} {P : ER → Prop} (w : (t.be f exE).wp Q) (hP : ∀ x h, P (.ex x h)) (hf : ∀ v h, (f v h).wp Q → (f v h).wp fun r => Q r ∧ P r) : (t.be f exE).wp fun r => Q r ∧ P r := by
  refine (Tr.wp_bind _ _ _).mpr (Tr.wp_mono ((Tr.wp_bind _ _ _).mp w) fun r q => ?_)
  cases r with
  | ok v h => exact hf v h q
  | ex x h => exact ⟨q, hP x h⟩
theorem isB_run2 {f g : RunE} {c : CF} : IsB (run2 f g (cOp c)) := fun m h Q w =>
  isB_be w (fun _ _ _ _ e => by cases e) fun x h1 w1 => isB_be w1 (fun _ _ _ _ e => by cases e) fun y h2 w2 => isB_bO _ _ _ w2
theorem s_cmp {op : CmpOp} {a b : Expr} {pos : Pos} {f g : RunE} {c : CF} {r : R2} (hr : OpR X (compareOp op) r) (ho : OpS T X r (cOp c)) (ha : SE T X E a f) (hb : SE T X E b g) (hm : behindInMarks op b = false) : SE T X E (.Compare a [op] [b] pos) (run2 f g (cOp c)) :=
  ⟨peI (pe_cmpR hr ha.v hb.v hm) (t_run2 ho), ptI (pt_cmpR hr ha.v hb.v hm) (t_ofB isB_run2 (t_run2 ho))⟩
/-- a < b < c -/
def runChain (f g k : RunE) (c c' : CF) : RunE := fun m h => (f m h).be (fun x h1 => (g m h1).be (fun y h2 => match c x y h2 with
  | some true => (k m h2).be (fun z h3 => cOp c' y z h3) exE
  | some false => okE (.bl false) h2
  | none => .bad) exE) exE
theorem isB_chain {f g k : RunE} {c c' : CF} : IsB (runChain f g k c c') := fun m h Q w =>
  isB_be w (fun _ _ _ _ e => by cases e) fun x h1 w1 => isB_be w1 (fun _ _ _ _ e => by cases e) fun y h2 w2 => by
    cases e : c x y h2 with
    | none => simp only [e] at w2; exact w2.elim
    | some b =>
      cases b with
      | false => simp only [e] at w2 ⊢; exact isB_ok _ _ _ w2
      | true => simp only [e] at w2 ⊢; exact isB_be w2 (fun _ _ _ _ e => by cases e) fun z h3 w3 => isB_bO _ _ _ w3
theorem OpS.bl {c : CF} {r : R2} (ho : OpS T X r (cOp c)) {ρ : Rho} {h : MH} {H : Hp} {x y : MV} {v u : V} {b : Bool} {E : XW} {m : MS} {Q : VK} (s : SimH T X.K ρ h H) (dx : Den T X.K ρ (Mu ρ h) H x v) (dy : Den T X.K ρ (Mu ρ h) H y u) (e : c x y h = some b) (q : ∀ ρ' H', Le ρ h H ρ' h H' → SimH T X.K ρ' h H' → Q (.bl b) H') : r v u H Q :=
  ho ρ h H x y v u E m Q s dx dy (by
    show (bO _ _).wp _
    rw [e]
    intro ρ' H' v l s d
    cases d
    exact q ρ' H' l s)
theorem t_chain {f g k : RunE} {p p' : CF} {r r' : R2} (ho : OpS T X r (cOp p)) (ho' : OpS T X r' (cOp p')) (σ : St) (H : Hp) (Q : VK) (w : tE T X.K E (runChain f g k p p') σ H Q) : tChain r r' (tE T X.K E f) (tE T X.K E g) (tE T X.K E k) σ H Q := by
  obtain ⟨ρ, m, h, s1, s2, w⟩ := w
  refine ⟨ρ, m, h, s1, s2, Tr.wp_mono (Tr.wp_be w) fun q w1 => ?_⟩
  cases q with
  | ex x h1 => exact w1
  | ok x h1 =>
    intro ρ1 H1 v l1 s1' d1
    refine ⟨ρ1, m, h1, s1', s2.le l1, Tr.wp_mono (Tr.wp_be w1) fun q w2 => ?_⟩
    cases q with
    | ex x h2 => exact exP.le l1 w2
    | ok y h2 =>
      intro ρ2 H2 u l2 s2' d2
      cases e : p x y h2 with
      | none => simp only [e] at w2; exact w2.elim
      | some b =>
        refine ho.bl (E := E) (m := m) s2' (d1.le l2) d2 e fun ρ3 H3 l3 s3' => ⟨b, rfl, ?_⟩
        cases b with
        | false =>
          simp only [e] at w2
          rw [if_neg Bool.false_ne_true]
          exact w2 ρ3 H3 _ ((l1.trans l2).trans l3) s3' (.bl _)
        | true =>
          simp only [e] at w2
          rw [if_pos rfl]
          refine ⟨ρ3, m, h2, s3', s2.le ((l1.trans l2).trans l3), Tr.wp_mono (Tr.wp_be w2) fun q w4 => ?_⟩
          cases q with
          | ex x h3 => exact exP.le ((l1.trans l2).trans l3) w4
          | ok z h3 =>
            intro ρ4 H4 t l4 s4' d4
            exact ho' ρ4 h3 H4 y z u t E m Q s4' ((d2.le l3).le l4) d4 (Tr.wp_mono w4 (postE.le (((l1.trans l2).trans l3).trans l4)))
theorem s_chain {op op' : CmpOp} {a b c : Expr} {pos : Pos} {f g k : RunE} {p p' : CF} {r r' : R2} (hr : OpR X (compareOp op) r) (hr' : OpR X (compareOp op') r') (ho : OpS T X r (cOp p)) (ho' : OpS T X r' (cOp p')) (ha : SE T X E a f) (hb : SE T X E b g) (hc : SE T X E c k)
    (hm : behindInMarks op' c = false) : SE T X E (.Compare a [op, op'] [b, c] pos) (runChain f g k p p') :=
  have hm' : lastMarks [op, op'] [b, c] = false := by with_unfolding_all exact hm
  ⟨peI (pe_chain hr hr' ha.v hb.v hc.v hm') (t_chain ho ho'), ptI (pt_chain hr hr' ha.v hb.v hc.v hm') (t_ofB isB_chain (t_chain ho ho'))⟩

/-! ### and, or, not, if -/
def runNot (f : RunE) : RunE := fun m h => (f m h).be (fun x h1 => bO ((tru h1 x).map not) h1) exE
def runAnd (f g : RunE) : RunE := fun m h => (f m h).be (fun x h1 => br h1 x (g m h1) (okE x h1)) exE
def runOr (f g : RunE) : RunE := fun m h => (f m h).be (fun x h1 => br h1 x (okE x h1) (g m h1)) exE
def runIfE (c f g : RunE) : RunE := fun m h => (c m h).be (fun x h1 => br h1 x (f m h1) (g m h1)) exE
theorem s_not {a : Expr} {pos : Pos} {f : RunE} (ha : SE T X E a f) : SE T X E (.UnaryOp .Not a pos) (runNot f) where
  v := peI (pe_notT ha.v) fun σ H Q ⟨ρ, m, h, s1, s2, w⟩ => ⟨ρ, m, h, s1, s2, Tr.wp_mono (Tr.wp_be w) fun r q => by
    cases r with
    | ex x h1 => exact q
    | ok x h1 =>
      intro ρ1 H1 v l s d
      obtain ⟨b, e, q⟩ := bO_wp q
      obtain ⟨b, e2, rfl⟩ := Option.map_eq_some_iff.mp e
      exact ⟨b, tru_ok s d e2, q ρ1 H1 _ l s (.bl _)⟩⟩
  t := ptI (pt_not ha.t) fun σ H Q ⟨ρ, m, h, s1, s2, w⟩ => ⟨ρ, m, h, s1, s2, Tr.wp_mono (Tr.wp_be w) fun r q => by
    cases r with
    | ex x h1 => exact q
    | ok x h1 =>
      obtain ⟨b, e, b', e', q⟩ := bO_wp q
      obtain ⟨b, e2, rfl⟩ := Option.map_eq_some_iff.mp e
      cases e'
      exact ⟨b, e2, q⟩⟩
/-- a chain of 'and' or 'or' -/
structure SB (T : Tb) (X : Cx) (E : XW) (op : BoolOp) (es : List Expr) (f : RunE) : Prop where
  v : ∀ pos, PE X (.BoolOp op es pos) (tE T X.K E f)
  w : ∀ pos, PW X (.BoolOp op es pos) (tT T X.K E f)
theorem sb_and1 {a : Expr} {f : RunE} (ha : SE T X E a f) : SB T X E .And [a] f := ⟨fun _ => pe_one ha.v, fun _ => pw_and1 ha.t⟩
theorem sb_or1 {a : Expr} {f : RunE} (ha : SE T X E a f) : SB T X E .Or [a] f := ⟨fun _ => pe_one ha.v, fun _ => pw_or1 ha.t⟩
theorem sb_and {a b : Expr} {rest : List Expr} {f g : RunE} (ha : SE T X E a f) (hb : SB T X E .And (b :: rest) g) : SB T X E .And (a :: b :: rest) (runAnd f g) where
  v := fun pos => peI (pe_andT ha.v (hb.v pos)) fun σ H Q ⟨ρ, m, h, s1, s2, w⟩ => ⟨ρ, m, h, s1, s2, Tr.wp_mono (Tr.wp_be w) fun r q => by
    cases r with
    | ex x h1 => exact q
    | ok x h1 =>
      intro ρ1 H1 v l s d
      cases e : tru h1 x with
      | none => simp only [br_eq, e] at q; exact q.elim
      | some b =>
        refine ⟨b, tru_ok s d e, ?_⟩
        cases b with
        | true =>
          simp only [br_eq, e] at q
          rw [if_pos rfl]
          exact ⟨ρ1, m, h1, s, s2.le l, Tr.wp_mono q (postE.le l)⟩
        | false =>
          simp only [br_eq, e] at q
          rw [if_neg Bool.false_ne_true]
          exact q ρ1 H1 _ l s d⟩
  w := fun pos => pwI (pw_and ha.t (hb.w pos)) fun σ H Q ⟨ρ, m, h, s1, s2, w⟩ => ⟨ρ, m, h, s1, s2, Tr.wp_mono (Tr.wp_be w) fun r q => by
    cases r with
    | ex x h1 => exact q
    | ok x h1 =>
      cases e : tru h1 x with
      | none => simp only [br_eq, e] at q; exact q.elim
      | some b =>
        refine ⟨b, e, fun ρ1 H1 l s => ?_⟩
        cases b with
        | true =>
          simp only [br_eq, e] at q
          rw [if_pos rfl]
          exact ⟨ρ1, m, h1, s, s2.le l, Tr.wp_mono q (postT_le l)⟩
        | false =>
          simp only [br_eq, e] at q
          rw [if_neg Bool.false_ne_true]
          obtain ⟨b', e', q⟩ := q
          rw [e] at e'
          cases e'
          exact q ρ1 H1 l s⟩
theorem sb_or {a b : Expr} {rest : List Expr} {f g : RunE} (ha : SE T X E a f) (hb : SB T X E .Or (b :: rest) g) : SB T X E .Or (a :: b :: rest) (runOr f g) where
  v := fun pos => peI (pe_orT ha.v (hb.v pos)) fun σ H Q ⟨ρ, m, h, s1, s2, w⟩ => ⟨ρ, m, h, s1, s2, Tr.wp_mono (Tr.wp_be w) fun r q => by
    cases r with
    | ex x h1 => exact q
    | ok x h1 =>
      intro ρ1 H1 v l s d
      cases e : tru h1 x with
      | none => simp only [br_eq, e] at q; exact q.elim
      | some b =>
        refine ⟨b, tru_ok s d e, ?_⟩
        cases b with
        | true =>
          simp only [br_eq, e] at q
          rw [if_pos rfl]
          exact q ρ1 H1 _ l s d
        | false =>
          simp only [br_eq, e] at q
          rw [if_neg Bool.false_ne_true]
          exact ⟨ρ1, m, h1, s, s2.le l, Tr.wp_mono q (postE.le l)⟩⟩
  w := fun pos => pwI (pw_or ha.t (hb.w pos)) fun σ H Q ⟨ρ, m, h, s1, s2, w⟩ => ⟨ρ, m, h, s1, s2, Tr.wp_mono (Tr.wp_be w) fun r q => by
    cases r with
    | ex x h1 => exact q
    | ok x h1 =>
      cases e : tru h1 x with
      | none => simp only [br_eq, e] at q; exact q.elim
      | some b =>
        refine ⟨b, e, fun ρ1 H1 l s => ?_⟩
        cases b with
        | true =>
          simp only [br_eq, e] at q
          rw [if_pos rfl]
          obtain ⟨b', e', q⟩ := q
          rw [e] at e'
          cases e'
          exact q ρ1 H1 l s
        | false =>
          simp only [br_eq, e] at q
          rw [if_neg Bool.false_ne_true]
          exact ⟨ρ1, m, h1, s, s2.le l, Tr.wp_mono q (postT_le l)⟩⟩
theorem s_bool {op : BoolOp} {es : List Expr} {pos : Pos} {f : RunE} (h : SB T X E op es f) : SE T X E (.BoolOp op es pos) f := ⟨h.v pos, (h.w pos).pt⟩
theorem pt_ifExp {c a b : Expr} {pos : Pos} {tc ta tb : TT} (hc : PT X c tc) (ha : PT X a ta) (hb : PT X b tb) : PT X (.IfExp c a b pos) (fun σ H Q => tc σ H fun d H1 => if d = true then ta σ H1 Q else tb σ H1 Q) := by
  refine ⟨fun pins s σ H Q I h => ?_⟩
  show wpAny _ _ (isTrue c X.env (eval c X.env) >>= fun d => if d = true then isTrue a X.env (eval a X.env) else isTrue b X.env (eval b X.env)) _ _ _
  refine wpAny_bind (thn (hc.run pins s σ H _ I h) fun d s1 ⟨H1, I1, q1⟩ => ?_)
  cases d with
  | true => exact ha.run pins s1 σ H1 Q I1 q1
  | false => exact hb.run pins s1 σ H1 Q I1 q1
theorem s_ifE {c a b : Expr} {pos : Pos} {k f g : RunE} (hc : SE T X E c k) (ha : SE T X E a f) (hb : SE T X E b g) : SE T X E (.IfExp c a b pos) (runIfE k f g) where
  v := peI (pe_ifExp hc.t ha.v hb.v) fun σ H Q ⟨ρ, m, h, s1, s2, w⟩ => ⟨ρ, m, h, s1, s2, Tr.wp_mono (Tr.wp_be w) fun r q => by
    cases r with
    | ex x h1 => exact q
    | ok x h1 =>
      cases e : tru h1 x with
      | none => simp only [br_eq, e] at q; exact q.elim
      | some b =>
        refine ⟨b, e, fun ρ1 H1 l s => ?_⟩
        cases b with
        | true =>
          simp only [br_eq, e] at q
          rw [if_pos rfl]
          exact ⟨ρ1, m, h1, s, s2.le l, Tr.wp_mono q (postE.le l)⟩
        | false =>
          simp only [br_eq, e] at q
          rw [if_neg Bool.false_ne_true]
          exact ⟨ρ1, m, h1, s, s2.le l, Tr.wp_mono q (postE.le l)⟩⟩
  t := ptI (pt_ifExp hc.t ha.t hb.t) fun σ H Q ⟨ρ, m, h, s1, s2, w⟩ => ⟨ρ, m, h, s1, s2, Tr.wp_mono (Tr.wp_be w) fun r q => by
    cases r with
    | ex x h1 => exact q
    | ok x h1 =>
      cases e : tru h1 x with
      | none => simp only [br_eq, e] at q; exact q.elim
      | some b =>
        refine ⟨b, e, fun ρ1 H1 l s => ?_⟩
        cases b with
        | true =>
          simp only [br_eq, e] at q
          rw [if_pos rfl]
          exact ⟨ρ1, m, h1, s, s2.le l, Tr.wp_mono q (postT_le l)⟩
        | false =>
          simp only [br_eq, e] at q
          rw [if_neg Bool.false_ne_true]
          exact ⟨ρ1, m, h1, s, s2.le l, Tr.wp_mono q (postT_le l)⟩⟩
end
end
end WK
set_option Elab.async false
set_option linter.all false
set_option maxRecDepth 100000
/-! arguments, displays, places, slices, built-ins -/
namespace WK
noncomputable section
open PySem L2
abbrev RunL := MS → MH → Tr EL
def postL (T : Tb) (K : PySem.W.Frag) (E : XW) (m : MS) (ρ : Rho) (h : MH) (H : Hp) (Q : List V → Hp → Prop) : EL → Prop
  | .ok x h' => ∀ ρ' H' v, Le ρ h H ρ' h' H' → SimH T K ρ' h' H' → DenL T K ρ' (Mu ρ' h') H' x v → Q v H'
  | .ex x h' => exP T K E m ρ h H x h'
def tA (T : Tb) (K : PySem.W.Frag) (E : XW) (f : RunL) : TA := fun σ H Q => ∃ ρ m h, SimH T K ρ h H ∧ SimS T K ρ (Mu ρ h) H m σ ∧ (f m h).wp (postL T K E m ρ h H Q)
theorem paI {X : Cx} {e : List Expr} {t t' : TA} (p : PA X e t) (h : ∀ σ H Q, t' σ H Q → t σ H Q) : PA X e t' := ⟨fun pos pins s σ H Q I q => p.run pos pins s σ H Q I (h σ H Q q)⟩
def notStar : Expr → Bool
  | .Starred _ _ => false
  | _ => true
theorem star_cons {e : Expr} {es : List Expr} {env : Env} (h : notStar e = true) : starEach (e :: es) env = (false, eval e env) :: starEach es env := by
  cases e <;> first | rfl | cases h
theorem star_all : ∀ {es : List Expr} {env : Env}, es.all notStar = true → (starEach es env).any (·.1) = false
  | [], _, _ => rfl
  | e :: es, env, h => by
    obtain ⟨h1, h2⟩ := Bool.and_eq_true_iff.mp (show (notStar e && es.all notStar) = true from h)
    rw [star_cons h1]
    show (false || (starEach es env).any (·.1)) = false
    rw [star_all h2]; rfl
theorem backTo_any (pos : Pos) (l : List (Bool × Sem Value)) : (backTo pos l).any (·.1) = l.any (·.1) := by
  unfold backTo
  rw [List.any_map]
  rfl
section
variable {T : Tb} {X : Cx} {E : XW}
/-- a run that gives n things -/
def LenR (f : RunL) (n : Nat) : Prop := ∀ (m : MS) (h : MH) (Q : EL → Prop), (f m h).wp Q → (f m h).wp fun r => Q r ∧ ∀ xs h', r = .ok xs h' → xs.length = n
structure SA (T : Tb) (X : Cx) (E : XW) (es : List Expr) (f : RunL) : Prop where
  a : PA X es (tA T X.K E f)
  ns : es.all notStar = true
  n : LenR f es.length
def runNil : RunL := fun _ h => .ret (.ok [] h)
def runCons (f : RunE) (g : RunL) : RunL := fun m h => (f m h).be (fun v h1 => Tr.bl (g m h1) (fun vs h2 => .ret (.ok (v :: vs) h2)) exL) exL
theorem Tr.wp_bl {α : Type} {t : Tr EL} {f : List MV → MH → Tr α} {g : MV → MH → Tr α} {Q : α → Prop} (h : (Tr.bl t f g).wp Q) : t.wp fun r => match r with
    | .ok v h => (f v h).wp Q
    | .ex x h => (g x h).wp Q := by
  refine Tr.wp_mono ((Tr.wp_bind _ _ _).mp h) fun r q => ?_
  cases r <;> exact q
theorem postL_le {K : PySem.W.Frag} {m : MS} {ρ ρ' : Rho} {h h' : MH} {H H' : Hp} {Q : List V → Hp → Prop} (l : Le ρ h H ρ' h' H') : ∀ r, postL T K E m ρ h H Q r → postL T K E m ρ' h' H' Q r
  | .ok _ _, w => fun ρ2 H2 v l2 s d => w ρ2 H2 v (l.trans l2) s d
  | .ex _ _, w => exP.le l w
theorem lenR_nil : LenR runNil 0 := fun m h Q w => ⟨w, fun xs h' e => by cases e; rfl⟩
theorem lenR_cons {f : RunE} {g : RunL} {n : Nat} (hg : LenR g n) : LenR (runCons f g) (n + 1) := fun m h Q w => by
  refine (Tr.wp_bind _ _ _).mpr (Tr.wp_mono ((Tr.wp_bind _ _ _).mp w) fun r q => ?_)
  cases r with
  | ex x h1 => exact ⟨q, fun xs h' e => by cases e⟩
  | ok x h1 =>
    refine (Tr.wp_bind _ _ _).mpr (Tr.wp_mono (hg m h1 _ ((Tr.wp_bind _ _ _).mp q)) fun r q => ?_)
    obtain ⟨q, l⟩ := q
    cases r with
    | ex x h2 => exact ⟨q, fun xs h' e => by cases e⟩
    | ok xs h2 => exact ⟨q, fun ys h' e => by cases e; exact congrArg (· + 1) (l xs h2 rfl)⟩
theorem a_nil : SA T X E [] runNil := ⟨paI pa_nil fun σ H Q ⟨ρ, m, h, s1, s2, w⟩ => w ρ H [] Le.refl s1 .nil, rfl, lenR_nil⟩
theorem a_cons {e : Expr} {es : List Expr} {f : RunE} {g : RunL} (he : SE T X E e f) (hs : SA T X E es g) (hn : notStar e = true) : SA T X E (e :: es) (runCons f g) :=
  ⟨paI (pa_cons he.v hs.a (star_cons hn)) fun σ H Q ⟨ρ, m, h, s1, s2, w⟩ => ⟨ρ, m, h, s1, s2, Tr.wp_mono (Tr.wp_be w) fun r q => by
    cases r with
    | ex x h1 => exact q
    | ok x h1 =>
      intro ρ1 H1 v l s d
      refine ⟨ρ1, m, h1, s, s2.le l, Tr.wp_mono (Tr.wp_bl q) fun r q => ?_⟩
      cases r with
      | ex x h2 => exact exP.le l q
      | ok xs h2 =>
        intro ρ2 H2 vs l2 s' d2
        exact q ρ2 H2 _ (l.trans l2) s' (.cons (d.le l2) d2)⟩, by
    show (notStar e && es.all notStar) = true
    rw [hn, hs.ns]; rfl, lenR_cons hs.n⟩
/-- what follows from the arguments -/
theorem tA_then {f : RunL} {k : List MV → MH → Tr ER} {r : List V → Hp → VK → Prop} (hk : ∀ ρ h H xs vs m E Q, SimH T X.K ρ h H → DenL T X.K ρ (Mu ρ h) H xs vs → (k xs h).wp (postE T X.K E m ρ h H Q) → r vs H Q) (σ : St) (H : Hp) (Q : VK)
    (w : tE T X.K E (fun m h => Tr.bl (f m h) k exE) σ H Q) : tA T X.K E f σ H (fun vs H1 => r vs H1 Q) := by
  obtain ⟨ρ, m, h, s1, s2, w⟩ := w
  refine ⟨ρ, m, h, s1, s2, Tr.wp_mono (Tr.wp_bl w) fun q w1 => ?_⟩
  cases q with
  | ex x h1 => exact w1
  | ok xs h1 => exact fun ρ1 H1 vs l s d => hk ρ1 h1 H1 xs vs m E Q s d (Tr.wp_mono w1 (postE.le l))
def runArgs (f : RunL) (k : List MV → MH → Tr ER) : RunE := fun m h => Tr.bl (f m h) k exE
/-! ### displays -/
def kTup (xs : List MV) (h : MH) : Tr ER := okE (.tup xs) h
def kLst (m : Bool) (xs : List MV) (h : MH) : Tr ER := newL m xs h
/-- what follows from arguments of a known number -/
theorem tA_thenN {es : List Expr} {f : RunL} {k : List MV → MH → Tr ER} {r : List V → Hp → VK → Prop} (ha : SA T X E es f) (hk : ∀ ρ h H xs vs m E Q, xs.length = es.length → SimH T X.K ρ h H → DenL T X.K ρ (Mu ρ h) H xs vs → (k xs h).wp (postE T X.K E m ρ h H Q) → r vs H Q) (σ : St) (H : Hp) (Q : VK)
    (w : tE T X.K E (runArgs f k) σ H Q) : tA T X.K E f σ H (fun vs H1 => r vs H1 Q) := by
  obtain ⟨ρ, m, h, s1, s2, w⟩ := w
  refine ⟨ρ, m, h, s1, s2, Tr.wp_mono (ha.n m h _ (Tr.wp_bl w)) fun q w1 => ?_⟩
  obtain ⟨w1, hl⟩ := w1
  cases q with
  | ex x h1 => exact w1
  | ok xs h1 => exact fun ρ1 H1 vs l s d => hk ρ1 h1 H1 xs vs m E Q (hl xs h1 rfl) s d (Tr.wp_mono w1 (postE.le l))
theorem s_tup {es : List Expr} {x1 : Nat} {pos : Pos} {f : RunL} (ha : SA T X E es f) (hl : leB es.length sizeLine = true) : SE T X E (.Tuple es x1 pos) (runArgs f kTup) := .ofV (peI (pe_tup ha.a) (tA_thenN ha fun ρ h H xs vs m E Q e s d w => by
  exact ⟨by rw [← d.length, e]; exact leB_ok hl, post_tup s d w⟩)) fun _ => rfl
theorem s_lst {es : List Expr} {pos : Pos} {f : RunL} (b : Bool) (ha : SA T X E es f) (hl : leB es.length sizeLine = true) : SE T X E (.List es pos) (runArgs f (kLst b)) := .ofV (peI (pe_lst ha.a) (tA_thenN ha fun ρ h H xs vs m E Q e s d w => by
  exact ⟨by rw [← d.length, e]; exact leB_ok hl, newL_ok s d w⟩)) fun _ => rfl
/-! ### places -/
def plainS : Expr → Bool
  | .Slice _ _ _ _ => false
  | _ => true
theorem plain_ix {b : Expr} (h : plainS b = true) : PlainIx b := fun o i => by
  cases b <;> first | rfl | cases h
def nthR (xs : List MV) (i : Nat) : Option MV := List.rec (motive := fun _ => Nat → Option MV) (fun _ => none) (fun x _ ih i => Nat.rec (motive := fun _ => Option MV) (some x) (fun j _ => ih j) i) xs i
theorem nthR_eq : ∀ (xs : List MV) (i : Nat), nthR xs i = nth xs i
  | [], _ => rfl
  | _ :: _, 0 => rfl
  | _ :: r, i + 1 => nthR_eq r i
theorem nth_lt : ∀ {xs : List MV} {i : Nat} {x : MV}, nth xs i = some x → i < xs.length
  | [], _, _, e => by cases e
  | _ :: _, 0, _, _ => Nat.succ_pos _
  | _ :: r, i + 1, _, e => Nat.succ_lt_succ (nth_lt (xs := r) e)
def atM (xs : List MV) (i : Int) : Option MV := match i with
  | .ofNat j => nthR xs j
  | .negSucc j => match Nat.ble (j + 1) xs.length with
    | true => nthR xs (xs.length - (j + 1))
    | false => none
theorem atM_ix {xs : List MV} {i : Int} {x : MV} (e : atM xs i = some x) : ∃ j, ixN xs.length i = some j ∧ nth xs j = some x := by
  unfold atM at e
  unfold ixN
  split at e
  · rename_i j
    rw [nthR_eq] at e
    have h := nth_lt e
    refine ⟨j, ?_, e⟩
    rw [if_pos (by show (0 : Int) ≤ (j : Int); omega), if_pos (by show (j : Int) < _; omega)]
    rfl
  · rename_i j
    split at e
    · rename_i c
      have c := Nat.le_of_ble_eq_true c
      rw [nthR_eq] at e
      refine ⟨_, ?_, e⟩
      rw [if_neg (by omega), if_pos (by omega)]
      congr 1
      omega
    · cases e
theorem atM_ok {K : PySem.W.Frag} {ρ : Rho} {M : Addr → Prop} {H : Hp} {xs : List MV} {vs : List V} {i : Int} {x : MV} (d : DenL T K ρ M H xs vs) (e : atM xs i = some x) : ∃ v, atI vs i = some v ∧ Den T K ρ M H x v := by
  obtain ⟨j, q, e⟩ := atM_ix e
  obtain ⟨v, e1, e2⟩ := d.nth e
  refine ⟨v, ?_, e2⟩
  unfold atI
  rw [← d.length, q]
  exact e1
def opIx (x i : MV) (h : MH) : Tr ER := match i with
  | .int i => match x with
    | .str z => ifT (leB z.length sizeLine) (match atI z.cps.toList i with
      | some c => okE (.str ⟨#[c]⟩) h
      | none => .bad)
    | x => match asQ h x with
      | some xs => match atM xs i with
        | some v => okE v h
        | none => .bad
      | none => .bad
  | _ => .bad
theorem opIx_ok : OpS T X (rIx X.K) opIx := fun ρ h H x y v u E ms Q s dx dy w => by
  unfold opIx at w
  split at w
  · cases dy
    split at w
    · obtain ⟨c, w⟩ := ifT_wp w
      cases dx
      split at w
      · rename_i e
        exact .inr (.inr ⟨_, _, _, rfl, rfl, leB_ok c, e, post_str s w⟩)
      · exact w.elim
    · split at w
      · rename_i xs e1
        split at w
        · rename_i z e2
          obtain ⟨a, vs, rfl, r, d⟩ := den_asQ s e1 dx
          obtain ⟨v', e3, d3⟩ := atM_ok d e2
          rcases r with r | r
          · exact .inl ⟨a, vs, _, v', rfl, rfl, r, e3, post_den s d3 w⟩
          · exact .inr (.inl ⟨a, vs, _, v', rfl, rfl, r, e3, post_den s d3 w⟩)
        · exact w.elim
      · exact w.elim
  · exact w.elim
theorem s_ix {a b : Expr} {pos : Pos} {f g : RunE} (ha : SE T X E a f) (hb : SE T X E b g) (hp : plainS b = true) : SE T X E (.Subscript a b pos) (run2 f g opIx) := .ofV (peI (pe_ix ix_seq ha.v hb.v (plain_ix hp)) (t_run2 opIx_ok)) fun _ => rfl
/-! ### slices -/
def cutM (xs : List MV) (lo hi : Option Int) : List MV := (xs.drop (HT.sIx xs.length 0 lo)).take (HT.sIx xs.length xs.length hi - HT.sIx xs.length 0 lo)
theorem DenL.drop {K : PySem.W.Frag} {ρ : Rho} {M : Addr → Prop} {H : Hp} : ∀ {xs : List MV} {vs : List V} (n : Nat), DenL T K ρ M H xs vs → DenL T K ρ M H (xs.drop n) (vs.drop n)
  | _, _, 0, d => d
  | _, _, _ + 1, .nil => .nil
  | _, _, n + 1, .cons _ d => DenL.drop n d
theorem DenL.take {K : PySem.W.Frag} {ρ : Rho} {M : Addr → Prop} {H : Hp} : ∀ {xs : List MV} {vs : List V} (n : Nat), DenL T K ρ M H xs vs → DenL T K ρ M H (xs.take n) (vs.take n)
  | _, _, 0, _ => .nil
  | _, _, _ + 1, .nil => .nil
  | _, _, n + 1, .cons d r => .cons d (DenL.take n r)
theorem DenL.cut {K : PySem.W.Frag} {ρ : Rho} {M : Addr → Prop} {H : Hp} {xs : List MV} {vs : List V} {lo hi : Option Int} (d : DenL T K ρ M H xs vs) : DenL T K ρ M H (cutM xs lo hi) (cutV vs lo hi) := by
  unfold cutM cutV
  rw [d.length]
  exact (d.drop _).take _
def opSl (m : Bool) (x : MV) (lo hi : Option Int) (h : MH) : Tr ER := match x with
  | .tup xs => match decide (HT.sIx xs.length 0 lo = 0 ∧ HT.sIx xs.length xs.length hi = xs.length) with
    | true => okE (.tup xs) h
    | false => okE (.tup (cutM xs lo hi)) h
  | x => match asL h x with
    | some xs => newL m (cutM xs lo hi) h
    | none => .bad
def rSlB (K : PySem.W.Frag) : V → Option Int → Option Int → Hp → VK → Prop := fun x lo hi H Q => rSlA K x lo hi H Q ∨ rSlL K x lo hi H Q
theorem sl_B : SlR X (rSlB X.K) := sl_tupA.or sl_list
theorem opSl_ok (m : Bool) : ∀ ρ h H x v lo hi E ms Q, SimH T X.K ρ h H → Den T X.K ρ (Mu ρ h) H x v → (opSl m x lo hi h).wp (postE T X.K E ms ρ h H Q) → rSlB X.K v lo hi H Q := fun ρ h H x v lo hi E ms Q s dx w => by
  unfold opSl at w
  split at w
  · rename_i xs
    have dx' := dx
    obtain ⟨a, vs, rfl, r, d⟩ := den_tup dx
    have el := d.length
    split at w
    · rename_i c
      have c' := of_decide_eq_true c
      rw [el] at c'
      exact .inl ⟨a, vs, rfl, r, fun _ => post_den s dx' w, fun n => absurd c' n⟩
    · rename_i c
      have c' := of_decide_eq_false c
      rw [el] at c'
      exact .inl ⟨a, vs, rfl, r, fun n => absurd n c', fun _ => post_tup s d.cut w⟩
  · split at w
    · rename_i e1
      obtain ⟨a, vs, rfl, r, d⟩ := den_asL s e1 dx
      exact .inr ⟨a, vs, rfl, SqL.of r, newL_ok s d.cut w⟩
    · exact w.elim
/-- a slice's end -/
inductive OR where
  | ok (o : Option Int) (h : MH) | ex (x : MV) (h : MH)
abbrev RunO := MS → MH → Tr OR
def runNoP : RunO := fun _ h => .ret (.ok none h)
def runPt (f : RunE) : RunO := fun m h => (f m h).be (fun x h1 => match x with
  | .int i => .ret (.ok (some i) h1)
  | _ => .bad) fun x h1 => .ret (.ex x h1)
def postO (T : Tb) (K : PySem.W.Frag) (E : XW) (m : MS) (ρ : Rho) (h : MH) (H : Hp) (Q : Option Int → Hp → Prop) : OR → Prop
  | .ok x h' => ∀ ρ' H', Le ρ h H ρ' h' H' → SimH T K ρ' h' H' → Q x H'
  | .ex x h' => exP T K E m ρ h H x h'
def tO (T : Tb) (K : PySem.W.Frag) (E : XW) (f : RunO) : TO := fun σ H Q => ∃ ρ m h, SimH T K ρ h H ∧ SimS T K ρ (Mu ρ h) H m σ ∧ (f m h).wp (postO T K E m ρ h H Q)
def SO (T : Tb) (X : Cx) (E : XW) (e : Option Expr) (f : RunO) : Prop := PO X e (tO T X.K E f)
theorem poI {X : Cx} {e : Option Expr} {t t' : TO} (p : PO X e t) (h : ∀ σ H Q, t' σ H Q → t σ H Q) : PO X e t' := ⟨fun pins s σ H Q I q => p.run pins s σ H Q I (h σ H Q q)⟩
theorem o_none : SO T X E none runNoP := poI po_none fun σ H Q ⟨ρ, m, h, s1, s2, w⟩ => w ρ H Le.refl s1
theorem o_some {e : Expr} {f : RunE} (he : SE T X E e f) : SO T X E (some e) (runPt f) := poI (po_some he.v) fun σ H Q ⟨ρ, m, h, s1, s2, w⟩ => ⟨ρ, m, h, s1, s2, Tr.wp_mono (Tr.wp_be w) fun r q => by
  cases r with
  | ex x h1 => exact q
  | ok x h1 =>
    intro ρ1 H1 v l s d
    cases x <;> first | exact q.elim | skip
    cases d
    exact ⟨_, rfl, q ρ1 H1 l s⟩⟩
def Tr.bo {α : Type} (t : Tr OR) (f : Option Int → MH → Tr α) (g : MV → MH → Tr α) : Tr α := t.bind fun r => match r with
  | .ok v h => f v h
  | .ex x h => g x h
theorem Tr.wp_bo {α : Type} {t : Tr OR} {f : Option Int → MH → Tr α} {g : MV → MH → Tr α} {Q : α → Prop} (h : (Tr.bo t f g).wp Q) : t.wp fun r => match r with
    | .ok v h => (f v h).wp Q
    | .ex x h => (g x h).wp Q := by
  refine Tr.wp_mono ((Tr.wp_bind _ _ _).mp h) fun r q => ?_
  cases r <;> exact q
def runSl (m : Bool) (f : RunE) (lo hi : RunO) : RunE := fun ms h => (f ms h).be (fun x h1 => Tr.bo (lo ms h1) (fun l h2 => Tr.bo (hi ms h2) (fun u h3 => opSl m x l u h3) exE) exE) exE
theorem s_sl (b : Bool) {e : Expr} {lo hi : Option Expr} {pos p2 : Pos} {f : RunE} {fl fh : RunO} (he : SE T X E e f) (hl : SO T X E lo fl) (hh : SO T X E hi fh) : SE T X E (.Subscript e (.Slice lo hi none p2) pos) (runSl b f fl fh) :=
  .ofV (peI (pe_slice sl_B he.v hl hh) fun σ H Q ⟨ρ, m, h, s1, s2, w⟩ => ⟨ρ, m, h, s1, s2, Tr.wp_mono (Tr.wp_be w) fun r q => by
    cases r with
    | ex x h1 => exact q
    | ok x h1 =>
      intro ρ1 H1 v l s d
      refine ⟨ρ1, m, h1, s, s2.le l, Tr.wp_mono (Tr.wp_bo q) fun r q => ?_⟩
      cases r with
      | ex x h2 => exact exP.le l q
      | ok lo' h2 =>
        intro ρ2 H2 l2 s'
        refine ⟨ρ2, m, h2, s', s2.le (l.trans l2), Tr.wp_mono (Tr.wp_bo q) fun r q => ?_⟩
        cases r with
        | ex x h3 => exact exP.le (l.trans l2) q
        | ok hi' h3 =>
          intro ρ3 H3 l3 s''
          exact opSl_ok b ρ3 h3 H3 x v lo' hi' E m Q s'' ((d.le l2).le l3) (Tr.wp_mono q (postE.le ((l.trans l2).trans l3)))⟩) fun _ => rfl
/-- xs[::-1] -/
def opRev (m : Bool) (x : MV) (h : MH) : Tr ER := match asL h x with
  | some xs => newL m xs.reverse h
  | none => .bad
def run1 (f : RunE) (op : MV → MH → Tr ER) : RunE := fun m h => (f m h).be op exE
theorem DenL.rev {K : PySem.W.Frag} {ρ : Rho} {M : Addr → Prop} {H : Hp} : ∀ {xs : List MV} {vs : List V}, DenL T K ρ M H xs vs → DenL T K ρ M H xs.reverse vs.reverse
  | _, _, .nil => .nil
  | _, _, .cons d r => by
    rw [List.reverse_cons, List.reverse_cons]
    exact (DenL.rev r).app (.cons d .nil)
/-- one operand -/
theorem t_run1 {f : RunE} {op : MV → MH → Tr ER} {r : V → Hp → VK → Prop} (ho : ∀ ρ h H x v m E Q, SimH T X.K ρ h H → Den T X.K ρ (Mu ρ h) H x v → (op x h).wp (postE T X.K E m ρ h H Q) → r v H Q) (σ : St) (H : Hp) (Q : VK) (w : tE T X.K E (run1 f op) σ H Q) : tE T X.K E f σ H (fun v H1 => r v H1 Q) := by
  obtain ⟨ρ, m, h, s1, s2, w⟩ := w
  refine ⟨ρ, m, h, s1, s2, Tr.wp_mono (Tr.wp_be w) fun q w1 => ?_⟩
  cases q with
  | ex x h1 => exact w1
  | ok x h1 => exact fun ρ1 H1 v l s d => ho ρ1 h1 H1 x v m E Q s d (Tr.wp_mono w1 (postE.le l))
theorem s_rev (b : Bool) {e : Expr} {k : Nat} {p1 p2 p3 pos : Pos} {f : RunE} (he : SE T X E e f) : SE T X E (.Subscript e (.Slice none none (some (.UnaryOp .USub (.Constant (.int 1) k p1) p2)) p3) pos) (run1 f (opRev b)) :=
  .ofV (peI (pe_revL he.v) (t_run1 fun ρ h H x v m E Q s d w => by
    unfold opRev at w
    split at w
    · rename_i xs e1
      obtain ⟨a, vs, rfl, r, d1⟩ := den_asL s e1 d
      exact ⟨a, vs, rfl, SqL.of r, newL_ok s d1.rev w⟩
    · exact w.elim)) fun _ => rfl
/-- -a -/
def opNeg (x : MV) (h : MH) : Tr ER := match x with
  | .int i => okE (.int (-i)) h
  | _ => .bad
theorem s_neg {a : Expr} {pos : Pos} {f : RunE} (ha : SE T X E a f) : SE T X E (.UnaryOp .USub a pos) (run1 f opNeg) :=
  .ofV (peI (pe_un un_neg ha.v) (t_run1 fun ρ h H x v m E Q s d w => by
    unfold opNeg at w
    split at w
    · cases d
      exact ⟨_, rfl, post_int s w⟩
    · exact w.elim)) fun _ => rfl
end
end
end WK
set_option Elab.async false
set_option linter.all false
set_option maxRecDepth 100000
/-! calls of the text's defs, new instances, attributes -/
namespace WK
noncomputable section
open PySem L2
/-- a raised thing: its class, its own dict -/
def XDen (T : Tb) (K : PySem.W.Frag) (ρ : Rho) (M : Addr → Prop) (H : Hp) (x : MV) (cls : Value) (d : Option Addr) : Prop :=
  ∃ c fs da gs, x = .exc c fs ∧ cls = .ref (cAd T K c) ∧ d = some da ∧ ¬ M da ∧ H da = some (.xd gs) ∧ DenF T K ρ M H fs gs
/-- what is wished of a raised thing -/
def wx (T : Tb) (K : PySem.W.Frag) (E : XW) : WX := fun cls d σ H => ∃ ρ m h x, SimH T K ρ h H ∧ SimS T K ρ (Mu ρ h) H m σ ∧ XDen T K ρ (Mu ρ h) H x cls d ∧ E x m ρ h H
/-- a def's promise by its run -/
def postF (T : Tb) (K : PySem.W.Frag) (ρ : Rho) (h : MH) (H : Hp) (Q : VK) (E : XK) : ER → Prop
  | .ok x h' => ∀ ρ' H' v, Le ρ h H ρ' h' H' → SimH T K ρ' h' H' → Den T K ρ' (Mu ρ' h') H' x v → Q v H'
  | .ex x h' => ∀ ρ' H' cls d, Le ρ h H ρ' h' H' → SimH T K ρ' h' H' → XDen T K ρ' (Mu ρ' h') H' x cls d → E cls d H'
def spF (T : Tb) (K : PySem.W.Frag) (n : Nat) (run : List MV → MH → Tr ER) : Sp := fun vs H Q E => vs.length = n ∧ ∃ ρ xs h, SimH T K ρ h H ∧ DenL T K ρ (Mu ρ h) H xs vs ∧ (run xs h).wp (postF T K ρ h H Q E)
section
variable {T : Tb} {K : PySem.W.Frag} {ρ : Rho} {h : MH} {H : Hp}
theorem XDen.le {ρ' : Rho} {h' : MH} {H' : Hp} {x : MV} {cls : Value} {d : Option Addr} (l : Le ρ h H ρ' h' H') (q : XDen T K ρ (Mu ρ h) H x cls d) : XDen T K ρ' (Mu ρ' h') H' x cls d := by
  obtain ⟨c, fs, da, gs, e1, e2, e3, n, e4, e5⟩ := q
  exact ⟨c, fs, da, gs, e1, e2, e3, l.nomu e4 n, l.kp e4 n rfl, e5.le l⟩
mutual
theorem Den.sub {M M' : Addr → Prop} (k : ∀ a, M' a → M a) {ρ ρ' : Rho} (kr : ρ'.at_ = ρ.at_) (ks : ρ'.sv = ρ.sv) : ∀ {x : MV} {v : V}, Den T K ρ M H x v → Den T K ρ' M' H x v
  | _, _, .non => .non
  | _, _, .bl b => .bl b
  | _, _, .int i => .int i
  | _, _, .str x => .str x
  | _, _, .tup n r d => .tup (fun q => n (k _ q)) r (DenL.sub k kr ks d)
  | _, _, .tupK s d => .tupK s (DenL.sub k kr ks d)
  | _, _, .lst n r d => .lst (fun q => n (k _ q)) r (DenL.sub k kr ks d)
  | _, _, .ins n r d => .ins (fun q => n (k _ q)) r (DenF.sub k kr ks d)
  | _, _, .exc n r n2 r2 d => .exc (fun q => n (k _ q)) r (fun q => n2 (k _ q)) r2 (DenF.sub k kr ks d)
  | _, _, .ref r => .ref (by rw [kr]; exact r)
  | _, _, .ati r => .ati (by rw [ks]; exact r)
  | _, _, .ats r l => .ats (by rw [ks]; exact r) l
  | _, _, .row r o d => .row (by rw [ks]; exact r) o (Den.sub k kr ks d)
  | _, _, .num r a b => .num (by rw [ks]; exact r) a b
  | _, _, .nst r a b => .nst (by rw [ks]; exact r) a b
  | _, _, .dK n r d => .dK (fun q => n (k _ q)) r (DenK.sub k kr ks d)
  | _, _, .dN n r y d => .dN (fun q => n (k _ q)) r y (DenN.sub k kr ks d)
theorem DenL.sub {M M' : Addr → Prop} (k : ∀ a, M' a → M a) {ρ ρ' : Rho} (kr : ρ'.at_ = ρ.at_) (ks : ρ'.sv = ρ.sv) : ∀ {xs : List MV} {vs : List V}, DenL T K ρ M H xs vs → DenL T K ρ' M' H xs vs
  | _, _, .nil => .nil
  | _, _, .cons d r => .cons (Den.sub k kr ks d) (DenL.sub k kr ks r)
theorem DenF.sub {M M' : Addr → Prop} (k : ∀ a, M' a → M a) {ρ ρ' : Rho} (kr : ρ'.at_ = ρ.at_) (ks : ρ'.sv = ρ.sv) : ∀ {xs : List (Nat × MV)} {vs : List (Str × V)}, DenF T K ρ M H xs vs → DenF T K ρ' M' H xs vs
  | _, _, .nil => .nil
  | _, _, .cons f d r => .cons f (Den.sub k kr ks d) (DenF.sub k kr ks r)
theorem DenK.sub {M M' : Addr → Prop} (k : ∀ a, M' a → M a) {ρ ρ' : Rho} (kr : ρ'.at_ = ρ.at_) (ks : ρ'.sv = ρ.sv) : ∀ {xs : List (MV × MV)} {vs : List (Key × V)}, DenK T K ρ M H xs vs → DenK T K ρ' M' H xs vs
  | _, _, .nil => .nil
  | _, _, .consI d r => .consI (Den.sub k kr ks d) (DenK.sub k kr ks r)
  | _, _, .consS d r => .consS (Den.sub k kr ks d) (DenK.sub k kr ks r)
theorem DenN.sub {M M' : Addr → Prop} (k : ∀ a, M' a → M a) {ρ ρ' : Rho} (kr : ρ'.at_ = ρ.at_) (ks : ρ'.sv = ρ.sv) : ∀ {xs : List (MV × MV)} {vs : List (NestedKey × Addr × V)}, DenN T K ρ M H xs vs → DenN T K ρ' M' H xs vs
  | _, _, .nil => .nil
  | _, _, .cons e d1 d r => .cons e (Den.sub k kr ks d1) (Den.sub k kr ks d) (DenN.sub k kr ks r)
end
/-! ### a run in a heap of its own: nothing that may change is in its reach -/
/-- our things hidden -/
def rhoH (ρ : Rho) (h : MH) : Rho := ⟨ρ.at_, Mu ρ h, ρ.sv⟩
def emp (h : MH) : MH := ⟨h.nxt, []⟩
/-- our things back -/
def rhoB (ρ : Rho) (ρ' : Rho) : Rho := ⟨ρ'.at_, ρ.amb, ρ'.sv⟩
def bck (h h' : MH) : MH := ⟨h'.nxt, h.es⟩
theorem emp_get (h : MH) (l : Nat) : (emp h).get l = none := rfl
theorem own_emp {ρ : Rho} {a : Addr} : ¬ Own ρ (emp h) a := fun ⟨l, o, e, _⟩ => by cases e
theorem mu_hid {a : Addr} : Mu (rhoH ρ h) (emp h) a ↔ Mu ρ h a := ⟨fun m => m.elim id fun q => absurd q own_emp, .inl⟩
theorem SimH.hid (s : SimH T K ρ h H) : SimH T K (rhoH ρ h) (emp h) H :=
  ⟨s.lt, s.ltv, s.tb.mv (fun _ _ e _ => e) (fun _ _ e => e) (fun _ _ _ m q => m (mu_hid.mp q)), (fun l l' o o' a e => by cases e), (fun l o e => by cases e), fun a m => s.at m, fun a m => absurd m own_emp⟩
theorem DenL.hid {xs : List MV} {vs : List V} (d : DenL T K ρ (Mu ρ h) H xs vs) : DenL T K (rhoH ρ h) (Mu (rhoH ρ h) (emp h)) H xs vs := DenL.sub (ρ := ρ) (ρ' := rhoH ρ h) (fun a m => mu_hid.mp m) rfl rfl d
section
variable {ρ' : Rho} {h' : MH} {H' : Hp}
theorem own_bck (s : SimH T K ρ h H) (l : Le (rhoH ρ h) (emp h) H ρ' h' H') {a : Addr} (m : Own (rhoB ρ ρ') (bck h h') a) : Own ρ h a := by
  obtain ⟨k, o, e, r⟩ := m
  have e' : h.get k = some o := e
  obtain ⟨b, rb, _⟩ := s.ob k o e'
  have r2 := l.ext k b rb
  have r' : ρ'.at_ k = some a := r
  rw [r2] at r'; cases r'
  exact ⟨k, o, e', rb⟩
theorem Le.bck (s : SimH T K ρ h H) (l : Le (rhoH ρ h) (emp h) H ρ' h' H') : Le ρ h H (rhoB ρ ρ') (WK.bck h h') H' :=
  ⟨l.ext, l.exv, l.nxt, fun _ m => m, fun _ m => .inl m, fun a m => .inl (own_bck s l m), fun a o e _ t => l.keep a o e own_emp t, l.live⟩
theorem mu_bck (s : SimH T K ρ h H) (l : Le (rhoH ρ h) (emp h) H ρ' h' H') {a : Addr} (m : Mu (rhoB ρ ρ') (bck h h') a) : Mu ρ' h' a := by
  refine .inl (l.amb a ?_)
  rcases m with m | m
  · exact .inl m
  · exact .inr (own_bck s l m)
theorem SimH.bck (s : SimH T K ρ h H) (l : Le (rhoH ρ h) (emp h) H ρ' h' H') (s' : SimH T K ρ' h' H') : SimH T K (rhoB ρ ρ') (WK.bck h h') H' where
  lt := s'.lt
  ltv := s'.ltv
  tb := s'.tb.mv (fun _ _ e _ => e) (fun _ _ e => e) (fun _ _ _ m q => m (mu_bck s l q))
  inj := fun k k' o o' a e e' r r' => by
    obtain ⟨b, rb, _⟩ := s.ob k o e
    obtain ⟨b', rb', _⟩ := s.ob k' o' e'
    have q : ρ'.at_ k = some a := r
    have q' : ρ'.at_ k' = some a := r'
    rw [l.ext k b rb] at q; cases q
    rw [l.ext k' b' rb'] at q'; cases q'
    exact s.inj k k' o o' _ e e' rb rb'
  ob := fun k o e => by
    obtain ⟨a, r, q⟩ := s.ob k o e
    exact ⟨a, l.ext k a r, q.le (Le.bck s l) fun u t z => l.keep a u z own_emp t⟩
  am := fun a m => by
    obtain ⟨o, e⟩ := s.am a m
    exact l.live a o e
  dis := fun a m => s.dis a (own_bck s l m)
theorem Den.bck (s : SimH T K ρ h H) (l : Le (rhoH ρ h) (emp h) H ρ' h' H') {x : MV} {v : V} (d : Den T K ρ' (Mu ρ' h') H' x v) : Den T K (rhoB ρ ρ') (Mu (rhoB ρ ρ') (WK.bck h h')) H' x v := Den.sub (ρ := ρ') (ρ' := rhoB ρ ρ') (fun a m => mu_bck s l m) rfl rfl d
theorem XDen.bck (s : SimH T K ρ h H) (l : Le (rhoH ρ h) (emp h) H ρ' h' H') {x : MV} {cls : Value} {d : Option Addr} (q : XDen T K ρ' (Mu ρ' h') H' x cls d) : XDen T K (rhoB ρ ρ') (Mu (rhoB ρ ρ') (WK.bck h h')) H' x cls d := by
  obtain ⟨c, fs, da, gs, e1, e2, e3, n, e4, e5⟩ := q
  exact ⟨c, fs, da, gs, e1, e2, e3, fun m => n (mu_bck s l m), e4, DenF.sub (ρ := ρ') (ρ' := rhoB ρ ρ') (fun a m => mu_bck s l m) rfl rfl e5⟩
end
end
/-- a call: in a heap of its own, or in ours -/
def callP (pur : Bool) (run : List MV → MH → Tr ER) (xs : List MV) (h : MH) : Tr ER := match pur with
  | true => (run xs (emp h)).be (fun v h' => okE v (bck h h')) fun x h' => exE x (bck h h')
  | false => run xs h
section
variable {T : Tb} {X : Cx} {E : XW}
/-- the promise from what is wished here -/
theorem spF_of {n : Nat} {pur : Bool} {run : List MV → MH → Tr ER} {ρ : Rho} {m : MS} {h : MH} {H : Hp} {σ : St} {xs : List MV} {vs : List V} {Q : VK} (s : SimH T X.K ρ h H) (s2 : SimS T X.K ρ (Mu ρ h) H m σ) (d : DenL T X.K ρ (Mu ρ h) H xs vs) (hn : vs.length = n)
    (w : (callP pur run xs h).wp (postE T X.K E m ρ h H Q)) : spF T X.K n run vs H Q (fun cls d H' => wx T X.K E cls d σ H') := by
  refine ⟨hn, ?_⟩
  cases pur with
  | false =>
    refine ⟨ρ, xs, h, s, d, Tr.wp_mono w fun r q => ?_⟩
    cases r with
    | ok x h' => exact q
    | ex x h' => exact fun ρ' H' cls da l s' xd => ⟨ρ', m, h', x, s', s2.le l, xd, q ρ' H' l s'⟩
  | true =>
    refine ⟨rhoH ρ h, xs, emp h, s.hid, d.hid, Tr.wp_mono (Tr.wp_be w) fun r q => ?_⟩
    cases r with
    | ok x h' => exact fun ρ' H' v l s' dx => q _ H' v (l.bck s) (s.bck l s') (dx.bck s l)
    | ex x h' => exact fun ρ' H' cls da l s' xd => ⟨_, m, _, x, s.bck l s', s2.le (l.bck s), xd.bck s l, q _ H' (l.bck s) (s.bck l s')⟩
theorem passes_wx (tk : Takes X (wx T X.K E)) (σ : St) : PassesAt (L2.CX X.prog X.w) X σ (fun cls d H' => wx T X.K E cls d σ H') := fun pins H s e s' I c => tk e s' (XE.of_call I (fun cls d H' q => q) c)
/-- defaults -/
def runF (pur : Bool) (dfl : List MV) (run : List MV → MH → Tr ER) (xs : List MV) (h : MH) : Tr ER := callP pur run (xs ++ dfl) h
theorem denL_sc {K : PySem.W.Frag} {ρ : Rho} {M : Addr → Prop} {H : Hp} : ∀ {xs : List MV}, xs.all scM = true → DenL T K ρ M H xs (xs.map scV)
  | [], _ => .nil
  | x :: r, h => by
    obtain ⟨h1, h2⟩ := Bool.and_eq_true_iff.mp (show (scM x && r.all scM) = true from h)
    refine .cons ?_ (denL_sc h2)
    cases x <;> first | exact .non | exact .bl _ | exact .int _ | exact .str _ | cases h1
/-- f(e, ..) -/
theorem s_call {d : Nat} {f : Addr} {fd : FuncData} {ps : List Str} {run : List MV → MH → Tr ER} {ds : List Value} {dfl : List MV} {pur : Bool} {x : Str} {e : Expr} {es : List Expr} {p pos : Pos} {g : RunL} (tk : Takes X (wx T X.K E)) (F : FnOk X.prog X.w X.K X.mg X.base (L2.CX X.prog X.w) d f fd ps (spF T X.K ps.length run)) (hr : Room d X.A)
    (hg : Gl X x) (hm : X.mg x = some (.ref f)) (hk : PySem.W.keepIn X.K (.ref f) = true) (hb : Binds X.K fd ps ds) (hdf : dfl.all scM = true) (hd : Vals (dfl.map scV) ds) (ha : SA T X E (e :: es) g) (hl : (e :: es).length + dfl.length = ps.length) (hx : (x == ("__debug__" : Str)) = false) :
    SE T X E (.Call (.Name x p) (e :: es) [] pos) (runArgs g (runF pur dfl run)) := by
  have hns : notStar e = true ∧ es.all notStar = true := Bool.and_eq_true_iff.mp ha.ns
  refine .ofV (peI (pe_callSD (E := fun σ cls d H' => wx T X.K E cls d σ H') F hr hg hm hk hb hd (passes_wx tk) ha.a hx (star_cons hns.1) (by rw [backTo_any]; exact star_all hns.2)) fun σ H Q ⟨ρ, m, h, s1, s2, w⟩ => ⟨ρ, m, h, s1, s2, Tr.wp_mono (ha.n m h _ (Tr.wp_bl w)) fun r q => ?_⟩) fun _ => rfl
  obtain ⟨q, hn⟩ := q
  cases r with
  | ex x h1 => exact q
  | ok xs h1 =>
    intro ρ1 H1 vs l s dd
    refine spF_of (pur := pur) s (s2.le l) (dd.app (denL_sc hdf)) ?_ (Tr.wp_mono q (postE.le l))
    rw [List.length_append, List.length_map, ← dd.length, hn xs h1 rfl]
    exact hl
end
end
end WK
set_option Elab.async false
set_option linter.all false
set_option maxRecDepth 100000
/-! statements -/
namespace WK
noncomputable section
open PySem L2
abbrev RunS := MS → MH → Tr SR
def postS (T : Tb) (K : PySem.W.Frag) (E : XW) (ρ : Rho) (h : MH) (H : Hp) (D : Ends) : SR → Prop
  | .nx m' h' => ∀ ρ' H' σ', Le ρ h H ρ' h' H' → SimH T K ρ' h' H' → SimS T K ρ' (Mu ρ' h') H' m' σ' → D.nx σ' H'
  | .bk m' h' => ∀ ρ' H' σ', Le ρ h H ρ' h' H' → SimH T K ρ' h' H' → SimS T K ρ' (Mu ρ' h') H' m' σ' → D.bk σ' H'
  | .ct m' h' => ∀ ρ' H' σ', Le ρ h H ρ' h' H' → SimH T K ρ' h' H' → SimS T K ρ' (Mu ρ' h') H' m' σ' → D.ct σ' H'
  | .rt x h' => ∀ ρ' H' v, Le ρ h H ρ' h' H' → SimH T K ρ' h' H' → Den T K ρ' (Mu ρ' h') H' x v → D.rt v H'
  | .ex x m' h' => exP T K E m' ρ h H x h'
def tS (T : Tb) (K : PySem.W.Frag) (E : XW) (f : RunS) : TS := fun D σ H => ∃ ρ m h, SimH T K ρ h H ∧ SimS T K ρ (Mu ρ h) H m σ ∧ (f m h).wp (postS T K E ρ h H D)
theorem postS.le {T : Tb} {K : PySem.W.Frag} {E : XW} {ρ ρ' : Rho} {h h' : MH} {H H' : Hp} {D : Ends} (l : Le ρ h H ρ' h' H') : ∀ r, postS T K E ρ h H D r → postS T K E ρ' h' H' D r
  | .nx _ _, w => fun ρ2 H2 v l2 s d => w ρ2 H2 v (l.trans l2) s d
  | .bk _ _, w => fun ρ2 H2 v l2 s d => w ρ2 H2 v (l.trans l2) s d
  | .ct _ _, w => fun ρ2 H2 v l2 s d => w ρ2 H2 v (l.trans l2) s d
  | .rt _ _, w => fun ρ2 H2 v l2 s d => w ρ2 H2 v (l.trans l2) s d
  | .ex _ _ _, w => exP.le l w
def exS (m : MS) (x : MV) (h : MH) : Tr SR := .ret (.ex x m h)
def nxS (m : MS) (h : MH) : Tr SR := .ret (.nx m h)
section
variable {T : Tb} {X : Cx} {E : XW}
def SS (T : Tb) (X : Cx) (E : XW) (st : Stmt) (f : RunS) : Prop := PS X st (tS T X.K E f)
def SSs (T : Tb) (X : Cx) (E : XW) (st : List Stmt) (f : RunS) : Prop := PSs X st (tS T X.K E f)
def runSeq (f g : RunS) : RunS := fun m h => (f m h).bind fun r => SR.rec (motive := fun _ => Tr SR) (fun m1 h1 => g m1 h1) (fun m2 h2 => .ret (.bk m2 h2)) (fun m2 h2 => .ret (.ct m2 h2)) (fun v h2 => .ret (.rt v h2)) (fun x m2 h2 => .ret (.ex x m2 h2)) r
theorem ss_nil : SSs T X E [] nxS := pssI pss_nil fun D σ H ⟨ρ, m, h, s1, s2, w⟩ => w ρ H σ Le.refl s1 s2
theorem ss_cons {st : Stmt} {rest : List Stmt} {f g : RunS} (hf : SS T X E st f) (hg : SSs T X E rest g) : SSs T X E (st :: rest) (runSeq f g) :=
  pssI (pss_cons hf hg) fun D σ H ⟨ρ, m, h, s1, s2, w⟩ => ⟨ρ, m, h, s1, s2, Tr.wp_mono ((Tr.wp_bind _ _ _).mp w) fun r q => by
    cases r with
    | nx m1 h1 => exact fun ρ1 H1 σ1 l s d => ⟨ρ1, m1, h1, s, d, Tr.wp_mono q (postS.le l)⟩
    | bk _ _ => exact q
    | ct _ _ => exact q
    | rt _ _ => exact q
    | ex _ _ _ => exact q⟩
theorem ss_one {st : Stmt} {f : RunS} (hf : SS T X E st f) : SSs T X E [st] f := pss_one hf
theorem s_pass {pos : Pos} : SS T X E (.Pass pos) nxS := psI ps_pass fun D σ H ⟨ρ, m, h, s1, s2, w⟩ => w ρ H σ Le.refl s1 s2
theorem s_brk {pos : Pos} : SS T X E (.Break pos) (fun m h => .ret (.bk m h)) := psI ps_break fun D σ H ⟨ρ, m, h, s1, s2, w⟩ => w ρ H σ Le.refl s1 s2
theorem s_cont {pos : Pos} : SS T X E (.Continue pos) (fun m h => .ret (.ct m h)) := psI ps_continue fun D σ H ⟨ρ, m, h, s1, s2, w⟩ => w ρ H σ Le.refl s1 s2
theorem s_doc {x : Str} {j : Nat} {pos pos' : Pos} : SS T X E (.Expr (.Constant (.str x) j pos) pos') nxS := psI ps_doc fun D σ H ⟨ρ, m, h, s1, s2, w⟩ => w ρ H σ Le.refl s1 s2
def runDrop (f : RunE) : RunS := fun m h => (f m h).be (fun _ h1 => nxS m h1) (exS m)
theorem s_expr {e : Expr} {pos : Pos} {f : RunE} (he : SE T X E e f) (hs : swapsWith e none pos.line X.env = pure false) : SS T X E (.Expr e pos) (runDrop f) :=
  psI (ps_expr he.v hs) fun D σ H ⟨ρ, m, h, s1, s2, w⟩ => ⟨ρ, m, h, s1, s2, Tr.wp_mono (Tr.wp_be w) fun r q => by
    cases r with
    | ex x h1 => exact q
    | ok x h1 => exact fun ρ1 H1 v l s d => q ρ1 H1 σ l s (s2.le l)⟩
def runRet (f : RunE) : RunS := fun m h => (f m h).be (fun v h1 => .ret (.rt v h1)) (exS m)
theorem s_ret {e : Expr} {pos : Pos} {f : RunE} (he : SE T X E e f) : SS T X E (.Return (some e) pos) (runRet f) :=
  psI (ps_ret he.v) fun D σ H ⟨ρ, m, h, s1, s2, w⟩ => ⟨ρ, m, h, s1, s2, Tr.wp_mono (Tr.wp_be w) fun r q => by
    cases r with
    | ex x h1 => exact q
    | ok x h1 => exact fun ρ1 H1 v l s d => q ρ1 H1 v l s d⟩
theorem s_retN {pos : Pos} : SS T X E (.Return none pos) (fun _ h => .ret (.rt .non h)) := psI ps_retN fun D σ H ⟨ρ, m, h, s1, s2, w⟩ => w ρ H .non Le.refl s1 .non
def runIf (c : RunE) (f g : RunS) : RunS := fun m h => (c m h).be (fun x h1 => br h1 x (f m h1) (g m h1)) (exS m)
/-- a test's run as a reading -/
theorem t_test {c : RunE} {ρ : Rho} {m : MS} {h : MH} {H : Hp} {f : MH → Tr SR} {g : MH → Tr SR} {D : Ends} {Q : Bool → Hp → Prop}
    (w : ((c m h).be (fun x h1 => br h1 x (f h1) (g h1)) (exS m)).wp (postS T X.K E ρ h H D))
    (ht : ∀ ρ1 H1 h1, Le ρ h H ρ1 h1 H1 → SimH T X.K ρ1 h1 H1 → (f h1).wp (postS T X.K E ρ h H D) → Q true H1)
    (hf : ∀ ρ1 H1 h1, Le ρ h H ρ1 h1 H1 → SimH T X.K ρ1 h1 H1 → (g h1).wp (postS T X.K E ρ h H D) → Q false H1) : (c m h).wp (postT T X.K E m ρ h H Q) := by
  refine Tr.wp_mono (Tr.wp_be w) fun r q => ?_
  cases r with
  | ex x h1 => exact q
  | ok x h1 =>
    cases e : tru h1 x with
    | none => simp only [br_eq, e] at q; exact q.elim
    | some b =>
      refine ⟨b, e, fun ρ1 H1 l s => ?_⟩
      cases b with
      | true => simp only [br_eq, e] at q; exact ht ρ1 H1 h1 l s q
      | false => simp only [br_eq, e] at q; exact hf ρ1 H1 h1 l s q
theorem s_if {c : Expr} {a b : List Stmt} {pos : Pos} {k : RunE} {f g : RunS} (hc : SE T X E c k) (ha : SSs T X E a f) (hb : SSs T X E b g) : SS T X E (.If c a b pos) (runIf k f g) :=
  psI (ps_if hc.t ha hb) fun D σ H ⟨ρ, m, h, s1, s2, w⟩ => ⟨ρ, m, h, s1, s2, t_test (X := X) w
    (fun ρ1 H1 h1 l s q => by rw [if_pos rfl]; exact ⟨ρ1, m, h1, s, s2.le l, Tr.wp_mono q (postS.le l)⟩)
    fun ρ1 H1 h1 l s q => by rw [if_neg Bool.false_ne_true]; exact ⟨ρ1, m, h1, s, s2.le l, Tr.wp_mono q (postS.le l)⟩⟩
/-! ### targets -/
inductive GR where
  | ok (m : MS) (h : MH) | ex (x : MV) (m : MS) (h : MH)
abbrev RunG := MV → MS → MH → Tr GR
def postG (T : Tb) (K : PySem.W.Frag) (E : XW) (ρ : Rho) (h : MH) (H : Hp) (Q : St → Hp → Prop) : GR → Prop
  | .ok m' h' => ∀ ρ' H' σ', Le ρ h H ρ' h' H' → SimH T K ρ' h' H' → SimS T K ρ' (Mu ρ' h') H' m' σ' → Q σ' H'
  | .ex x m' h' => exP T K E m' ρ h H x h'
def tG (T : Tb) (K : PySem.W.Frag) (E : XW) (g : RunG) : TG := fun v σ H Q => ∃ ρ m h x, SimH T K ρ h H ∧ SimS T K ρ (Mu ρ h) H m σ ∧ Den T K ρ (Mu ρ h) H x v ∧ (g x m h).wp (postG T K E ρ h H Q)
theorem postG.le {K : PySem.W.Frag} {ρ ρ' : Rho} {h h' : MH} {H H' : Hp} {Q : St → Hp → Prop} (l : Le ρ h H ρ' h' H') : ∀ r, postG T K E ρ h H Q r → postG T K E ρ' h' H' Q r
  | .ok _ _, w => fun ρ2 H2 v l2 s d => w ρ2 H2 v (l.trans l2) s d
  | .ex _ _ _, w => exP.le l w
theorem pgI {X : Cx} {e : Expr} {t t' : TG} (p : PG X e t) (h : ∀ v σ H Q, t' v σ H Q → t v σ H Q) : PG X e t' := ⟨fun pins s σ H v u Q I r q => p.run pins s σ H v u Q I r (h v σ H Q q)⟩
def SG (T : Tb) (X : Cx) (E : XW) (e : Expr) (g : RunG) : Prop := PG X e (tG T X.K E g)
def Tr.bg {α : Type} (t : Tr GR) (f : MS → MH → Tr α) (g : MV → MS → MH → Tr α) : Tr α := t.bind fun r => GR.rec (motive := fun _ => Tr α) f g r
theorem Tr.wp_bg {α : Type} {t : Tr GR} {f : MS → MH → Tr α} {g : MV → MS → MH → Tr α} {Q : α → Prop} (h : (Tr.bg t f g).wp Q) : t.wp fun r => match r with
    | .ok m h => (f m h).wp Q
    | .ex x m h => (g x m h).wp Q := by
  refine Tr.wp_mono ((Tr.wp_bind _ _ _).mp h) fun r q => ?_
  cases r <;> exact q
def setS (m : MS) (i : Nat) (v : MV) : MS := List.rec (motive := fun _ => Nat → MS) (fun _ => []) (fun x r ih i => Nat.rec (motive := fun _ => MS) (some v :: r) (fun j _ => x :: ih j) i) m i
theorem setS_eq : ∀ (m : MS) (i : Nat) (v : MV), setS m i v = m.set i (some v)
  | [], _, _ => rfl
  | _ :: _, 0, _ => rfl
  | x :: r, i + 1, v => congrArg (x :: ·) (setS_eq r i v)
theorem SimS.set {K : PySem.W.Frag} {ρ : Rho} {M : Addr → Prop} {H : Hp} {m : MS} {σ : St} {x : MV} {v : V} (s : SimS T K ρ M H m σ) (i : Nat) (d : Den T K ρ M H x v) : SimS T K ρ M H (setS m i x) (σ.set i (some v)) where
  len := by rw [setS_eq, List.length_set, List.length_set]; exact s.len
  at_ := fun j y e => by
    rw [setS_eq] at e
    by_cases q : i = j
    · subst q
      rw [List.getElem?_set_self'] at e
      rw [List.getElem?_set_self']
      cases e1 : m[i]? with
      | none => rw [e1] at e; cases e
      | some u =>
        rw [e1] at e; cases e
        have h1 : i < m.length := (List.getElem?_eq_some_iff.mp e1).1
        have h2 : i < σ.length := s.len ▸ h1
        rw [List.getElem?_eq_getElem h2]
        exact ⟨v, rfl, d⟩
    · rw [List.getElem?_set_ne q] at e
      rw [List.getElem?_set_ne q]
      exact s.at_ j y e
def gNm (i : Nat) : RunG := fun x m h => .ret (.ok (setS m i x) h)
theorem g_name {i : Nat} {x : Str} {pos : Pos} (hN : X.N.Nodup) (hi : X.N[i]? = some x) (hx : Loc X.env.scope x) (hf : X.fn x = true ∨ X.env.scope.names.lookup x = some .local) : SG T X E (.Name x pos) (gNm i) :=
  pgI (pg_name hN hi hx hf) fun v σ H Q ⟨ρ, m, h, x, s1, s2, d, w⟩ => w ρ H _ Le.refl s1 (s2.set i d)
abbrev RunGs := List MV → MS → MH → Tr GR
def tGs (T : Tb) (K : PySem.W.Frag) (E : XW) (g : RunGs) : TGs := fun vs σ H Q => ∃ ρ m h xs, SimH T K ρ h H ∧ SimS T K ρ (Mu ρ h) H m σ ∧ DenL T K ρ (Mu ρ h) H xs vs ∧ (g xs m h).wp (postG T K E ρ h H Q)
theorem pgsI {X : Cx} {e : List Expr} {t t' : TGs} (p : PGs X e t) (h : ∀ v σ H Q, t' v σ H Q → t v σ H Q) : PGs X e t' := ⟨fun pins s σ H v u Q I r q => p.run pins s σ H v u Q I r (h v σ H Q q)⟩
def SGs (T : Tb) (X : Cx) (E : XW) (e : List Expr) (g : RunGs) : Prop := PGs X e (tGs T X.K E g)
def gsNil : RunGs := fun xs m h => match xs with
  | [] => .ret (.ok m h)
  | _ => .bad
def gsCons (f : RunG) (g : RunGs) : RunGs := fun xs m h => match xs with
  | x :: r => Tr.bg (f x m h) (fun m1 h1 => g r m1 h1) (fun x m h => .ret (.ex x m h))
  | [] => .bad
theorem gs_nil : SGs T X E [] gsNil := pgsI pgs_nil fun v σ H Q ⟨ρ, m, h, xs, s1, s2, d, w⟩ => by
  cases d with
  | nil => exact ⟨rfl, w ρ H σ Le.refl s1 s2⟩
  | cons _ _ => exact w.elim
theorem gs_cons {e : Expr} {es : List Expr} {f : RunG} {g : RunGs} (h1 : SG T X E e f) (h2 : SGs T X E es g) (hs : (assignEach (e :: es) X.env).map (·.2) = assign e X.env :: (assignEach es X.env).map (·.2)) : SGs T X E (e :: es) (gsCons f g) :=
  pgsI (pgs_cons h1 h2 hs) fun v σ H Q ⟨ρ, m, h, xs, s1, s2, d, w⟩ => by
    cases d with
    | nil => exact w.elim
    | cons d1 d2 =>
      refine ⟨_, _, rfl, ρ, m, h, _, s1, s2, d1, Tr.wp_mono (Tr.wp_bg w) fun r q => ?_⟩
      cases r with
      | ex x m1 h1 => exact q
      | ok m1 h1 => exact fun ρ1 H1 σ1 l s t => ⟨ρ1, m1, h1, _, s, t, d2.le l, Tr.wp_mono q (postG.le l)⟩
def gTp (n : Nat) (g : RunGs) : RunG := fun x m h => match x with
  | .tup xs => ifT (Nat.beq xs.length n) (g xs m h)
  | _ => .bad
theorem g_tup {es : List Expr} {k : Nat} {pos : Pos} {n : Nat} {g : RunGs} (hc : X.calm = true) (h : SGs T X E es g) (hn : (assignEach es X.env).length = n) (hst : (assignEach es X.env).findIdx? (·.1) = none) : SG T X E (.Tuple es k pos) (gTp n g) :=
  pgI (pg_tup hc h hn hst) fun v σ H Q ⟨ρ, m, h, x, s1, s2, d, w⟩ => by
    unfold gTp at w
    split at w
    · obtain ⟨c, w⟩ := ifT_wp w
      obtain ⟨a, vs, rfl, r, d1⟩ := den_tup d
      exact ⟨a, vs, rfl, r, by rw [← d1.length]; exact Nat.eq_of_beq_eq_true c, ρ, m, h, _, s1, s2, d1, w⟩
    · exact w.elim
def toS (t : Tr GR) : Tr SR := t.bind fun r => match r with
  | .ok m h => .ret (.nx m h)
  | .ex x m h => .ret (.ex x m h)
theorem toS_wp {t : Tr GR} {K : PySem.W.Frag} {ρ : Rho} {h : MH} {H : Hp} {D : Ends} (w : (toS t).wp (postS T K E ρ h H D)) : t.wp (postG T K E ρ h H D.nx) := by
  refine Tr.wp_mono ((Tr.wp_bind _ _ _).mp w) fun r q => ?_
  cases r <;> exact q
def runAsg (f : RunE) (g : RunG) : RunS := fun m h => (f m h).be (fun x h1 => toS (g x m h1)) (exS m)
theorem t_asg {f : RunE} {g : RunG} (D : Ends) (σ : St) (H : Hp) (w : tS T X.K E (runAsg f g) D σ H) : tAsg (tE T X.K E f) (tG T X.K E g) D σ H := by
  obtain ⟨ρ, m, h, s1, s2, w⟩ := w
  refine ⟨ρ, m, h, s1, s2, Tr.wp_mono (Tr.wp_be w) fun r q => ?_⟩
  cases r with
  | ex x h1 => exact q
  | ok x h1 => exact fun ρ1 H1 v l s d => ⟨ρ1, m, h1, x, s, s2.le l, d, toS_wp (Tr.wp_mono q (postS.le l))⟩
theorem s_asg {tg e : Expr} {pos : Pos} {f : RunE} {g : RunG} (he : SE T X E e f) (hg : SG T X E tg g) (hs : swapsWithSole [tg] e pos.line X.env = pure false) (hw : swappedStores [tg] e X.env = pure none)
    (h1 : (assignEach [tg] X.env).map (·.2) = [assign tg X.env]) : SS T X E (.Assign [tg] e pos) (runAsg f g) := psI (ps_asg he.v hg hs hw h1) t_asg
theorem s_set {i : Nat} {x : Str} {e : Expr} {pos pos' : Pos} {f : RunE} (hN : X.N.Nodup) (hi : X.N[i]? = some x) (hx : Loc X.env.scope x) (he : SE T X E e f) (hs : swapsWith e (some (.Name x pos')) pos.line X.env = pure false) (hf : X.fn x = true ∨ X.env.scope.names.lookup x = some .local) :
    SS T X E (.Assign [.Name x pos'] e pos) (runAsg f (gNm i)) :=
  psI (ps_set hN hi hx he.v hs hf) fun D σ H w => by
    obtain ⟨ρ, m, h, s1, s2, w⟩ := w
    refine ⟨ρ, m, h, s1, s2, Tr.wp_mono (Tr.wp_be w) fun r q => ?_⟩
    cases r with
    | ex x h1 => exact q
    | ok x h1 => exact fun ρ1 H1 v l s d => q ρ1 H1 _ l s ((s2.le l).set i d)
/-- a, b = e, e -/
def runPar (i j : Nat) (f : RunL) : RunS := fun m h => Tr.bl (f m h) (fun xs h1 => match xs with
  | [x, y] => nxS (setS (setS m i x) j y) h1
  | _ => .bad) (exS m)
theorem s_par {i j : Nat} {x y : Str} {a b : Expr} {f : RunL} {px py pt pos : Pos} {kt k2 : Nat} {pt2 : Pos} (hc : X.calm = true) (hN : X.N.Nodup) (hi : X.N[i]? = some x) (hj : X.N[j]? = some y) (hij : i ≠ j)
    (hx : X.env.scope.names.lookup x = some .local) (hy : X.env.scope.names.lookup y = some .local) (ha : SA T X E [a, b] f)
    (hw : swappedStores [.Tuple [.Name x px, .Name y py] kt pt] (.Tuple [a, b] k2 pt2) X.env = pure (some [x, y])) (hs : swapsWithSole [.Tuple [.Name x px, .Name y py] kt pt] (.Tuple [a, b] k2 pt2) pos.line X.env = pure false) :
    SS T X E (.Assign [.Tuple [.Name x px, .Name y py] kt pt] (.Tuple [a, b] k2 pt2) pos) (runPar i j f) :=
  psI (ps_par hc hN hi hj hij hx hy ha.a hw hs) fun D σ H ⟨ρ, m, h, s1, s2, w⟩ => ⟨ρ, m, h, s1, s2, Tr.wp_mono (Tr.wp_bl w) fun r q => by
    cases r with
    | ex x h1 => exact q
    | ok xs h1 =>
      intro ρ1 H1 vs l s d
      cases d with
      | nil => exact q.elim
      | cons d1 d =>
        cases d with
        | nil => exact q.elim
        | cons d2 d =>
          cases d with
          | cons _ _ => exact q.elim
          | nil => exact ⟨_, _, rfl, q ρ1 H1 _ l s (((s2.le l).set i d1).set j d2)⟩⟩
/-- name op= e -/
def runAug (i : Nat) (f : RunE) (op : MV → MV → MH → Tr ER) : RunS := fun m h => match getS m i with
  | some x => (f m h).be (fun y h1 => (op x y h1).be (fun z h2 => nxS (setS m i z) h2) (exS m)) (exS m)
  | none => .bad
def IpS (T : Tb) (X : Cx) (r : TIp) (op : MV → MV → MH → Tr ER) : Prop := ∀ ρ h H x y v u E m Q, SimH T X.K ρ h H → Den T X.K ρ (Mu ρ h) H x v → Den T X.K ρ (Mu ρ h) H y u → (op x y h).wp (postE T X.K E m ρ h H Q) → r v u H Q
theorem s_aug {i : Nat} {x : Str} {e : Expr} {op : Operator} {r : TIp} {o : MV → MV → MH → Tr ER} {pos pos' : Pos} {f : RunE} (hN : X.N.Nodup) (hi : X.N[i]? = some x) (hx : Loc X.env.scope x) (he : SE T X E e f) (ho : PIp X op r) (hr : IpS T X r o) (hf : X.fn x = true ∨ X.env.scope.names.lookup x = some .local) :
    SS T X E (.AugAssign (.Name x pos') op e pos) (runAug i f o) :=
  psI (ps_aug hN hi hx he.v ho hf) fun D σ H ⟨ρ, m, h, s1, s2, w⟩ => by
    unfold runAug at w
    split at w
    · rename_i x q
      obtain ⟨v, e, d⟩ := s2.at_ i x (getS_ok q)
      refine ⟨v, e, ρ, m, h, s1, s2, Tr.wp_mono (Tr.wp_be w) fun r q => ?_⟩
      cases r with
      | ex x h1 => exact q
      | ok y h1 =>
        intro ρ1 H1 u l s du
        refine hr ρ1 h1 H1 x y v u E m _ s (d.le l) du (Tr.wp_mono (Tr.wp_be q) fun r q => ?_)
        cases r with
        | ex x h2 => exact exP.le l q
        | ok z h2 => exact fun ρ2 H2 t l2 s' dz => q ρ2 H2 _ (l.trans l2) s' ((s2.le (l.trans l2)).set i dz)
    · exact w.elim
def ipInt (p : Int → Int → Int) (x y : MV) (h : MH) : Tr ER := match x, y with
  | .int i, .int j => okE (.int (p i j)) h
  | _, _ => .bad
theorem ipInt_ok (p : Int → Int → Int) : IpS T X (ipI p) (ipInt p) := fun ρ h H x y v u E m Q s dx dy w => by
  unfold ipInt at w
  split at w
  · cases dx; cases dy
    exact ⟨_, _, rfl, rfl, post_int s w⟩
  · exact w.elim
/-! ### while -/
def runWh (c : RunE) (b : RunS) (n : Nat) : RunS := Nat.rec (motive := fun _ => RunS) (fun _ _ => .bad) (fun _ ih m h => (c m h).be (fun x h1 => br h1 x ((b m h1).bind fun r => SR.rec (motive := fun _ => Tr SR) (fun m2 h2 => ih m2 h2) (fun m2 h2 => nxS m2 h2) (fun m2 h2 => ih m2 h2) (fun v h2 => .ret (.rt v h2)) (fun x m2 h2 => .ret (.ex x m2 h2)) r) (nxS m h1)) (exS m)) n
theorem s_while {c : Expr} {body : List Stmt} {pos : Pos} {k : RunE} {f : RunS} (n : Nat) (hp : PassesOwn (model X.prog X.w) X.A X.env X.xe) (hc : SE T X E c k) (hb : SSs T X E body f) : SS T X E (.While c body [] pos) (runWh k f n) :=
  psI (ps_while hp hc.t hb) fun D σ H ⟨ρ, m, h, s1, s2, w⟩ => by
    refine ⟨fun n σ H => ∃ ρ m h, SimH T X.K ρ h H ∧ SimS T X.K ρ (Mu ρ h) H m σ ∧ (runWh k f n m h).wp (postS T X.K E ρ h H D), ⟨n, ρ, m, h, s1, s2, w⟩, ?_⟩
    rintro n2 σ2 H2 ⟨ρ, m, h, s1, s2, w⟩
    cases n2 with
    | zero => exact w.elim
    | succ n =>
      refine ⟨ρ, m, h, s1, s2, t_test (X := X) (D := D) w (fun ρ1 H1 h1 l s q => ?_) fun ρ1 H1 h1 l s q => ?_⟩
      · rw [if_pos rfl]
        refine ⟨fun σ H => ∃ ρ m h, SimH T X.K ρ h H ∧ SimS T X.K ρ (Mu ρ h) H m σ ∧ (runWh k f n m h).wp (postS T X.K E ρ h H D), fun σ' H' z => ⟨n, Nat.lt_succ_self n, z⟩, ρ1, m, h1, s, s2.le l, Tr.wp_mono ((Tr.wp_bind _ _ _).mp q) fun r q => ?_⟩
        cases r with
        | nx m2 h2 => exact fun ρ2 H2 σ2 l2 s' t => ⟨ρ2, m2, h2, s', t, Tr.wp_mono q (postS.le (l.trans l2))⟩
        | ct m2 h2 => exact fun ρ2 H2 σ2 l2 s' t => ⟨ρ2, m2, h2, s', t, Tr.wp_mono q (postS.le (l.trans l2))⟩
        | bk m2 h2 => exact fun ρ2 H2 σ2 l2 s' t => q ρ2 H2 σ2 (l.trans l2) s' t
        | rt v h2 => exact postS.le l (.rt v h2) q
        | ex x m2 h2 => exact exP.le l q
      · rw [if_neg Bool.false_ne_true]
        exact q ρ1 H1 σ2 l s (s2.le l)
end
end
end WK
set_option Elab.async false
set_option linter.all false
set_option maxRecDepth 100000
/-! the heap's changes, walks, for, comprehensions -/
namespace WK
noncomputable section
open PySem L2
open NdefX (NTab TabN TabsN)
/-! ### a labelled thing changes, is let go -/
section
variable {T : Tb} {K : PySem.W.Frag} {ρ : Rho} {h : MH} {H : Hp}
theorem getL_set (l k : Nat) (o : MO) : ∀ es, getL k (setL l o es) = if k = l then (getL l es).map (fun _ => o) else getL k es
  | [] => by
    show none = _
    split <;> rfl
  | (j, u) :: r => by
    show getL k (match Nat.beq l j with | true => (j, o) :: r | false => (j, u) :: setL l o r) = _
    by_cases e : l = j
    · subst e
      rw [beq_self]
      rw [getL_cons, getL_cons, getL_cons, if_pos rfl]
      by_cases z : k = l
      · rw [if_pos z, if_pos z]; rfl
      · rw [if_neg z, if_neg z, if_neg z]
    · rw [beq_ne e]
      show getL k ((j, u) :: setL l o r) = _
      rw [getL_cons, getL_cons, getL_cons, if_neg e, getL_set l k o r]
      by_cases z : k = j
      · rw [if_pos z, if_pos z, if_neg (fun q => e (q.symm.trans z))]
      · rw [if_neg z, if_neg z]
theorem getL_del (l k : Nat) : ∀ es, getL k (delL l es) = if k = l then none else getL k es
  | [] => by
    show none = _
    split <;> rfl
  | (j, u) :: r => by
    show getL k (match Nat.beq l j with | true => delL l r | false => (j, u) :: delL l r) = _
    by_cases e : l = j
    · subst e
      rw [beq_self]
      show getL k (delL l r) = _
      rw [getL_del l k r, getL_cons]
      by_cases z : k = l
      · rw [if_pos z, if_pos z]
      · rw [if_neg z, if_neg z, if_neg z]
    · rw [beq_ne e]
      show getL k ((j, u) :: delL l r) = _
      rw [getL_cons, getL_cons, getL_del l k r]
      by_cases z : k = j
      · rw [if_pos z, if_pos z, if_neg (fun q => e (q.symm.trans z))]
      · rw [if_neg z, if_neg z]
theorem put_get {l k : Nat} {o u : MO} (e : h.get l = some u) : (h.put l o).get k = if k = l then some o else h.get k := by
  show getL k (setL l o h.es) = _
  rw [getL_set]
  by_cases z : k = l
  · rw [if_pos z, if_pos z]
    have e' : getL l h.es = some u := e
    rw [e']; rfl
  · rw [if_neg z, if_neg z]; rfl
theorem own_put {l : Nat} {o u : MO} (e : h.get l = some u) {a : Addr} : Own ρ (h.put l o) a ↔ Own ρ h a := by
  constructor
  · rintro ⟨k, w, q, r⟩
    rw [put_get e] at q
    by_cases z : k = l
    · subst z; exact ⟨k, u, e, r⟩
    · rw [if_neg z] at q; exact ⟨k, w, q, r⟩
  · rintro ⟨k, w, q, r⟩
    by_cases z : k = l
    · subst z; exact ⟨k, o, by rw [put_get e, if_pos rfl], r⟩
    · exact ⟨k, w, by rw [put_get e, if_neg z]; exact q, r⟩
theorem ObR.ntbl {M : Addr → Prop} {a : Addr} {o : MO} {u : HO} (q : ObR T K ρ M H a o) (e : H a = some u) : isTbl u = false := by
  cases o with
  | lst xs => obtain ⟨vs, e', _⟩ := q; rw [e] at e'; cases e'; rfl
  | ins c fs => obtain ⟨dx, gs, e', _⟩ := q; rw [e] at e'; cases e'; rfl
  | dct k kvs =>
    cases k with
    | true => obtain ⟨ps, e', _⟩ := q; rw [e] at e'; cases e'; rfl
    | false => obtain ⟨ps, e', _⟩ := q; rw [e] at e'; cases e'; rfl
  | bag => obtain ⟨b, i, z, c, ns, e', _⟩ := q; rw [e] at e'; cases e'; rfl
theorem SimH.le_put (s : SimH T K ρ h H) {l : Nat} {a : Addr} {o u : MO} {v : HO} (e : h.get l = some u) (r : ρ.at_ l = some a) : Le ρ h H ρ (h.put l o) (upd H a v) where
  ext := fun _ _ q => q
  exv := fun _ _ q => q
  nxt := Nat.le_refl _
  amb := fun _ m => m
  amb2 := fun _ m => .inl m
  own := fun b m => .inl ((own_put e).mp m)
  keep := fun b w q n _ => by
    have z : b ≠ a := fun z => n (z ▸ ⟨l, u, e, r⟩)
    rw [upd_ne z]; exact q
  live := fun b o q => by
    by_cases z : b = a
    · subst z; exact ⟨v, upd_same⟩
    · exact ⟨o, by rw [upd_ne z]; exact q⟩
theorem SimH.put (s : SimH T K ρ h H) {l : Nat} {a : Addr} {o u : MO} {v : HO} (e : h.get l = some u) (r : ρ.at_ l = some a) (q : ObR T K ρ (Mu ρ (h.put l o)) (upd H a v) a o) : SimH T K ρ (h.put l o) (upd H a v) where
  lt := s.lt
  ltv := s.ltv
  tb := s.tb.mv (fun b w q n => by
    have z : b ≠ a := fun z => n (z ▸ .inr ⟨l, u, e, r⟩)
    rw [upd_ne z]; exact q) (fun b ps qt => by
    have z : b ≠ a := fun z => by
      obtain ⟨a', r', x⟩ := s.ob l u e
      rw [r] at r'; cases r'
      subst z
      have := x.ntbl qt
      cases this
    rw [upd_ne z]; exact qt) fun b w q n => (s.le_put (v := v) e r).nomu q n
  inj := fun k k' w w' b e1 e2 r1 r2 => by
    have f : ∀ {k w}, (h.put l o).get k = some w → ∃ w', h.get k = some w' := fun {k w} z => by
      rw [put_get e] at z
      by_cases y : k = l
      · subst y; exact ⟨u, e⟩
      · rw [if_neg y] at z; exact ⟨w, z⟩
    obtain ⟨x1, y1⟩ := f e1
    obtain ⟨x2, y2⟩ := f e2
    exact s.inj k k' x1 x2 b y1 y2 r1 r2
  ob := fun k w z => by
    rw [put_get e] at z
    by_cases y : k = l
    · subst y
      rw [if_pos rfl] at z; cases z
      exact ⟨a, r, q⟩
    · rw [if_neg y] at z
      obtain ⟨b, rb, x⟩ := s.ob k w z
      refine ⟨b, rb, x.le (s.le_put e r) fun t _ et => ?_⟩
      have n : b ≠ a := fun n => y (s.inj k l w u a z e (n ▸ rb) r)
      rw [upd_ne n]; exact et
  am := fun b m => by
    obtain ⟨w, z⟩ := s.am b m
    have n : b ≠ a := fun n => s.dis a ⟨l, u, e, r⟩ (n ▸ m)
    exact ⟨w, by rw [upd_ne n]; exact z⟩
  dis := fun b m => s.dis b ((own_put e).mp m)
theorem own_del {l : Nat} {a : Addr} (m : Own ρ (h.del l) a) : Own ρ h a := by
  obtain ⟨k, w, q, r⟩ := m
  have q' : getL k (delL l h.es) = some w := q
  rw [getL_del] at q'
  by_cases z : k = l
  · rw [if_pos z] at q'; cases q'
  · rw [if_neg z] at q'; exact ⟨k, w, q', r⟩
theorem Le.dl {l : Nat} : Le ρ h H ρ (h.del l) H := ⟨fun _ _ e => e, fun _ _ e => e, Nat.le_refl _, fun _ m => m, fun _ m => .inl m, fun _ m => .inl (own_del m), fun _ _ e _ _ => e, fun _ o e => ⟨o, e⟩⟩
theorem SimH.dl (s : SimH T K ρ h H) {l : Nat} : SimH T K ρ (h.del l) H := by
  have f : ∀ {k w}, (h.del l).get k = some w → h.get k = some w := fun {k w} z => by
    have z' : getL k (delL l h.es) = some w := z
    rw [getL_del] at z'
    by_cases y : k = l
    · rw [if_pos y] at z'; cases z'
    · rw [if_neg y] at z'; exact z'
  refine ⟨s.lt, s.ltv, s.tb.mv (fun _ _ e _ => e) (fun _ _ e => e) (fun _ _ e m => (Le.dl (H := H)).nomu e m), fun k k' w w' b e1 e2 r1 r2 => s.inj k k' w w' b (f e1) (f e2) r1 r2, fun k w z => ?_, s.am, fun b m => s.dis b (own_del m)⟩
  obtain ⟨b, rb, x⟩ := s.ob k w (f z)
  exact ⟨b, rb, x.le Le.dl fun _ _ e => e⟩
/-- what was at the label l stays as it is from now on -/
theorem SimH.dl_not (s : SimH T K ρ h H) {l : Nat} {a : Addr} {o : MO} (e : h.get l = some o) (r : ρ.at_ l = some a) : ¬ Mu ρ (h.del l) a := fun m => by
  rcases m with m | ⟨k, w, q, r'⟩
  · exact s.dis a ⟨l, o, e, r⟩ m
  · have q' : getL k (delL l h.es) = some w := q
    rw [getL_del] at q'
    by_cases z : k = l
    · rw [if_pos z] at q'; cases q'
    · rw [if_neg z] at q'
      exact z (s.inj k l w o a q' e r' r)
end
end
end WK
set_option Elab.async false
set_option linter.all false
set_option maxRecDepth 100000
/-! walks, for, comprehensions -/
namespace WK
noncomputable section
open PySem L2 RZ
abbrev RunI := MS → MH → Tr EL
def WSim (T : Tb) (K : PySem.W.Frag) (ρ : Rho) (h : MH) (H : Hp) (J : It) (xs : List MV) : Prop := ∀ ρ' h' H', Le ρ h H ρ' h' H' → SimH T K ρ' h' H' → J.stop xs.length H' ∧
  ∀ i x, xs[i]? = some x → J.go i H' ∧ ∀ v H'', J.yld i H' v H'' → ∃ ρ'', Le ρ' h' H' ρ'' h' H'' ∧ SimH T K ρ'' h' H'' ∧ Den T K ρ'' (Mu ρ'' h') H'' x v
def postI (T : Tb) (K : PySem.W.Frag) (E : XW) (m : MS) (ρ : Rho) (h : MH) (H : Hp) (R : It → Hp → Prop) : EL → Prop
  | .ok xs h' => ∀ ρ' H' J, Le ρ h H ρ' h' H' → SimH T K ρ' h' H' → WSim T K ρ' h' H' J xs → R J H'
  | .ex x h' => exP T K E m ρ h H x h'
def tI (T : Tb) (K : PySem.W.Frag) (E : XW) (f : RunI) : TI := fun σ H R => ∃ ρ m h, SimH T K ρ h H ∧ SimS T K ρ (Mu ρ h) H m σ ∧ (f m h).wp (postI T K E m ρ h H R)
theorem piI {X : Cx} {tg e : Expr} {t t' : TI} (p : PI X tg e t) (h : ∀ σ H R, t' σ H R → t σ H R) : PI X tg e t' := ⟨fun pins s σ H R I q => p.run pins s σ H R I (h σ H R q)⟩
section
variable {T : Tb} {X : Cx} {E : XW}
def SI (T : Tb) (X : Cx) (E : XW) (tg e : Expr) (f : RunI) : Prop := PI X tg e (tI T X.K E f)
/-! ### over a list or a tuple -/
def iSeq (K : PySem.W.Frag) (tl : TE) : TI := fun σ H R => tl σ H fun x H1 => ∃ a, x = .ref a ∧ (((∃ xs, SqL K H1 a xs) ∧ R (Itl K a) H1) ∨ ((∃ xs, SqT K H1 a xs) ∧ R (Itt K a) H1))
theorem pi_seq {tg l : Expr} {tl : TE} (hl : PE X l tl) : PI X tg l (iSeq X.K tl) := by
  refine ⟨fun pins s σ H R I h => ?_⟩
  refine thn (hl.run pins s σ H _ I h) fun v s1 ⟨x, H1, I1, r1, q1⟩ => ?_
  obtain ⟨a, e, q⟩ := q1
  subst e
  cases r1
  rcases q with ⟨⟨xs, hq⟩, q⟩ | ⟨⟨xs, hq⟩, q⟩
  · obtain ⟨its, rv, p, hz⟩ := I1.list hq
    refine wpAny_pyIter_list p.isList ?_
    refine ⟨s1.heap.objs.size, [s1.heap.objs.size], _, _, H1, rfl, I1.kept (t' := s1.toks) fun b o e => Heap.get?_push_of_some _ e, turn_list a _, ⟨_, Heap.get?_push_size _ rfl, rfl, rfl⟩, fun b hb => ?_, q⟩
    have e : b = s1.heap.objs.size := by simpa using hb
    subst e
    exact I1.fpOk (Nat.le_refl _) (I1.hok.fresh (Nat.le_refl _))
  · obtain ⟨its, rv, p, hz⟩ := I1.tuple hq
    refine wpAny_pyIter_tuple (show s1.heap.IsTuple a its.toArray from p) ?_
    refine ⟨s1.heap.objs.size, [s1.heap.objs.size], _, _, H1, rfl, I1.kept (t' := s1.toks) fun b o e => Heap.get?_push_of_some _ e, turn_tuple a _, ⟨_, Heap.get?_push_size _ rfl, rfl, rfl⟩, fun b hb => ?_, q⟩
    have e : b = s1.heap.objs.size := by simpa using hb
    subst e
    exact I1.fpOk (Nat.le_refl _) (I1.hok.fresh (Nat.le_refl _))
theorem DenL.nthE {K : PySem.W.Frag} {ρ : Rho} {M : Addr → Prop} {H : Hp} : ∀ {xs : List MV} {vs : List V} {i : Nat} {x : MV}, DenL T K ρ M H xs vs → xs[i]? = some x → ∃ v, vs[i]? = some v ∧ Den T K ρ M H x v
  | _, _, _, _, .nil, e => by cases e
  | _, _, 0, _, .cons d r, e => by cases e; exact ⟨_, rfl, d⟩
  | _, _, i + 1, _, .cons d r, e => by
    obtain ⟨v, e1, e2⟩ := DenL.nthE (i := i) r (by simpa using e)
    exact ⟨v, by simpa using e1, e2⟩
theorem wsim_l {K : PySem.W.Frag} {ρ : Rho} {h : MH} {H : Hp} {xs : List MV} {vs : List V} {a : Addr} (n : ¬ Mu ρ h a) (e : H a = some (.lst vs)) (d : DenL T K ρ (Mu ρ h) H xs vs) : WSim T K ρ h H (Itl K a) xs := fun ρ' h' H' l s =>
  have e' := l.kp e n rfl
  ⟨⟨vs, SqL.of e', by rw [d.length]; exact Nat.le_refl _⟩, fun i x q => by
    obtain ⟨v, e1, e2⟩ := (d.le l).nthE q
    refine ⟨⟨vs, v, SqL.of e', e1⟩, fun v' H'' y => ?_⟩
    obtain ⟨rfl, y⟩ := y
    have z := y vs (SqL.of e')
    rw [e1] at z; cases z
    exact ⟨ρ', Le.refl, s, e2⟩⟩
theorem wsim_t {K : PySem.W.Frag} {ρ : Rho} {h : MH} {H : Hp} {xs : List MV} {vs : List V} {a : Addr} (k : ∀ ρ' h' H', Le ρ h H ρ' h' H' → SqT K H' a vs) (d : DenL T K ρ (Mu ρ h) H xs vs) : WSim T K ρ h H (Itt K a) xs := fun ρ' h' H' l s =>
  have e' := k ρ' h' H' l
  ⟨⟨vs, e', by rw [d.length]; exact Nat.le_refl _⟩, fun i x q => by
    obtain ⟨v, e1, e2⟩ := (d.le l).nthE q
    refine ⟨⟨vs, v, e', e1⟩, fun v' H'' y => ?_⟩
    obtain ⟨rfl, y⟩ := y
    have z := y vs e'
    rw [e1] at z; cases z
    exact ⟨ρ', Le.refl, s, e2⟩⟩
/-- the items of what stays as it is -/
def itemsV : MV → Option (List MV)
  | .lst xs => some xs
  | .tup xs => some xs
  | _ => none
def runSq (f : RunE) : RunI := fun m h => (f m h).be (fun x h1 => match itemsV x with
  | some xs => .ret (.ok xs h1)
  | none => .bad) exL
theorem den_tupL {K : PySem.W.Frag} {ρ : Rho} {h : MH} {H : Hp} {xs : List MV} {v : V} (d : Den T K ρ (Mu ρ h) H (.tup xs) v) : ∃ a vs, v = .ref a ∧ SqT K H a vs ∧ (∀ ρ' h' H', Le ρ h H ρ' h' H' → SqT K H' a vs) ∧ DenL T K ρ (Mu ρ h) H xs vs := by
  cases d with
  | tup n r d => exact ⟨_, _, rfl, SqT.of r, fun ρ' h' H' l => SqT.of (l.kp r n rfl), d⟩
  | tupK s d => exact ⟨_, _, rfl, s _, fun _ _ _ _ => s _, d⟩
theorem i_seq {tg e : Expr} {f : RunE} (he : SE T X E e f) : SI T X E tg e (runSq f) :=
  piI (pi_seq he.v) fun σ H R ⟨ρ, m, h, s1, s2, w⟩ => ⟨ρ, m, h, s1, s2, Tr.wp_mono (Tr.wp_be w) fun r q => by
    cases r with
    | ex x h1 => exact q
    | ok x h1 =>
      intro ρ1 H1 v l s d
      cases x <;> first | exact q.elim | skip
      · obtain ⟨a, vs, rfl, r, k, d1⟩ := den_tupL d
        exact ⟨a, rfl, .inr ⟨⟨vs, r⟩, q ρ1 H1 _ l s (wsim_t k d1)⟩⟩
      · cases d with
        | lst n r d1 => exact ⟨_, rfl, .inl ⟨⟨_, SqL.of r⟩, q ρ1 H1 _ l s (wsim_l n r d1)⟩⟩⟩
/-! ### range -/
def rngM (lo : Int) (n : Nat) : List MV := Nat.rec (motive := fun _ => Int → List MV) (fun _ => []) (fun _ ih i => .int i :: ih (i + 1)) n lo
theorem rngM_len : ∀ (n : Nat) (lo : Int), (rngM lo n).length = n
  | 0, _ => rfl
  | n + 1, lo => congrArg (· + 1) (rngM_len n (lo + 1))
theorem rngM_at : ∀ (n : Nat) (lo : Int) (i : Nat) (x : MV), (rngM lo n)[i]? = some x → x = .int (lo + i) ∧ i < n
  | 0, _, _, _, e => by cases e
  | n + 1, lo, 0, x, e => by
    have e' : some (MV.int lo) = some x := e
    cases e'
    exact ⟨by simp, Nat.succ_pos _⟩
  | n + 1, lo, i + 1, x, e => by
    have e' : (rngM (lo + 1) n)[i]? = some x := e
    obtain ⟨h1, h2⟩ := rngM_at n (lo + 1) i x e'
    exact ⟨by rw [h1]; congr 1; omega, Nat.succ_lt_succ h2⟩
theorem wsim_r {K : PySem.W.Frag} {ρ : Rho} {h : MH} {H : Hp} {lo : Int} {n : Nat} : WSim T K ρ h H (Itr lo n) (rngM lo n) := fun ρ' h' H' l s =>
  ⟨by show n ≤ _; rw [rngM_len]; exact Nat.le_refl _, fun i x q => by
    obtain ⟨rfl, h2⟩ := rngM_at n lo i x q
    refine ⟨h2, fun v H'' y => ?_⟩
    obtain ⟨rfl, rfl⟩ := y
    exact ⟨ρ', Le.refl, s, .int _⟩⟩
def bd62 (i : Int) : Bool := decide (-(2 ^ 62) ≤ i) && decide (i < 2 ^ 62)
theorem bd62_ok {i : Int} (h : bd62 i = true) : -(2 ^ 62) ≤ i ∧ i < 2 ^ 62 := by
  simp only [bd62, Bool.and_eq_true, decide_eq_true_eq] at h
  exact h
def runRng1 (f : RunL) : RunI := fun m h => Tr.bl (f m h) (fun xs h1 => match xs with
  | [.int j] => match bd62 j with
    | true => .ret (.ok (rngM 0 j.toNat) h1)
    | false => .bad
  | _ => .bad) exL
def runRng2 (f : RunL) : RunI := fun m h => Tr.bl (f m h) (fun xs h1 => match xs with
  | [.int i, .int j] => match bd62 i && bd62 j with
    | true => .ret (.ok (rngM i (j - i).toNat) h1)
    | false => .bad
  | _ => .bad) exL
theorem i_range1 {tg a : Expr} {f : RunL} {p pos : Pos} (hg : Gl X "range") (hm : X.mg "range" = none) (ha : SA T X E [a] f) (hs : starEach [a] X.env = [(false, eval a X.env)]) : SI T X E tg (.Call (.Name "range" p) [a] [] pos) (runRng1 f) :=
  piI (pi_range1 hg hm ha.a hs) fun σ H R ⟨ρ, m, h, s1, s2, w⟩ => ⟨ρ, m, h, s1, s2, Tr.wp_mono (Tr.wp_bl w) fun r q => by
    cases r with
    | ex x h1 => exact q
    | ok xs h1 =>
      intro ρ1 H1 vs l s d
      dsimp only at q
      split at q
      · split at q
        · rename_i c
          obtain ⟨c1, c2⟩ := bd62_ok c
          cases d with
          | cons d1 d2 =>
            cases d2
            cases d1
            exact ⟨_, rfl, c1, c2, q ρ1 H1 _ l s wsim_r⟩
        · exact q.elim
      · exact q.elim⟩
theorem i_range2 {tg a b : Expr} {f : RunL} {p pos : Pos} (hg : Gl X "range") (hm : X.mg "range" = none) (ha : SA T X E [a, b] f) (hs : starEach [a, b] X.env = [(false, eval a X.env), (false, eval b X.env)]) (hs2 : starEach [b] X.env = [(false, eval b X.env)]) :
    SI T X E tg (.Call (.Name "range" p) [a, b] [] pos) (runRng2 f) :=
  piI (pi_range2 hg hm ha.a hs hs2) fun σ H R ⟨ρ, m, h, s1, s2, w⟩ => ⟨ρ, m, h, s1, s2, Tr.wp_mono (Tr.wp_bl w) fun r q => by
    cases r with
    | ex x h1 => exact q
    | ok xs h1 =>
      intro ρ1 H1 vs l s d
      dsimp only at q
      split at q
      · split at q
        · rename_i c
          obtain ⟨c1, c2⟩ := Bool.and_eq_true_iff.mp c
          obtain ⟨c1, c3⟩ := bd62_ok c1
          obtain ⟨c2, c4⟩ := bd62_ok c2
          cases d with
          | cons d1 d2 =>
            cases d2 with
            | cons d2 d3 =>
              cases d3
              cases d1
              cases d2
              exact ⟨_, _, rfl, ⟨c1, c3, c2, c4⟩, q ρ1 H1 _ l s wsim_r⟩
        · exact q.elim
      · exact q.elim⟩
/-! ### zip -/
def zipM : List MV → List MV → List MV
  | x :: xs, y :: ys => .tup [x, y] :: zipM xs ys
  | _, _ => []
theorem zipM_at : ∀ {xs ys : List MV} {i : Nat} {z : MV}, (zipM xs ys)[i]? = some z → ∃ x y, xs[i]? = some x ∧ ys[i]? = some y ∧ z = .tup [x, y]
  | [], _, _, _, e => by simp [zipM] at e
  | _ :: _, [], _, _, e => by simp [zipM] at e
  | x :: xs, y :: ys, 0, z, e => by
    have e' : some (MV.tup [x, y]) = some z := e
    cases e'; exact ⟨x, y, rfl, rfl, rfl⟩
  | x :: xs, y :: ys, i + 1, z, e => by
    have e' : (zipM xs ys)[i]? = some z := e
    obtain ⟨a, b, h1, h2, h3⟩ := zipM_at e'
    exact ⟨a, b, h1, h2, h3⟩
theorem zipM_len : ∀ (xs ys : List MV), (zipM xs ys).length = min xs.length ys.length
  | [], ys => by simp [zipM]
  | _ :: _, [] => by simp [zipM]
  | x :: xs, y :: ys => by
    show (zipM xs ys).length + 1 = _
    rw [zipM_len xs ys, List.length_cons, List.length_cons]
    omega
theorem den_pair {K : PySem.W.Frag} {ρ : Rho} {h : MH} {H : Hp} {x y : MV} {v u : V} {p : Addr} (s : SimH T K ρ h H) (n : H p = none) (d1 : Den T K ρ (Mu ρ h) H x v) (d2 : Den T K ρ (Mu ρ h) H y u) :
    ∃ ρ'', Le ρ h H ρ'' h (upd H p (.tup [v, u])) ∧ SimH T K ρ'' h (upd H p (.tup [v, u])) ∧ Den T K ρ'' (Mu ρ'' h) (upd H p (.tup [v, u])) (.tup [x, y]) (.ref p) :=
  ⟨ρ, Le.neu n, s.neu n, .tup (s.nomu n) upd_same (.cons (d1.le (Le.neu n)) (.cons (d2.le (Le.neu n)) .nil))⟩
theorem wsim_z {K : PySem.W.Frag} {ρ : Rho} {h : MH} {H : Hp} {xs ys : List MV} {vs us : List V} {a b : Addr} (n : ¬ Mu ρ h a) (e : H a = some (.lst vs)) (d : DenL T K ρ (Mu ρ h) H xs vs) (n2 : ¬ Mu ρ h b) (e2 : H b = some (.lst us)) (d2 : DenL T K ρ (Mu ρ h) H ys us) : WSim T K ρ h H (Itz K a b) (zipM xs ys) := fun ρ' h' H' l s =>
  have e' := SqL.of (K := K) (l.kp e n rfl)
  have e2' := SqL.of (K := K) (l.kp e2 n2 rfl)
  ⟨⟨vs, us, e', e2', by rw [zipM_len, d.length, d2.length]; omega⟩, fun i z q => by
    obtain ⟨x, y, h1, h2, rfl⟩ := zipM_at q
    obtain ⟨v, q1, q2⟩ := (d.le l).nthE h1
    obtain ⟨u, q3, q4⟩ := (d2.le l).nthE h2
    refine ⟨⟨vs, us, v, u, e', e2', q1, q3⟩, fun v' H'' yy => ?_⟩
    obtain ⟨T', x', y', rfl, hn, rfl, k1, k2⟩ := yy
    have z1 := k1 vs e'
    have z2 := k2 us e2'
    rw [q1] at z1; cases z1
    rw [q3] at z2; cases z2
    exact den_pair s hn q2 q4⟩
theorem wsim_zT {K : PySem.W.Frag} {ρ : Rho} {h : MH} {H : Hp} {xs ys : List MV} {vs us : List V} {a b : Addr} (k : ∀ ρ' h' H', Le ρ h H ρ' h' H' → SqT K H' a vs) (d : DenL T K ρ (Mu ρ h) H xs vs) (k2 : ∀ ρ' h' H', Le ρ h H ρ' h' H' → SqT K H' b us) (d2 : DenL T K ρ (Mu ρ h) H ys us) : WSim T K ρ h H (ItzT K a b) (zipM xs ys) := fun ρ' h' H' l s =>
  have e' := k ρ' h' H' l
  have e2' := k2 ρ' h' H' l
  ⟨⟨vs, us, e', e2', by rw [zipM_len, d.length, d2.length]; omega⟩, fun i z q => by
    obtain ⟨x, y, h1, h2, rfl⟩ := zipM_at q
    obtain ⟨v, q1, q2⟩ := (d.le l).nthE h1
    obtain ⟨u, q3, q4⟩ := (d2.le l).nthE h2
    refine ⟨⟨vs, us, v, u, e', e2', q1, q3⟩, fun v' H'' yy => ?_⟩
    obtain ⟨T', x', y', rfl, hn, rfl, k1, k2⟩ := yy
    have z1 := k1 vs e'
    have z2 := k2 us e2'
    rw [q1] at z1; cases z1
    rw [q3] at z2; cases z2
    exact den_pair s hn q2 q4⟩
def runZip (f : RunL) : RunI := fun m h => Tr.bl (f m h) (fun xs h1 => match xs with
  | [.lst a, .lst b] => .ret (.ok (zipM a b) h1)
  | [.tup a, .tup b] => .ret (.ok (zipM a b) h1)
  | _ => .bad) exL
theorem i_zip {e e2 : Expr} {f : RunL} {p pos tpos : Pos} {elts : List Expr} {kk : Nat} (hg : Gl X "zip") (hm : X.mg "zip" = none) (ha : SA T X E [e, e2] f) : SI T X E (.Tuple elts kk tpos) (.Call (.Name "zip" p) [e, e2] [] pos) (runZip f) :=
  have hns : notStar e = true ∧ [e2].all notStar = true := Bool.and_eq_true_iff.mp ha.ns
  piI (pi_zipA hg hm ha.a (star_cons hns.1) (by rw [backTo_any]; exact star_all hns.2)) fun σ H R ⟨ρ, m, h, s1, s2, w⟩ => ⟨ρ, m, h, s1, s2, Tr.wp_mono (Tr.wp_bl w) fun r q => by
    cases r with
    | ex x h1 => exact q
    | ok xs h1 =>
      intro ρ1 H1 vs l s d
      dsimp only at q
      split at q
      · cases d with
        | cons d1 d2 =>
          cases d2 with
          | cons d2 d3 =>
            cases d3
            cases d1 with
            | lst n r d1 =>
              cases d2 with
              | lst n2 r2 d2 => exact ⟨_, _, _, _, rfl, .inl ⟨SqL.of r, SqL.of r2, q ρ1 H1 _ l s (wsim_z n r d1 n2 r2 d2)⟩⟩
      · cases d with
        | cons d1 d2 =>
          cases d2 with
          | cons d2 d3 =>
            cases d3
            obtain ⟨a, vs, rfl, r, k, d1⟩ := den_tupL d1
            obtain ⟨b, us, rfl, r2, k2, d2⟩ := den_tupL d2
            exact ⟨_, _, _, _, rfl, .inr ⟨r, r2, q ρ1 H1 _ l s (wsim_zT k d1 k2 d2)⟩⟩
      · exact q.elim⟩
/-! ### for -/
def loopF (g : RunG) (b : RunS) (items : List MV) : RunS := List.rec (motive := fun _ => RunS) nxS (fun x _ ih m h => Tr.bg (g x m h) (fun m1 h1 => (b m1 h1).bind fun r => SR.rec (motive := fun _ => Tr SR) (fun m2 h2 => ih m2 h2) (fun m2 h2 => nxS m2 h2) (fun m2 h2 => ih m2 h2) (fun v h2 => .ret (.rt v h2)) (fun x m2 h2 => .ret (.ex x m2 h2)) r) (fun x m h => .ret (.ex x m h))) items
def runFor (it : RunI) (g : RunG) (b : RunS) : RunS := fun m h => Tr.bl (it m h) (fun xs h1 => loopF g b xs m h1) (exS m)
theorem drop_cons {α : Type} {xs : List α} {i : Nat} {x : α} {r : List α} (e : xs.drop i = x :: r) : xs[i]? = some x ∧ xs.drop (i + 1) = r := by
  constructor
  · rw [← List.head?_drop, e]; rfl
  · rw [← List.tail_drop, e]; rfl
theorem s_for {tg iter : Expr} {body : List Stmt} {pos : Pos} {it : RunI} {g : RunG} {f : RunS} (hp : PassesOwn (model X.prog X.w) X.A X.env X.xe) (hc : X.calm = true) (hi : SI T X E tg iter it) (hg : SG T X E tg g) (hb : SSs T X E body f) (hs : ∀ x, foldedSetIterable iter X.env x = pure x) :
    SS T X E (.For tg iter body [] pos) (runFor it g f) :=
  psI (ps_for hp hc hi hg hb hs) fun D σ H ⟨ρ, m, h, s1, s2, w⟩ => ⟨ρ, m, h, s1, s2, Tr.wp_mono (Tr.wp_bl w) fun r q => by
    cases r with
    | ex x h1 => exact q
    | ok xs h1 =>
      intro ρ1 H1 J l1 s1' ws
      refine ⟨fun i k σ H => ∃ ρ2 m2 h2, k = xs.length - i ∧ i ≤ xs.length ∧ Le ρ1 h1 H1 ρ2 h2 H ∧ SimH T X.K ρ2 h2 H ∧ SimS T X.K ρ2 (Mu ρ2 h2) H m2 σ ∧ (loopF g f (xs.drop i) m2 h2).wp (postS T X.K E ρ2 h2 H D),
        ⟨xs.length, ρ1, m, h1, rfl, Nat.zero_le _, Le.refl, s1', s2.le l1, Tr.wp_mono q (postS.le l1)⟩, ?_⟩
      rintro i k σ2 H2 ⟨ρ2, m2, h2, rfl, hi, l2, t1, t2, w2⟩
      obtain ⟨ws1, ws2⟩ := ws ρ2 h2 H2 l2 t1
      cases e : xs.drop i with
      | nil =>
        have hl : xs.length ≤ i := List.drop_eq_nil_iff.mp e
        have hl2 : i = xs.length := by omega
        rw [e] at w2
        subst hl2
        exact .inl ⟨ws1, w2 ρ2 H2 σ2 Le.refl t1 t2⟩
      | cons x r =>
        obtain ⟨e1, e2⟩ := drop_cons e
        rw [e] at w2
        have hlt : i < xs.length := (List.getElem?_eq_some_iff.mp e1).1
        obtain ⟨go, yl⟩ := ws2 i x e1
        refine .inr ⟨go, fun σ' H' => ∃ ρ' m' h', Le ρ1 h1 H1 ρ' h' H' ∧ SimH T X.K ρ' h' H' ∧ SimS T X.K ρ' (Mu ρ' h') H' m' σ' ∧ (loopF g f (xs.drop (i + 1)) m' h').wp (postS T X.K E ρ' h' H' D), fun σ' H' ⟨ρ', m', h', a1, a2, a3, a4⟩ => ⟨xs.length - (i + 1), by omega, ρ', m', h', rfl, hlt, a1, a2, a3, a4⟩, fun v H' y => ?_⟩
        obtain ⟨ρ3, l3, t3, d3⟩ := yl v H' y
        refine ⟨ρ3, m2, h2, x, t3, t2.le l3, d3, Tr.wp_mono (Tr.wp_bg w2) fun r' q3 => ?_⟩
        cases r' with
        | ex x m4 h4 => exact exP.le l3 q3
        | ok m4 h4 =>
          intro ρ4 H4 σ4 l4 t4 u4
          refine ⟨ρ4, m4, h4, t4, u4, Tr.wp_mono ((Tr.wp_bind _ _ _).mp q3) fun r' q5 => ?_⟩
          have l34 := l3.trans l4
          cases r' with
          | nx m5 h5 => exact fun ρ5 H5 σ5 l5 t5 u5 => ⟨ρ5, m5, h5, l2.trans (l34.trans l5), t5, u5, by rw [e2]; exact Tr.wp_mono q5 (postS.le (l34.trans l5))⟩
          | ct m5 h5 => exact fun ρ5 H5 σ5 l5 t5 u5 => ⟨ρ5, m5, h5, l2.trans (l34.trans l5), t5, u5, by rw [e2]; exact Tr.wp_mono q5 (postS.le (l34.trans l5))⟩
          | bk m5 h5 => exact fun ρ5 H5 σ5 l5 t5 u5 => q5 ρ5 H5 σ5 (l34.trans l5) t5 u5
          | rt v5 h5 => exact postS.le l34 (.rt v5 h5) q5
          | ex x5 m5 h5 => exact exP.le l34 q5⟩
end
end
end WK
set_option Elab.async false
set_option linter.all false
set_option maxRecDepth 100000
/-! comprehensions -/
namespace WK
noncomputable section
open PySem L2
section
variable {T : Tb} {K : PySem.W.Frag}
mutual
theorem Den.mv {ρ ρ' : Rho} {M M' : Addr → Prop} {H H' : Hp} (k : ∀ a o, H a = some o → ¬ M a → isTbl o = false → H' a = some o) (n : ∀ a o, H a = some o → ¬ M a → ¬ M' a) (kr : ∀ l a, ρ.at_ l = some a → ρ'.at_ l = some a) (ks : ∀ l v, ρ.sv l = some v → ρ'.sv l = some v) : ∀ {x : MV} {v : V}, Den T K ρ M H x v → Den T K ρ' M' H' x v
  | _, _, .non => .non
  | _, _, .bl b => .bl b
  | _, _, .int i => .int i
  | _, _, .str x => .str x
  | _, _, .tup m r d => .tup (n _ _ r m) (k _ _ r m rfl) (DenL.mv k n kr ks d)
  | _, _, .tupK s d => .tupK s (DenL.mv k n kr ks d)
  | _, _, .lst m r d => .lst (n _ _ r m) (k _ _ r m rfl) (DenL.mv k n kr ks d)
  | _, _, .ins m r d => .ins (n _ _ r m) (k _ _ r m rfl) (DenF.mv k n kr ks d)
  | _, _, .exc m r m2 r2 d => .exc (n _ _ r m) (k _ _ r m rfl) (n _ _ r2 m2) (k _ _ r2 m2 rfl) (DenF.mv k n kr ks d)
  | _, _, .ref r => .ref (kr _ _ r)
  | _, _, .ati r => .ati (ks _ _ r)
  | _, _, .ats r l => .ats (ks _ _ r) l
  | _, _, .row r o d => .row (evalR_mono ks r) o (Den.mv k n kr ks d)
  | _, _, .num r a b => .num (ks _ _ r) a b
  | _, _, .nst r a b => .nst (ks _ _ r) a b
  | _, _, .dK m r d => .dK (n _ _ r m) (k _ _ r m rfl) (DenK.mv k n kr ks d)
  | _, _, .dN m r y d => .dN (n _ _ r m) (k _ _ r m rfl) y (DenN.mv k n kr ks d)
theorem DenL.mv {ρ ρ' : Rho} {M M' : Addr → Prop} {H H' : Hp} (k : ∀ a o, H a = some o → ¬ M a → isTbl o = false → H' a = some o) (n : ∀ a o, H a = some o → ¬ M a → ¬ M' a) (kr : ∀ l a, ρ.at_ l = some a → ρ'.at_ l = some a) (ks : ∀ l v, ρ.sv l = some v → ρ'.sv l = some v) : ∀ {xs : List MV} {vs : List V}, DenL T K ρ M H xs vs → DenL T K ρ' M' H' xs vs
  | _, _, .nil => .nil
  | _, _, .cons d r => .cons (Den.mv k n kr ks d) (DenL.mv k n kr ks r)
theorem DenF.mv {ρ ρ' : Rho} {M M' : Addr → Prop} {H H' : Hp} (k : ∀ a o, H a = some o → ¬ M a → isTbl o = false → H' a = some o) (n : ∀ a o, H a = some o → ¬ M a → ¬ M' a) (kr : ∀ l a, ρ.at_ l = some a → ρ'.at_ l = some a) (ks : ∀ l v, ρ.sv l = some v → ρ'.sv l = some v) : ∀ {xs : List (Nat × MV)} {vs : List (Str × V)}, DenF T K ρ M H xs vs → DenF T K ρ' M' H' xs vs
  | _, _, .nil => .nil
  | _, _, .cons f d r => .cons f (Den.mv k n kr ks d) (DenF.mv k n kr ks r)
theorem DenK.mv {ρ ρ' : Rho} {M M' : Addr → Prop} {H H' : Hp} (k : ∀ a o, H a = some o → ¬ M a → isTbl o = false → H' a = some o) (n : ∀ a o, H a = some o → ¬ M a → ¬ M' a) (kr : ∀ l a, ρ.at_ l = some a → ρ'.at_ l = some a) (ks : ∀ l v, ρ.sv l = some v → ρ'.sv l = some v) : ∀ {xs : List (MV × MV)} {vs : List (Key × V)}, DenK T K ρ M H xs vs → DenK T K ρ' M' H' xs vs
  | _, _, .nil => .nil
  | _, _, .consI d r => .consI (Den.mv k n kr ks d) (DenK.mv k n kr ks r)
  | _, _, .consS d r => .consS (Den.mv k n kr ks d) (DenK.mv k n kr ks r)
theorem DenN.mv {ρ ρ' : Rho} {M M' : Addr → Prop} {H H' : Hp} (k : ∀ a o, H a = some o → ¬ M a → isTbl o = false → H' a = some o) (n : ∀ a o, H a = some o → ¬ M a → ¬ M' a) (kr : ∀ l a, ρ.at_ l = some a → ρ'.at_ l = some a) (ks : ∀ l v, ρ.sv l = some v → ρ'.sv l = some v) : ∀ {xs : List (MV × MV)} {vs : List (NestedKey × Addr × V)}, DenN T K ρ M H xs vs → DenN T K ρ' M' H' xs vs
  | _, _, .nil => .nil
  | _, _, .cons e d1 d r => .cons e (Den.mv k n kr ks d1) (Den.mv k n kr ks d) (DenN.mv k n kr ks r)
end
theorem ObR.mv {ρ ρ' : Rho} {M M' : Addr → Prop} {H H' : Hp} (k : ∀ a o, H a = some o → ¬ M a → isTbl o = false → H' a = some o) (n : ∀ a o, H a = some o → ¬ M a → ¬ M' a) (kr : ∀ l a, ρ.at_ l = some a → ρ'.at_ l = some a) (ks : ∀ l v, ρ.sv l = some v → ρ'.sv l = some v) {a : Addr} {o : MO} (ka : ∀ u, H a = some u → H' a = some u) (q : ObR T K ρ M H a o) : ObR T K ρ' M' H' a o := by
  cases o with
  | lst xs => obtain ⟨vs, e, d⟩ := q; exact ⟨vs, ka _ e, d.mv k n kr ks⟩
  | ins c fs => obtain ⟨dx, gs, e, d⟩ := q; exact ⟨dx, gs, ka _ e, d.mv k n kr ks⟩
  | dct kk kvs =>
    cases kk with
    | true => obtain ⟨ps, e, d⟩ := q; exact ⟨ps, ka _ e, d.mv k n kr ks⟩
    | false => obtain ⟨ps, e, y, d⟩ := q; exact ⟨ps, ka _ e, y, d.mv k n kr ks⟩
  | bag =>
    obtain ⟨b, i, z, c, ns, e, m, sq, r⟩ := q
    exact ⟨b, i, z, c, ns, ka _ e, n _ _ sq m, k _ _ sq m rfl, r⟩
theorem SimS.mv {ρ ρ' : Rho} {M M' : Addr → Prop} {H H' : Hp} (k : ∀ a o, H a = some o → ¬ M a → isTbl o = false → H' a = some o) (n : ∀ a o, H a = some o → ¬ M a → ¬ M' a) (kr : ∀ l a, ρ.at_ l = some a → ρ'.at_ l = some a) (ks : ∀ l v, ρ.sv l = some v → ρ'.sv l = some v) {m : MS} {σ : St} (s : SimS T K ρ M H m σ) : SimS T K ρ' M' H' m σ :=
  ⟨s.len, fun i x q => let ⟨v, a, b⟩ := s.at_ i x q; ⟨v, a, b.mv k n kr ks⟩⟩
/-! ### a thing that stands apart -/
def rhoA (ρ : Rho) (D : Addr) : Rho := ⟨ρ.at_, fun a => ρ.amb a ∨ a = D, ρ.sv⟩
variable {ρ : Rho} {h : MH} {H : Hp}
theorem Le.apart {D : Addr} {u : HO} (n : H D = none) : Le ρ h H (rhoA ρ D) h (upd H D u) :=
  ⟨fun _ _ e => e, fun _ _ e => e, Nat.le_refl _, fun _ m => .inl m, fun a m => m.elim .inl fun z => .inr (z ▸ n), fun _ m => .inl m, fun a o e _ _ => by rw [upd_ne (ne_of_none e n)]; exact e, fun a o e => ⟨o, by rw [upd_ne (ne_of_none e n)]; exact e⟩⟩
theorem SimH.apart (s : SimH T K ρ h H) {D : Addr} {u : HO} (n : H D = none) : SimH T K (rhoA ρ D) h (upd H D u) :=
  ⟨s.lt, s.ltv, s.tb.mv (fun b o e _ => by rw [upd_ne (ne_of_none e n)]; exact e) (fun b o e => by rw [upd_ne (ne_of_none e n)]; exact e) (fun b o e m => (Le.apart (u := u) n).nomu e m), s.inj, fun l o e => by
    obtain ⟨a, r, q⟩ := s.ob l o e
    exact ⟨a, r, q.le (Le.apart n) fun v _ z => by rw [upd_ne (ne_of_none z n)]; exact z⟩, fun a m => by
    rcases m with m | m
    · obtain ⟨o, e⟩ := s.am a m
      exact ⟨o, by rw [upd_ne (ne_of_none e n)]; exact e⟩
    · exact ⟨u, by rw [m]; exact upd_same⟩, fun a m q => by
    rcases q with q | q
    · exact s.dis a m q
    · obtain ⟨o, e⟩ := s.atO m
      rw [q, n] at e; cases e⟩
/-- what stands apart changes -/
theorem SimH.grow (s : SimH T K ρ h H) {D : Addr} {u v : HO} (m : ρ.amb D) (e : H D = some u) (nt : isTbl u = false) : SimH T K ρ h (upd H D v) := by
  have k : ∀ a o, H a = some o → ¬ Mu ρ h a → isTbl o = false → upd H D v a = some o := fun a o ea n _ => by
    rw [upd_ne (fun z : a = D => n (by rw [z]; exact .inl m))]; exact ea
  refine ⟨s.lt, s.ltv, s.tb.mv (fun b o eb n => by rw [upd_ne (fun z : b = D => n (by rw [z]; exact .inl m))]; exact eb) (fun b ps eb => ?_) (fun _ _ _ n => n), s.inj, fun l o el => ?_, fun a q => ?_, s.dis⟩
  · have z : b ≠ D := fun z => by
      rw [z, e] at eb; cases eb; cases nt
    rw [upd_ne z]; exact eb
  · obtain ⟨a, r, q⟩ := s.ob l o el
    refine ⟨a, r, q.mv k (fun _ _ _ n => n) (fun _ _ e => e) (fun _ _ e => e) fun w ew => ?_⟩
    rw [upd_ne (fun z : a = D => s.dis a ⟨l, o, el, r⟩ (by rw [z]; exact m))]; exact ew
  · obtain ⟨o, eo⟩ := s.am a q
    by_cases z : a = D
    · subst z; exact ⟨v, upd_same⟩
    · exact ⟨o, by rw [upd_ne z]; exact eo⟩
/-- less is ambient -/
def rhoU (ρ : Rho) (amb : Addr → Prop) : Rho := ⟨ρ.at_, amb, ρ.sv⟩
theorem mu_U {amb : Addr → Prop} (k : ∀ a, amb a → ρ.amb a) {a : Addr} (m : Mu (rhoU ρ amb) h a) : Mu ρ h a := m.elim (fun q => .inl (k a q)) .inr
theorem SimH.unamb (s : SimH T K ρ h H) {amb : Addr → Prop} (k : ∀ a, amb a → ρ.amb a) : SimH T K (rhoU ρ amb) h H :=
  ⟨s.lt, s.ltv, s.tb.mv (fun _ _ e _ => e) (fun _ _ e => e) (fun _ _ _ n q => n (mu_U k q)), s.inj, fun l o e => by
    obtain ⟨a, r, q⟩ := s.ob l o e
    exact ⟨a, r, ObR.mv (ρ := ρ) (ρ' := rhoU ρ amb) (M := Mu ρ h) (fun _ _ e _ _ => e) (fun _ _ _ n q => n (mu_U k q)) (fun _ _ e => e) (fun _ _ e => e) (fun _ e => e) q⟩, fun a q => s.am a (k a q), fun a m q => s.dis a m (k a q)⟩
/-- a thing that was apart gets a label -/
theorem SimH.adopt (s : SimH T K ρ h H) {amb : Addr → Prop} (k : ∀ a, amb a → ρ.amb a) {p : Addr} {vs : List V} {xs : List MV} (na : ¬ amb p) (mp : ρ.amb p) (e : H p = some (.lst vs)) (d : DenL T K ρ (Mu ρ h) H xs vs) : SimH T K (rhoN (rhoU ρ amb) h.nxt p) (h.new (.lst xs)) H := by
  have up : ∀ {a}, Mu (rhoN (rhoU ρ amb) h.nxt p) (h.new (.lst xs)) a → Mu ρ h a := fun {a} m => by
    rcases m with m | m
    · exact .inl (k a m)
    · rcases (s.unamb k).own_new m with z | z
      · exact .inl (z ▸ mp)
      · exact .inr z
  have kr : ∀ l a, ρ.at_ l = some a → (rhoN (rhoU ρ amb) h.nxt p).at_ l = some a := fun l a r => by
    rw [rhoN_ne (Nat.ne_of_lt (s.lt l a r))]; exact r
  refine ⟨fun l a r => ?_, fun l v r => Nat.lt_succ_of_lt (s.ltv l v r), s.tb.mv (fun _ _ e _ => e) (fun _ _ e => e) (fun _ _ _ n q => n (up q)), fun l l' o o' a e1 e2 r1 r2 => ?_, fun l o el => ?_, fun a q => s.am a (k a q), fun a m q => ?_⟩
  · show l < h.nxt + 1
    by_cases z : l = h.nxt
    · omega
    · rw [rhoN_ne z] at r
      have := s.lt l a r
      omega
  · rw [getL_new] at e1 e2
    have old : ∀ {j : Nat} {w : MO}, h.get j = some w → ρ.at_ j = some p → False := fun {j w} e r => s.dis p ⟨j, w, e, r⟩ mp
    by_cases z : l = h.nxt <;> by_cases z' : l' = h.nxt
    · omega
    · subst z
      rw [rhoN_at] at r1; cases r1
      rw [if_neg z'] at e2
      rw [rhoN_ne z'] at r2
      exact (old e2 r2).elim
    · subst z'
      rw [rhoN_at] at r2; cases r2
      rw [if_neg z] at e1
      rw [rhoN_ne z] at r1
      exact (old e1 r1).elim
    · rw [if_neg z] at e1
      rw [rhoN_ne z] at r1
      rw [if_neg z'] at e2
      rw [rhoN_ne z'] at r2
      exact s.inj l l' o o' a e1 e2 r1 r2
  · rw [getL_new] at el
    by_cases z : l = h.nxt
    · rw [if_pos z] at el; cases el
      subst z
      exact ⟨p, rhoN_at, vs, e, d.mv (fun _ _ e _ _ => e) (fun _ _ _ n q => n (up q)) kr (fun _ _ e => e)⟩
    · rw [if_neg z] at el
      obtain ⟨a, r, x⟩ := s.ob l o el
      exact ⟨a, by rw [rhoN_ne z]; exact r, x.mv (fun _ _ e _ _ => e) (fun _ _ _ n q => n (up q)) kr (fun _ _ e => e) fun _ e => e⟩
  · rcases (s.unamb k).own_new m with z | z
    · exact na (z ▸ q)
    · exact s.dis a z (k a q)
end
/-! ### targets in comprehensions -/
def GC (T : Tb) (K : PySem.W.Frag) (t : TG) (g : RunG) (vs : List Nat) : Prop := ∀ ρ m h x σ H v Q, SimH T K ρ h H → SimS T K ρ (Mu ρ h) H m σ → Den T K ρ (Mu ρ h) H x v →
  (g x m h).wp (fun r => match r with
    | .ok m' h' => ∀ σ', h' = h → SimS T K ρ (Mu ρ h) H m' σ' → wipe σ' vs = wipe σ vs → Q σ' H
    | .ex _ _ _ => False) → t v (wipe σ vs) H Q
section
variable {T : Tb} {K : PySem.W.Frag}
theorem set_none {ρ : Rho} {M : Addr → Prop} {H : Hp} {m : MS} {σ : St} {x : MV} {v : V} (s : SimS T K ρ M H m σ) (i : Nat) (d : Den T K ρ M H x v) : SimS T K ρ M H (setS m i x) ((σ.set i none).set i (some v)) := by
  rw [List.set_set]; exact s.set i d
theorem gc_nm {i : Nat} : GC T K (gName i) (gNm i) [i] := fun ρ m h x σ H v Q s1 s2 d w => by
  exact w _ rfl (set_none s2 i d) (by show ((σ.set i none).set i (some v)).set i none = σ.set i none; rw [List.set_set, List.set_set])
theorem set3 {α : Type} (l : List α) (i j : Nat) (a b c d : α) : (((l.set i a).set j b).set i c).set j d = (l.set i c).set j d := by
  by_cases e : i = j
  · subst e; rw [List.set_set, List.set_set, List.set_set, List.set_set]
  · rw [List.set_comm _ _ (Ne.symm e), List.set_set, List.set_set]
theorem gc_2 {i j : Nat} : GC T K (gTup K 2 (gCons (gName i) (gCons (gName j) gNil))) (gTp 2 (gsCons (gNm i) (gsCons (gNm j) gsNil))) [i, j] := fun ρ m h x σ H v Q s1 s2 d w => by
  unfold gTp at w
  split at w
  · rename_i xs
    obtain ⟨c, w⟩ := ifT_wp w
    obtain ⟨a, vs, rfl, r, d1⟩ := den_tup d
    cases d1 with
    | nil => cases c
    | cons d1 d2 =>
      cases d2 with
      | nil => cases c
      | cons d2 d3 =>
        cases d3 with
        | cons _ _ => cases c
        | nil =>
          refine ⟨a, _, rfl, r, rfl, _, _, rfl, _, _, rfl, rfl, w _ rfl (?_) ?_⟩
          · show SimS T K ρ (Mu ρ h) H (setS (setS m i _) j _) ((((σ.set j none).set i none).set i (some _)).set j (some _))
            by_cases e : i = j
            · subst e
              rw [List.set_set, List.set_set, List.set_set]
              have := (s2.set i d1).set i d2
              rw [List.set_set] at this; exact this
            · rw [List.set_set, List.set_comm _ _ (Ne.symm e), List.set_set]
              exact (s2.set i d1).set j d2
          · show ((((((σ.set j none).set i none).set i (some _)).set j (some _)).set j none).set i none) = (σ.set j none).set i none
            by_cases e : i = j
            · subst e; simp only [List.set_set]
            · rw [List.set_set, List.set_set, List.set_comm _ _ e]; simp only [List.set_set]
  · exact w.elim
end
end
end WK
set_option Elab.async false
set_option linter.all false
set_option maxRecDepth 100000
/-! [e for t in xs if c] -/
namespace WK
noncomputable section
open PySem L2
def EF : XW := fun _ _ _ _ _ => False
def loopC (g : RunG) (c : RunE) (f : RunE) (items : List MV) : MS → MH → List MV → Tr EL := List.rec (motive := fun _ => MS → MH → List MV → Tr EL) (fun _ h acc => .ret (.ok acc.reverse h))
  (fun x _ ih m h acc => Tr.bg (g x m h) (fun m1 h1 => (c m1 h1).be (fun b h2 => br h2 b ((f m1 h2).be (fun y h3 => ih m h3 (y :: acc)) (fun _ _ => .bad)) (ih m h2 acc)) (fun _ _ => .bad)) (fun _ _ _ => .bad)) items
def runLc (mu : Bool) (it : RunI) (g : RunG) (c : RunE) (f : RunE) : RunE := fun m h => Tr.bl (it m h) (fun xs h1 => ifT (leB xs.length sizeLine) (Tr.bl (loopC g c f xs m h1 []) (newL mu) (fun _ _ => .bad))) exE
/-- the test's run, the tests' reading -/
def yesR : RunE := fun _ h => okE (.bl true) h
section
variable {T : Tb} {X : Cx} {E : XW}
def TsOk (T : Tb) (K : PySem.W.Frag) (tt : TT) (c : RunE) : Prop := ∀ σ H Q, tT T K EF c σ H Q → tt σ H Q
theorem ts_yes {K : PySem.W.Frag} : TsOk T K tYes yesR := fun σ H Q ⟨ρ, m, h, s1, s2, w⟩ => by
  obtain ⟨b, e, w⟩ := w
  cases e
  exact w ρ H Le.refl s1
theorem ts_one {K : PySem.W.Frag} {c : RunE} : TsOk T K (tT T K EF c) c := fun _ _ _ w => w
theorem t_lc {mu : Bool} {it : RunI} {g : RunG} {tg : TG} {tt : TT} {c f : RunE} {vs : List Nat} (gc : GC T X.K tg g vs) (tc : TsOk T X.K tt c) (σ : St) (H : Hp) (Q : VK) (w : tE T X.K E (runLc mu it g c f) σ H Q) : tLc (tI T X.K E it) tg tt (tE T X.K EF f) vs σ H Q := by
  obtain ⟨ρ, m, h, s1, s2, w⟩ := w
  refine ⟨ρ, m, h, s1, s2, Tr.wp_mono (Tr.wp_bl w) fun r q => ?_⟩
  cases r with
  | ex x h1 => exact q
  | ok xs h1 =>
    intro ρ1 H1 J l1 s1' ws D nD
    obtain ⟨cs, q⟩ := ifT_wp q
    have csz := leB_ok cs
    refine ⟨fun i k H2 => ∃ ρ2 h2 acc vsA, k = xs.length - i ∧ i ≤ xs.length ∧ acc.length ≤ i ∧ Le ρ1 h1 H1 ρ2 h2 H2 ∧ SimH T X.K ρ2 h2 H2 ∧ ρ2.amb D ∧ (∀ a, ρ1.amb a → ρ2.amb a) ∧ H2 D = some (.lst vsA) ∧ DenL T X.K ρ2 (Mu ρ2 h2) H2 acc.reverse vsA ∧ (Tr.bl (loopC g c f (xs.drop i) m h2 acc) (newL mu) (fun _ _ => .bad)).wp (postE T X.K E m ρ1 h1 H1 Q),
      ⟨xs.length, rhoA ρ1 D, h1, [], [], rfl, Nat.zero_le _, Nat.zero_le _, Le.apart nD, s1'.apart nD, .inr rfl, fun _ z => .inl z, upd_same, .nil, Tr.wp_mono q (postE.le l1)⟩, ?_⟩
    rintro i k H2 ⟨ρ2, h2, acc, vsA, rfl, hi, ha, l2, t2, aD, am, eD, dA, w2⟩
    have sm := (s2.le l1).le l2
    cases e : xs.drop i with
    | nil =>
      have hl : xs.length ≤ i := List.drop_eq_nil_iff.mp e
      have hl2 : i = xs.length := by omega
      subst hl2
      obtain ⟨z1, z2⟩ := ws ρ2 h2 H2 l2 t2
      rw [e] at w2
      refine .inl ⟨z1, ?_⟩
      have w3 : (newL mu acc.reverse h2).wp (postE T X.K E m ρ1 h1 H1 Q) := w2
      have nd : ¬ ρ1.amb D := fun z => by
        obtain ⟨o, eo⟩ := s1'.am D z
        rw [nD] at eo; cases eo
      have nOw : ¬ Own ρ2 h2 D := fun z => t2.dis D z aD
      have lU : Le ρ1 h1 H1 (rhoU ρ2 ρ1.amb) h2 H2 := ⟨l2.ext, l2.exv, l2.nxt, fun _ z => z, fun _ z => .inl z, l2.own, l2.keep, l2.live⟩
      cases mu with
      | false =>
        refine w3 _ H2 _ lU (t2.unamb am) (.lst (fun z => ?_) eD (DenL.mv (ρ := ρ2) (ρ' := rhoU ρ2 ρ1.amb) (M := Mu ρ2 h2) (fun _ _ e _ _ => e) (fun _ _ _ n z => n (mu_U am z)) (fun _ _ e => e) (fun _ _ e => e) dA))
        rcases z with z | z
        · exact nd z
        · exact nOw z
      | true =>
        refine w3 (rhoN (rhoU ρ2 ρ1.amb) h2.nxt D) H2 _ ⟨fun l a r => ?_, fun l v r => l2.exv l v r, Nat.le_succ_of_le l2.nxt, fun _ z => z, fun _ z => .inl z, fun a z => ?_, l2.keep, l2.live⟩ (t2.adopt am nd aD eD dA) (.ref rhoN_at)
        · have r2 := l2.ext l a r
          rw [rhoN_ne (Nat.ne_of_lt (t2.lt l a r2))]; exact r2
        · rcases (t2.unamb am).own_new z with y | y
          · exact .inr (by rw [y]; exact nD)
          · exact l2.own a y
    | cons x rest =>
      obtain ⟨e1, e2⟩ := drop_cons e
      have hlt : i < xs.length := (List.getElem?_eq_some_iff.mp e1).1
      obtain ⟨_, z2⟩ := ws ρ2 h2 H2 l2 t2
      obtain ⟨go, yl⟩ := z2 i x e1
      rw [e] at w2
      refine .inr ⟨go, fun H' => ∃ ρ' h' acc' vs', acc'.length ≤ i + 1 ∧ Le ρ1 h1 H1 ρ' h' H' ∧ SimH T X.K ρ' h' H' ∧ ρ'.amb D ∧ (∀ a, ρ1.amb a → ρ'.amb a) ∧ H' D = some (.lst vs') ∧ DenL T X.K ρ' (Mu ρ' h') H' acc'.reverse vs' ∧ (Tr.bl (loopC g c f (xs.drop (i + 1)) m h' acc') (newL mu) (fun _ _ => .bad)).wp (postE T X.K E m ρ1 h1 H1 Q),
        fun H' ⟨ρ', h', acc', vs', a1, a2, a3, a4, a5, a6, a7, a8⟩ => ⟨xs.length - (i + 1), by omega, ρ', h', acc', vs', rfl, hlt, a1, a2, a3, a4, a5, a6, a7, a8⟩, fun v H3 y => ?_⟩
      obtain ⟨ρ3, l3, t3, d3⟩ := yl v H3 y
      have keepD : ∀ {ρ' h' H' H''} {ρ'' : Rho} {h'' : MH} {us : List V}, Le ρ' h' H' ρ'' h'' H'' → SimH T X.K ρ' h' H' → ρ'.amb D → H' D = some (.lst us) → H'' D = some (.lst us) := fun {ρ' h' H' H'' ρ'' h'' us} l t a e => l.keep D _ e (fun z => t.dis D z a) rfl
      have w3 := (Tr.wp_bind _ _ _).mp w2
      have w4 : (Tr.bg (g x m h2) (fun m1 h1' => (c m1 h1').be (fun b h2 => br h2 b ((f m1 h2).be (fun y h3 => loopC g c f rest m h3 (y :: acc)) (fun _ _ => .bad)) (loopC g c f rest m h2 acc)) (fun _ _ => .bad)) (fun _ _ _ => .bad)).wp _ := w3
      refine gc ρ3 m h2 x σ H3 v _ t3 (sm.le l3) d3 (Tr.wp_mono (Tr.wp_bg w4) fun r' q3 => ?_)
      cases r' with
      | ex _ _ _ => exact q3.elim
      | ok m4 h4 =>
        intro σ4 e4 s4 wip
        subst e4
        refine ⟨wip, tc _ _ _ ⟨ρ3, m4, h4, t3, s4, Tr.wp_mono (Tr.wp_be q3) fun r' q5 => ?_⟩⟩
        cases r' with
        | ex _ _ => exact q5.elim
        | ok b h5 =>
          cases eb : tru h5 b with
          | none => simp only [br_eq, eb] at q5; exact q5.elim
          | some bb =>
            refine ⟨bb, eb, fun ρ5 H5 l5 t5 => ?_⟩
            have l35 := l3.trans l5
            have a3 := l3.amb D aD
            have e3 := keepD l3 t2 aD eD
            have a5 := l5.amb D a3
            have e5 := keepD l5 t3 a3 e3
            cases bb with
            | false =>
              simp only [br_eq, eb] at q5
              show ite _ _ _
              rw [if_neg Bool.false_ne_true]
              exact ⟨ρ5, h5, acc, vsA, Nat.le_succ_of_le ha, l2.trans l35, t5, a5, fun a z => l5.amb a (l3.amb a (am a z)), e5, dA.le l35, by rw [e2]; exact (Tr.wp_bind _ _ _).mpr q5⟩
            | true =>
              simp only [br_eq, eb] at q5
              show ite _ _ _
              rw [if_pos rfl]
              refine ⟨ρ5, m4, h5, t5, s4.le l5, Tr.wp_mono (Tr.wp_be q5) fun r' q6 => ?_⟩
              cases r' with
              | ex _ _ => exact q6.elim
              | ok y h6 =>
                intro ρ6 H6 vy l6 t6 dy
                have a6 := l6.amb D a5
                have e6 := keepD l6 t5 a5 e5
                have l36 := l35.trans l6
                have lB := l2.trans l36
                have nm : ∀ a o, H6 a = some o → ¬ Mu ρ6 h6 a → isTbl o = false → upd H6 D (.lst (vsA ++ [vy])) a = some o := fun a o ea n _ => by
                  rw [upd_ne (fun z : a = D => n (by rw [z]; exact .inl a6))]; exact ea
                have dl := dA.length
                rw [List.length_reverse] at dl
                refine ⟨vsA, e6, by rw [← dl]; omega, ρ6, h6, y :: acc, vsA ++ [vy], by rw [List.length_cons]; omega, ?_, t6.grow a6 e6 rfl, a6, fun a z => l6.amb a (l5.amb a (l3.amb a (am a z))), upd_same, ?_, by rw [e2]; exact (Tr.wp_bind _ _ _).mpr q6⟩
                · exact ⟨lB.ext, lB.exv, lB.nxt, lB.amb, lB.amb2, lB.own, fun a o ea n t => by
                    rw [upd_ne (ne_of_none ea nD)]; exact lB.keep a o ea n t, fun a o ea => by
                    obtain ⟨u, eu⟩ := lB.live a o ea
                    exact ⟨u, by rw [upd_ne (ne_of_none ea nD)]; exact eu⟩⟩
                · rw [List.reverse_cons]
                  exact ((dA.le l36).mv nm (fun _ _ _ n => n) (fun _ _ e => e) (fun _ _ e => e)).app (.cons (dy.mv nm (fun _ _ _ n => n) (fun _ _ e => e) (fun _ _ e => e)) .nil)
theorem s_lc {mu : Bool} {elt tg iter : Expr} {ifs : List Expr} {scope : Scope} {own : List (Str × Nat)} {pos : Pos} {it : RunI} {g : RunG} {t : TG} {tt : TT} {c f : RunE} (hc : X.calm = true) (hN : X.N.Nodup) (hi : SI T X E tg iter it) (ok : BlkOk X.N X.env.scope scope own)
    (hg : ∀ (s : Shared) (H : Hp) (C : Addr) (cl : List (Str × Addr)) (fp : List Addr), PG (X.blk s H scope (compEnvC scope cl C X.env) fp) tg t) (gc : GC T X.K t g (own.map (·.2)))
    (ht : ∀ (s : Shared) (H : Hp) (C : Addr) (cl : List (Str × Addr)) (fp : List Addr), PTs (X.blk s H scope (compEnvC scope cl C X.env) fp) ifs tt) (tc : TsOk T X.K tt c)
    (he : ∀ (s : Shared) (H : Hp) (C : Addr) (cl : List (Str × Addr)) (fp : List Addr), SE T (X.blk s H scope (compEnvC scope cl C X.env) fp) EF elt f) (hs : ∀ x, foldedSetIterable iter X.env x = pure x) :
    SE T X E (.ListComp elt [⟨tg, iter, ifs, 0⟩] scope pos) (runLc mu it g c f) :=
  .ofV (peI (pe_lc hc hN hi ok hg ht (fun s H C cl fp => (he s H C cl fp).v) hs) (t_lc gc tc)) fun _ => rfl
theorem s_setLc {mu : Bool} {i : Nat} {y : Str} {py : Pos} {elt tg iter : Expr} {ifs : List Expr} {scope : Scope} {own : List (Str × Nat)} {pos spos : Pos} {it : RunI} {g : RunG} {t : TG} {tt : TT} {c f : RunE} (hc : X.calm = true) (hN : X.N.Nodup) (hy : X.N[i]? = some y) (hyl : X.env.scope.names.lookup y = some .local)
    (hsw : swapsWith (.ListComp elt [⟨tg, iter, ifs, 0⟩] scope pos) (some (.Name y py)) spos.line X.env = pure true) (hi : SI T X E tg iter it) (ok : BlkOk X.N X.env.scope scope own)
    (hg : ∀ (s : Shared) (H : Hp) (C : Addr) (cl : List (Str × Addr)) (fp : List Addr), PG (X.blk s H scope (compEnvC scope cl C X.env) fp) tg t) (gc : GC T X.K t g (own.map (·.2)))
    (ht : ∀ (s : Shared) (H : Hp) (C : Addr) (cl : List (Str × Addr)) (fp : List Addr), PTs (X.blk s H scope (compEnvC scope cl C X.env) fp) ifs tt) (tc : TsOk T X.K tt c)
    (he : ∀ (s : Shared) (H : Hp) (C : Addr) (cl : List (Str × Addr)) (fp : List Addr), SE T (X.blk s H scope (compEnvC scope cl C X.env) fp) EF elt f) (hs : ∀ x, foldedSetIterable iter X.env x = pure x) :
    SS T X E (.Assign [.Name y py] (.ListComp elt [⟨tg, iter, ifs, 0⟩] scope pos) spos) (runAsg (runLc mu it g c f) (gNm i)) :=
  psI (ps_setLc hc hN hy hyl hsw hi ok hg ht (fun s H C cl fp => (he s H C cl fp).v) hs) fun D σ H w => t_lc (E := E) (mu := mu) (it := it) (g := g) (c := c) (f := f) gc tc σ H _ (by
    obtain ⟨ρ, m, h, s1, s2, w⟩ := w
    refine ⟨ρ, m, h, s1, s2, Tr.wp_mono (Tr.wp_be w) fun r q => ?_⟩
    cases r with
    | ex x h1 => exact q
    | ok x h1 => exact fun ρ1 H1 v l s d => q ρ1 H1 _ l s ((s2.le l).set i d))
end
end
end WK
set_option Elab.async false
set_option linter.all false
set_option maxRecDepth 100000
/-! built-ins -/
namespace WK
noncomputable section
open PySem L2
/-! ### types -/
inductive Ty where
  | nonT | boolT | intT | strT | listT | tupleT | dictT
  deriving DecidableEq
def Ty.nm : Ty → String
  | .nonT => "NoneType" | .boolT => "bool" | .intT => "int" | .strT => "str" | .listT => "list" | .tupleT => "tuple" | .dictT => "dict"
def isTy : Ty → Ty → Bool
  | .nonT, .nonT => true | .boolT, .boolT => true | .boolT, .intT => true | .intT, .intT => true | .strT, .strT => true | .listT, .listT => true | .tupleT, .tupleT => true | .dictT, .dictT => true
  | _, _ => false
theorem isTy_ok (a b : Ty) : kitB a.nm b.nm = some (isTy a b) := by
  cases a <;> cases b <;> decide +kernel
def tyM (h : MH) : MV → Option Ty
  | .non => some .nonT | .bl _ => some .boolT | .int _ => some .intT | .ati _ => some .intT | .str _ => some .strT | .ats _ => some .strT
  | .lst _ => some .listT | .tup _ => some .tupleT
  | .dct true _ => some .dictT
  | .ref l => match h.get l with
    | some (.lst _) => some .listT
    | some (.dct true _) => some .dictT
    | _ => none
  | _ => none
section
variable {T : Tb}
theorem sqT_K {K : PySem.W.Frag} {a : Addr} {vs : List V} (s : ∀ H, SqT K H a vs) : ∃ o, K.lookup a = some o ∧ o.cls = .type "tuple" := by
  rcases s (fun _ => none) with r | ⟨o, its, n, h1, h2, _⟩
  · rcases r with r | ⟨_, r⟩ <;> cases r
  · exact ⟨o, h1, h2⟩
theorem tyM_ok {K : PySem.W.Frag} {ρ : Rho} {h : MH} {H : Hp} {x : MV} {v : V} {t : Ty} (s : SimH T K ρ h H) (e : tyM h x = some t) (d : Den T K ρ (Mu ρ h) H x v) : TyX K H v (.type t.nm) := by
  unfold tyM at e
  split at e
  · cases e; cases d; exact .base .non
  · cases e; cases d; exact .base (.bl _)
  · cases e; cases d; exact .base (.int _)
  · cases e; cases d; exact .base (.int _)
  · cases e; cases d; exact .base (.str _)
  · cases e; cases d; exact .base (.str _)
  · cases e
    cases d with
    | lst n r d => exact .base (.lst r)
  · cases e
    cases d with
    | tup n r d => exact .base (.tup r)
    | tupK s d =>
      obtain ⟨o, h1, h2⟩ := sqT_K s
      exact .kTuple h1 h2
  · cases e
    cases d with
    | dK n r d => exact .base (.dK r)
  · split at e
    · rename_i q
      cases e
      cases d with
      | ref r =>
        obtain ⟨a, r', vs, z, _⟩ := s.ob _ _ q
        rw [r] at r'; cases r'
        exact .base (.lst z)
    · rename_i q
      cases e
      cases d with
      | ref r =>
        obtain ⟨a, r', vs, z, _⟩ := s.ob _ _ q
        rw [r] at r'; cases r'
        exact .base (.dK z)
    · cases e
  · cases e
end
section
variable {T : Tb} {X : Cx} {E : XW}
/-- what follows from a call's arguments -/
def CallS (T : Tb) (X : Cx) (r : List V → Hp → VK → Prop) (k : List MV → MH → Tr ER) : Prop := ∀ ρ h H xs vs m E Q, SimH T X.K ρ h H → DenL T X.K ρ (Mu ρ h) H xs vs → (k xs h).wp (postE T X.K E m ρ h H Q) → r vs H Q
theorem s_biB {id : String} {r : List V → Hp → VK → Prop} {k : List MV → MH → Tr ER} {x : Str} {p pos : Pos} {e : Expr} {es : List Expr} {g : RunL} (hc : CallR X (.builtin id) r) (hk : CallS T X r k) (hg : Gl X x) (hm : X.mg x = none) (hv : bootBuiltins x = some (.builtin id)) (ha : SA T X E (e :: es) g) (hn : x ≠ "__name__") (hdb : (x == ("__debug__" : Str)) = false) :
    SE T X E (.Call (.Name x p) (e :: es) [] pos) (runArgs g k) :=
  have hns : notStar e = true ∧ es.all notStar = true := Bool.and_eq_true_iff.mp ha.ns
  .ofV (peI (pe_callB hc hg hm hv ha.a hn hdb (star_cons hns.1) (by rw [backTo_any]; exact star_all hns.2)) (tA_then hk)) fun _ => rfl
theorem s_biT {n : String} {r : List V → Hp → VK → Prop} {k : List MV → MH → Tr ER} {x : Str} {p pos : Pos} {e : Expr} {es : List Expr} {g : RunL} (hc : CallR X (.type n) r) (hk : CallS T X r k) (hg : Gl X x) (hm : X.mg x = none) (hv : bootBuiltins x = some (.type n)) (ha : SA T X E (e :: es) g) (hn : x ≠ "__name__") (hdb : (x == ("__debug__" : Str)) = false) :
    SE T X E (.Call (.Name x p) (e :: es) [] pos) (runArgs g k) :=
  have hns : notStar e = true ∧ es.all notStar = true := Bool.and_eq_true_iff.mp ha.ns
  .ofV (peI (pe_callTy hc hg hm hv ha.a hn hdb (star_cons hns.1) (by rw [backTo_any]; exact star_all hns.2)) (tA_then hk)) fun _ => rfl
/-! ### len -/
def kLen : List MV → MH → Tr ER := fun xs h => match xs with
  | [.str z] => ifT (leB z.length sizeLine) (okE (.int z.length) h)
  | [x] => match asQ h x with
    | some ys => okE (.int ys.length) h
    | none => .bad
  | _ => .bad
def rLenB (K : PySem.W.Frag) : List V → Hp → VK → Prop := fun xs H Q => (∃ p ys, xs = [.ref p] ∧ (SqL K H p ys ∨ SqT K H p ys) ∧ Q (.int ys.length) H) ∨ (∃ z, xs = [.str z] ∧ z.length ≤ sizeLine ∧ Q (.int z.length) H)
theorem cr_len : CallR X (.builtin "len") (rLenB X.K) := call_len_seq.or call_len_str
theorem kLen_ok : CallS T X (rLenB X.K) kLen := fun ρ h H xs vs m E Q s d w => by
  unfold kLen at w
  split at w
  · obtain ⟨c, w⟩ := ifT_wp w
    cases d with
    | cons d1 d2 => cases d2; cases d1; exact .inr ⟨_, rfl, leB_ok c, post_int s w⟩
  · split at w
    · rename_i e1
      cases d with
      | cons d1 d2 =>
        cases d2
        obtain ⟨a, vs, rfl, r, d3⟩ := den_asQ s e1 d1
        refine .inl ⟨a, vs, rfl, r, ?_⟩
        rw [← d3.length]
        exact post_int s w
    · exact w.elim
  · exact w.elim
/-! ### list, tuple -/
def kList (m : Bool) : List MV → MH → Tr ER := fun xs h => match xs with
  | [x] => match asQ h x with
    | some ys => newL m ys h
    | none => .bad
  | _ => .bad
theorem kList_ok (mu : Bool) : CallS T X (fun xs H Q => ∃ p ys, xs = [.ref p] ∧ (SqL X.K H p ys ∨ SqT X.K H p ys) ∧ ∀ l, H l = none → Q (.ref l) (upd H l (.lst ys))) (kList mu) := fun ρ h H xs vs m E Q s d w => by
  unfold kList at w
  split at w
  · split at w
    · rename_i e1
      cases d with
      | cons d1 d2 =>
        cases d2
        obtain ⟨a, vs, rfl, r, d3⟩ := den_asQ s e1 d1
        exact ⟨a, vs, rfl, r, newL_ok s d3 w⟩
    · exact w.elim
  · exact w.elim
def kTuple : List MV → MH → Tr ER := fun xs h => match xs with
  | [.tup ys] => okE (.tup ys) h
  | [x] => match asL h x with
    | some ys => okE (.tup ys) h
    | none => .bad
  | _ => .bad
theorem kTuple_ok : CallS T X (fun xs H Q => ∃ p ys, xs = [.ref p] ∧ ((SqL X.K H p ys ∧ ∀ l, H l = none → Q (.ref l) (upd H l (.tup ys))) ∨ (SqT X.K H p ys ∧ Q (.ref p) H))) kTuple := fun ρ h H xs vs m E Q s d w => by
  unfold kTuple at w
  split at w
  · cases d with
    | cons d1 d2 =>
      cases d2
      have d1' := d1
      obtain ⟨a, vs, rfl, r, d3⟩ := den_tup d1
      exact ⟨a, vs, rfl, .inr ⟨r, post_den s d1' w⟩⟩
  · split at w
    · rename_i e1
      cases d with
      | cons d1 d2 =>
        cases d2
        obtain ⟨a, vs, rfl, r, d3⟩ := den_asL s e1 d1
        exact ⟨a, vs, rfl, .inl ⟨SqL.of r, post_tup s d3 w⟩⟩
    · exact w.elim
  · exact w.elim
/-! ### all, any of bools -/
def blsM : List MV → Option (List Bool)
  | [] => some []
  | .bl b :: r => match blsM r with
    | some bs => some (b :: bs)
    | none => none
  | _ => none
theorem blsM_ok {K : PySem.W.Frag} {ρ : Rho} {M : Addr → Prop} {H : Hp} : ∀ {xs : List MV} {vs : List V} {bs : List Bool}, blsM xs = some bs → DenL T K ρ M H xs vs → vs = bs.map V.bl
  | [], _, _, e, d => by cases e; cases d; rfl
  | .bl b :: r, _, _, e, d => by
    have e1 : (match blsM r with
      | some bs => some (b :: bs)
      | none => none) = some _ := e
    cases q : blsM r with
    | none => rw [q] at e1; cases e1
    | some bs =>
      rw [q] at e1; cases e1
      cases d with
      | cons d1 d2 => cases d1; rw [blsM_ok q d2]; rfl
def kBools (f : List Bool → Bool) : List MV → MH → Tr ER := fun xs h => match xs with
  | [x] => match asL h x with
    | some ys => match blsM ys with
      | some bs => okE (.bl (f bs)) h
      | none => .bad
    | none => .bad
  | _ => .bad
theorem kBools_ok (f : List Bool → Bool) : CallS T X (fun vs H Q => ∃ (a : Addr) (bs : List Bool), vs = [V.ref a] ∧ SqL X.K H a (bs.map V.bl) ∧ Q (.bl (f bs)) H) (kBools f) := fun ρ h H xs vs m E Q s d w => by
  unfold kBools at w
  split at w
  · split at w
    · rename_i e1
      split at w
      · rename_i e2
        cases d with
        | cons d1 d2 =>
          cases d2
          obtain ⟨a, vs, rfl, r, d3⟩ := den_asL s e1 d1
          rw [blsM_ok e2 d3] at r
          exact ⟨a, _, rfl, SqL.of r, post_bl s w⟩
      · exact w.elim
    · exact w.elim
  · exact w.elim
/-! ### sum, max, min of two, abs -/
def kSum : List MV → MH → Tr ER := fun xs h => match xs with
  | [x] => match asL h x with
    | some ys => match intsM ys with
      | some ns => okE (.int ns.sum) h
      | none => .bad
    | none => .bad
  | _ => .bad
theorem kSum_ok : CallS T X (rSum X.K) kSum := fun ρ h H xs vs m E Q s d w => by
  unfold kSum at w
  split at w
  · split at w
    · rename_i e1
      split at w
      · rename_i e2
        cases d with
        | cons d1 d2 =>
          cases d2
          obtain ⟨a, vs, rfl, r, d3⟩ := den_asL s e1 d1
          rw [intsM_ok e2 d3] at r
          exact ⟨a, _, rfl, SqL.of r, post_int s w⟩
      · exact w.elim
    · exact w.elim
  · exact w.elim
def kI2 (f : Int → Int → Int) : List MV → MH → Tr ER := fun xs h => match xs with
  | [.int i, .int j] => okE (.int (f i j)) h
  | _ => .bad
theorem kI2_ok (f : Int → Int → Int) : CallS T X (fun xs H Q => ∃ i j, xs = [.int i, .int j] ∧ Q (.int (f i j)) H) (kI2 f) := fun ρ h H xs vs m E Q s d w => by
  unfold kI2 at w
  split at w
  · cases d with
    | cons d1 d2 =>
      cases d2 with
      | cons d2 d3 =>
        cases d3; cases d1; cases d2
        exact ⟨_, _, rfl, post_int s w⟩
  · exact w.elim
/-! ### isinstance with built-in types -/
def opIsi (t : Ty) (x : MV) (h : MH) : Tr ER := match tyM h x with
  | some u => okE (.bl (isTy u t)) h
  | none => .bad
theorem s_isiTy {e : Expr} {f : RunE} {n : Str} {t : Ty} {p q pos : Pos} (he : SE T X E e f) (hst : notStar e = true) (hg : Gl X "isinstance") (hm : X.mg "isinstance" = none) (hgt : Gl X n) (hmt : X.mg n = none) (hvt : bootBuiltins n = some (.type t.nm)) (hn : n ≠ "__name__") (hd : (n == ("__debug__" : Str)) = false) :
    SE T X E (.Call (.Name "isinstance" p) [e, .Name n q] [] pos) (run1 f (opIsi t)) :=
  .ofV (peI (pe_callB call_isi hg hm rfl (pa_cons he.v (pa_cons (pe_bltn hgt hmt hvt (show RelV (.ty t.nm) (.type t.nm) from rfl) hn hd) pa_nil) (star_cons hst)) (by decide) (by decide) (star_cons hst)) (t_run1 fun ρ h H x v m E Q s d w => by
    unfold opIsi at w
    split at w
    · rename_i u e1
      exact ⟨v, .ty t.nm, .type u.nm, .type t.nm, _, rfl, .ty _, tyM_ok s e1 d, kit_ty (isTy_ok u t), post_bl s w⟩
    · exact w.elim)) fun _ => rfl
def opIsi2 (t t' : Ty) (x : MV) (h : MH) : Tr ER := match tyM h x with
  | some u => okE (.bl (isTy u t || isTy u t')) h
  | none => .bad
theorem s_isiTy2 {e : Expr} {f : RunE} {n n' : Str} {t t' : Ty} {p q q' pos tp : Pos} {k : Nat} (he : SE T X E e f) (hst : notStar e = true) (hg : Gl X "isinstance") (hm : X.mg "isinstance" = none) (hgt : Gl X n) (hmt : X.mg n = none) (hvt : bootBuiltins n = some (.type t.nm)) (hn : n ≠ "__name__") (hd : (n == ("__debug__" : Str)) = false)
    (hgt' : Gl X n') (hmt' : X.mg n' = none) (hvt' : bootBuiltins n' = some (.type t'.nm)) (hn' : n' ≠ "__name__") (hd' : (n' == ("__debug__" : Str)) = false) :
    SE T X E (.Call (.Name "isinstance" p) [e, .Tuple [.Name n q, .Name n' q'] k tp] [] pos) (run1 f (opIsi2 t t')) :=
  .ofV (peI (pe_callB call_isiT hg hm rfl (pa_cons he.v (pa_cons (pe_tup (pa_cons (pe_bltn hgt hmt hvt (show RelV (.ty t.nm) (.type t.nm) from rfl) hn hd) (pa_cons (pe_bltn hgt' hmt' hvt' (show RelV (.ty t'.nm) (.type t'.nm) from rfl) hn' hd') pa_nil))) pa_nil) (star_cons hst)) (by decide) (by decide) (star_cons hst)) (t_run1 (r := fun v H1 Q => [V.ty t.nm, V.ty t'.nm].length ≤ sizeLine ∧ ∀ a, H1 a = none → rIsiT X.K [v, .ref a] (upd H1 a (.tup [.ty t.nm, .ty t'.nm])) Q) (op := opIsi2 t t') fun ρ h H x v m E Q s d w => by
    unfold opIsi2 at w
    split at w
    · rename_i u e1
      refine ⟨by show 2 ≤ sizeLine; decide, fun a na => ?_⟩
      have d' := d.le (Le.neu (o := .tup [.ty t.nm, .ty t'.nm]) na)
      have s' := s.neu (o := .tup [.ty t.nm, .ty t'.nm]) na
      refine ⟨v, a, _, .type u.nm, [.type t.nm, .type t'.nm], _, rfl, upd_same, .cons (.ty _) (.cons (.ty _) .nil), tyM_ok s' e1 d', ?_, post_bl s' (postE.le (Le.neu na) _ w)⟩
      refine kitAny_cons (kit_ty (isTy_ok u t)) (fun z => kitAny_cons (kit_ty (isTy_ok u t')) (fun z' => ?_) fun z' => by rw [z']; simp) fun z => by rw [z]; rfl
      rw [z, z']; rfl
    · exact w.elim)) fun _ => rfl
end
end
end WK
set_option Elab.async false
set_option linter.all false
set_option maxRecDepth 100000
/-! instances -/
namespace WK
noncomputable section
open PySem L2
section
variable {T : Tb} {K : PySem.W.Frag} {ρ : Rho} {h : MH} {H : Hp}
theorem den_asI {x : MV} {c : Nat} {fs : List (Nat × MV)} {v : V} (s : SimH T K ρ h H) (e : asI h x = some (c, fs)) (d : Den T K ρ (Mu ρ h) H x v) : ∃ a dx gs, v = .ref a ∧ H a = some (.ins (cAd T K c) dx gs) ∧ DenF T K ρ (Mu ρ h) H fs gs := by
  cases x with
  | ins c' fs' =>
    cases e
    cases d with
    | ins n r d => exact ⟨_, _, _, rfl, r, d⟩
  | ref l =>
    have e1 : (match h.get l with
      | some (.ins c fs) => some (c, fs)
      | _ => none) = some (c, fs) := e
    cases q : h.get l with
    | none => rw [q] at e1; cases e1
    | some o =>
      rw [q] at e1
      cases o with
      | ins c' fs' =>
        cases e1
        cases d with
        | ref r =>
          obtain ⟨a, r', dx, gs, z, dd⟩ := s.ob l _ q
          rw [r] at r'; cases r'
          exact ⟨_, dx, gs, rfl, z, dd⟩
      | _ => cases e1
  | _ => cases e
theorem nmS_inj (nd : T.nm.Nodup) {f g : Nat} (hf : f < T.nm.length) (hg : g < T.nm.length) (e : nmS T f = nmS T g) : f = g := by
  unfold nmS at e
  rw [List.getD_eq_getElem?_getD, List.getD_eq_getElem?_getD, List.getElem?_eq_getElem hf, List.getElem?_eq_getElem hg] at e
  have e' : T.nm[f] = T.nm[g] := e
  exact (List.getElem_inj nd).mp e'
theorem lk_cons (f k : Nat) (v : MV) (r : List (Nat × MV)) : lk f ((k, v) :: r) = if f = k then some v else lk f r := by
  by_cases e : f = k
  · subst e
    rw [if_pos rfl]
    show (match Nat.beq f f with | true => some v | false => lk f r) = _
    rw [beq_self]
  · rw [if_neg e]
    show (match Nat.beq f k with | true => some v | false => lk f r) = _
    rw [beq_ne e]
theorem den_lk {M : Addr → Prop} : ∀ {fs : List (Nat × MV)} {gs : List (Str × V)} {f : Nat} {x : MV}, DenF T K ρ M H fs gs → lk f fs = some x → ∃ v, gs.lookup (nmS T f) = some v ∧ Den T K ρ M H x v ∧ f < T.nm.length
  | _, _, _, _, .nil, e => by cases e
  | _, _, f, x, .cons (f := g) (gs := gs) hg d r, e => by
    rw [lk_cons] at e
    by_cases z : f = g
    · subst z
      rw [if_pos rfl] at e; cases e
      exact ⟨_, by simp [List.lookup], d, hg⟩
    · rw [if_neg z] at e
      obtain ⟨v, e1, e2, e3⟩ := den_lk r e
      refine ⟨v, ?_, e2, e3⟩
      have n : (nmS T f == nmS T g) = false := by
        have : nmS T f ≠ nmS T g := fun q => z (nmS_inj T.nd e3 hg q)
        simpa using this
      simp only [List.lookup, n]
      exact e1
theorem den_lkN {M : Addr → Prop} {f : Nat} (hf : f < T.nm.length) : ∀ {fs : List (Nat × MV)} {gs : List (Str × V)}, DenF T K ρ M H fs gs → lk f fs = none → gs.lookup (nmS T f) = none
  | _, _, .nil, e => rfl
  | _, _, .cons (f := g) hg d r, e => by
    rw [lk_cons] at e
    by_cases z : f = g
    · rw [if_pos z] at e; cases e
    · rw [if_neg z] at e
      have n : (nmS T f == nmS T g) = false := by
        have : nmS T f ≠ nmS T g := fun q => z (nmS_inj T.nd hf hg q)
        simpa using this
      simp only [List.lookup, n]
      exact den_lkN hf r e
theorem put_cons (f k : Nat) (v u : MV) (r : List (Nat × MV)) : put f v ((k, u) :: r) = if f = k then (k, v) :: r else (k, u) :: put f v r := by
  by_cases e : f = k
  · subst e
    rw [if_pos rfl]
    show (match Nat.beq f f with | true => (f, v) :: r | false => _) = _
    rw [beq_self]
  · rw [if_neg e]
    show (match Nat.beq f k with | true => (k, v) :: r | false => (k, u) :: put f v r) = _
    rw [beq_ne e]
theorem DenF.put {M : Addr → Prop} {f : Nat} (hf : f < T.nm.length) {x : MV} {v : V} (d : Den T K ρ M H x v) : ∀ {fs : List (Nat × MV)} {gs : List (Str × V)}, DenF T K ρ M H fs gs → DenF T K ρ M H (WK.put f x fs) (putF (nmS T f) v gs)
  | _, _, .nil => .cons hf d .nil
  | _, _, .cons (f := g) hg d1 r => by
    rw [put_cons]
    unfold putF
    by_cases z : f = g
    · subst z
      rw [if_pos rfl, if_pos rfl]
      exact .cons hg d r
    · rw [if_neg z, if_neg (fun q => z (nmS_inj T.nd hf hg q.symm))]
      exact .cons hg d1 (DenF.put hf d r)
theorem DenF.length {M : Addr → Prop} : ∀ {fs : List (Nat × MV)} {gs : List (Str × V)}, DenF T K ρ M H fs gs → fs.length = gs.length
  | _, _, .nil => rfl
  | _, _, .cons _ _ r => congrArg (· + 1) r.length
end
def memN (c : Nat) : List Nat → Bool
  | [] => false
  | d :: r => match Nat.beq c d with
    | true => true
    | false => memN c r
theorem memN_ok : ∀ {c : Nat} {l : List Nat}, memN c l = true → c ∈ l
  | c, d :: r, h => by
    have h' : (match Nat.beq c d with | true => true | false => memN c r) = true := h
    cases e : Nat.beq c d with
    | true => rw [Nat.eq_of_beq_eq_true e]; exact List.mem_cons_self
    | false => rw [e] at h'; exact List.mem_cons_of_mem _ (memN_ok h')
section
variable {T : Tb} {X : Cx} {E : XW}
/-! ### e.f -/
def kFld (cs : List Nat) (f c : Nat) (fs : List (Nat × MV)) (h : MH) : Tr ER := ifT (memN c cs) (okO (lk f fs) h)
def opFld (cs : List Nat) (f : Nat) (x : MV) (h : MH) : Tr ER := match x with
  | .ins c fs => kFld cs f c fs h
  | x => match asI h x with
    | some (c, fs) => kFld cs f c fs h
    | none => .bad
theorem opFld_eq (cs : List Nat) (f : Nat) (x : MV) (h : MH) : opFld cs f x h = (match asI h x with
    | some (c, fs) => kFld cs f c fs h
    | none => .bad) := by
  cases x <;> rfl
/-- what the classes cs are: f is no class's attribute -/
def FldOk (T : Tb) (K : PySem.W.Frag) (cs : List Nat) (f : Nat) : Prop := ∀ c ∈ cs, Cls K (cAd T K c) ∧ NoAttr K (cAd T K c) (nmS T f)
theorem s_fld {e : Expr} {n : Str} {pos : Pos} {g : RunE} {cs : List Nat} {f : Nat} (he : SE T X E e g) (hn : nmS T f = n) (hc : FldOk T X.K cs f) (hb : attributeBase e n X.env (eval e X.env) = eval e X.env) : SE T X E (.Attribute e n pos) (run1 g (opFld cs f)) :=
  .ofV (peI (pe_fld he.v hb) (t_run1 fun ρ h H x v m E Q s d w => by
    rw [opFld_eq] at w
    split at w
    · rename_i c fs e1
      obtain ⟨k, w⟩ := ifT_wp w
      cases e2 : lk f fs with
      | none => rw [e2] at w; exact w.elim
      | some y =>
        rw [e2] at w
        obtain ⟨a, dx, gs, rfl, r, df⟩ := den_asI s e1 d
        obtain ⟨u, q1, q2, _⟩ := den_lk df e2
        obtain ⟨c1, c2⟩ := hc c (memN_ok k)
        rw [hn] at q1 c2
        exact ⟨a, _, dx, gs, u, rfl, r, c1, c2, q1, post_den s q2 w⟩
    · exact w.elim)) fun _ => rfl
/-! ### o.m(..) -/
/-- the def at f is what run says, at any call with all n arguments -/
structure FI (T : Tb) (X : Cx) (d : Nat) (f : Addr) (n : Nat) (run : List MV → MH → Tr ER) : Prop where
  ex : ∃ fd ps, ps.length = n ∧ FnOk X.prog X.w X.K X.mg X.base (L2.CX X.prog X.w) d f fd ps (spF T X.K n run) ∧ Binds X.K fd ps []
/-- the classes' method: the def's place -/
def MthOk (T : Tb) (X : Cx) (d : Nat) (n : Nat) (m : Nat) (tbl : List (Nat × (List MV → MH → Tr ER))) : Prop := m < T.nm.length ∧ ∀ c run, (c, run) ∈ tbl → ∃ g, Cls X.K (cAd T X.K c) ∧ Meth X.K (cAd T X.K c) (nmS T m) g ∧ FI T X d g n run
theorem asc_mem {α : Type} : ∀ {k : Nat} {l : List (Nat × α)} {v : α}, asc k l = some v → (k, v) ∈ l
  | k, (j, u) :: r, v, h => by
    have h' : (match Nat.beq k j with | true => some u | false => asc k r) = some v := h
    cases e : Nat.beq k j with
    | true =>
      rw [e] at h'
      cases h'
      rw [Nat.eq_of_beq_eq_true e]; exact List.mem_cons_self
    | false => rw [e] at h'; exact List.mem_cons_of_mem _ (asc_mem h')
theorem run_fnS2 {d n : Nat} {f : Addr} {run : List MV → MH → Tr ER} {W : XK} {pins : List (Addr × Obj)} {σ : St} {H : Hp} {s : Shared} {Q : VK} {us : List Value} {vs : List V} (F : FI T X d f n run) (hr : Room d X.A) (hx : PassesAt (L2.CX X.prog X.w) X σ W) (I : Inv X pins σ H s) (r : Vals vs us) (q : spF T X.K n run vs H Q W) :
    wpAny (model X.prog X.w) X.A (call (.ref f) us) (EP X pins σ Q) X.xe s := by
  obtain ⟨fd, ps, hl, F1, hb⟩ := F.ex
  exact run_fnSD (sp := spF T X.K n run) (dvs := []) (ds := []) (E := fun _ => W) F1 hr hb .nil hx I r (by rw [List.append_nil]; exact q)
/-- what a method call's receiver leads to -/
def recvM (tbl : List (Nat × (List MV → MH → Tr ER))) (m : Nat) (k : (List MV → MH → Tr ER) → Tr ER) (x : MV) (h : MH) : Tr ER := match asI h x with
  | some (c, fs) => match lk m fs with
    | some _ => .bad
    | none => match asc c tbl with
      | some run => k run
      | none => .bad
  | none => .bad
theorem recvM_wp {tbl : List (Nat × (List MV → MH → Tr ER))} {m : Nat} {k : (List MV → MH → Tr ER) → Tr ER} {x : MV} {h : MH} {Q : ER → Prop} (w : (recvM tbl m k x h).wp Q) : ∃ c fs run, asI h x = some (c, fs) ∧ lk m fs = none ∧ (c, run) ∈ tbl ∧ (k run).wp Q := by
  unfold recvM at w
  split at w
  · rename_i c fs e1
    split at w
    · exact w.elim
    · rename_i e3
      split at w
      · rename_i run e2
        exact ⟨c, fs, run, e1, e3, asc_mem e2, w⟩
      · exact w.elim
  · exact w.elim
def runMth (tbl : List (Nat × (List MV → MH → Tr ER))) (pur : Bool) (m : Nat) (f : RunE) (g : RunL) : RunE := fun ms h => (f ms h).be (fun x h1 => recvM tbl m (fun run => Tr.bl (g ms h1) (fun ys h2 => callP pur run (x :: ys) h2) exE) x h1) exE
def runMth0 (tbl : List (Nat × (List MV → MH → Tr ER))) (pur : Bool) (m : Nat) (f : RunE) : RunE := fun ms h => (f ms h).be (fun x h1 => recvM tbl m (fun run => callP pur run [x] h1) x h1) exE
theorem s_meth {d : Nat} {o : Expr} {m : Nat} {n : Str} {apos pos : Pos} {e : Expr} {es : List Expr} {f : RunE} {g : RunL} {tbl : List (Nat × (List MV → MH → Tr ER))} {pur : Bool} {pl : Sem Bool} (tk : Takes X (wx T X.K E)) (hr : Room d X.A) (ho : SE T X E o f) (ha : SA T X E (e :: es) g) (hn : nmS T m = n) (hm : MthOk T X d ((e :: es).length + 1) m tbl)
    (ht : eval (.Call (.Attribute o n apos) (e :: es) [] pos) X.env = (do
      let ov ← eval o X.env
      standAt apos.atName
      let (f, first) ← holding [ov] (getMethod ov n pl)
      callWith pos f first (backTo pos (starEach (e :: es) X.env)) (backToKw pos (keywordEach [] X.env)))) :
    SE T X E (.Call (.Attribute o n apos) (e :: es) [] pos) (runMth tbl pur m f g) := by
  refine .ofV ⟨fun pins sh σ H Q I hw => ?_⟩ fun _ => rfl
  obtain ⟨ρ, ms, h, s1, s2, w⟩ := hw
  obtain ⟨hml, hm⟩ := hm
  refine PySem.W.methodCall_KW (pl := pl) (thn (ho.v.run pins sh σ H (fun v H1 => ∃ ρ1 h1 x, Le ρ h H ρ1 h1 H1 ∧ SimH T X.K ρ1 h1 H1 ∧ Den T X.K ρ1 (Mu ρ1 h1) H1 x v ∧ (recvM tbl m (fun run => Tr.bl (g ms h1) (fun ys h2 => callP pur run (x :: ys) h2) exE) x h1).wp (postE T X.K E ms ρ1 h1 H1 Q)) I ⟨ρ, ms, h, s1, s2, Tr.wp_mono (Tr.wp_be w) fun r q => ?_⟩) fun u sh1 ⟨v, H1, I1, rv, ρ1, h1, x, l1, t1, dx, w1⟩ => ?_) ht
  · cases r with
    | ex x h1 => exact q
    | ok x h1 => exact fun ρ1 H1 v l s dd => ⟨ρ1, h1, x, l, s, dd, Tr.wp_mono q (postE.le l)⟩
  · obtain ⟨c, fs, run, e1, e3, e2, w1⟩ := recvM_wp w1
    obtain ⟨a, dxa, gs, rfl, r, df⟩ := den_asI t1 e1 dx
    obtain rfl : u = Value.ref a := rv
    obtain ⟨gA, c1, c2, F⟩ := hm c run e2
    rw [hn] at c2
    refine getmeth_ok I1 r c1 c2 (by rw [← hn]; exact den_lkN hml df e3) ?_
    have sm := s2.le l1
    have hns : notStar e = true ∧ es.all notStar = true := Bool.and_eq_true_iff.mp ha.ns
    refine PySem.W.callWith_K (first := [.ref a]) (h₀ := X.base) I.ok.mod.kin c2.kp (thn (ha.a.run pos pins sh1 σ H1 (fun vs H2 => spF T X.K ((e :: es).length + 1) run (.ref a :: vs) H2 Q (fun cls d H' => wx T X.K E cls d σ H')) I1 ⟨ρ1, ms, h1, t1, sm, Tr.wp_mono (ha.n ms h1 _ (Tr.wp_bl w1)) fun r q => ?_⟩) fun us s2 ⟨vs, H2, I2, r, q2⟩ => ⟨I2.kIn, ?_⟩) (star_cons hns.1) (by rw [backTo_any]; exact star_all hns.2)
    · obtain ⟨q, hl⟩ := q
      cases r with
      | ex x h2 => exact q
      | ok ys h2 =>
        intro ρ2 H2 vs l2 s dd
        refine spF_of (pur := pur) s (sm.le l2) (.cons (dx.le l2) dd) ?_ (Tr.wp_mono q (postE.le l2))
        rw [List.length_cons, ← dd.length, hl ys h2 rfl]
    · exact run_fnS2 (us := .ref a :: us) (vs := .ref a :: vs) F hr (passes_wx tk σ) I2 (.cons rfl r) q2
theorem s_meth0 {d : Nat} {o : Expr} {m : Nat} {n : Str} {apos pos : Pos} {f : RunE} {tbl : List (Nat × (List MV → MH → Tr ER))} {pur : Bool} {pl : Sem Bool} (tk : Takes X (wx T X.K E)) (hr : Room d X.A) (ho : SE T X E o f) (hn : nmS T m = n) (hm : MthOk T X d 1 m tbl)
    (ht : eval (.Call (.Attribute o n apos) [] [] pos) X.env = (do
      let ov ← eval o X.env
      standAt apos.atName
      let (f, first) ← holding [ov] (getMethod ov n pl)
      callWith pos f first (backTo pos (starEach [] X.env)) (backToKw pos (keywordEach [] X.env)))) :
    SE T X E (.Call (.Attribute o n apos) [] [] pos) (runMth0 tbl pur m f) := by
  refine .ofV ⟨fun pins sh σ H Q I hw => ?_⟩ fun _ => rfl
  obtain ⟨ρ, ms, h, s1, s2, w⟩ := hw
  obtain ⟨hml, hm⟩ := hm
  refine PySem.W.methodCall_KW (pl := pl) (thn (ho.v.run pins sh σ H (fun v H1 => ∃ ρ1 h1 x, Le ρ h H ρ1 h1 H1 ∧ SimH T X.K ρ1 h1 H1 ∧ Den T X.K ρ1 (Mu ρ1 h1) H1 x v ∧ (recvM tbl m (fun run => callP pur run [x] h1) x h1).wp (postE T X.K E ms ρ1 h1 H1 Q)) I ⟨ρ, ms, h, s1, s2, Tr.wp_mono (Tr.wp_be w) fun r q => ?_⟩) fun u sh1 ⟨v, H1, I1, rv, ρ1, h1, x, l1, t1, dx, w1⟩ => ?_) ht
  · cases r with
    | ex x h1 => exact q
    | ok x h1 => exact fun ρ1 H1 v l s dd => ⟨ρ1, h1, x, l, s, dd, Tr.wp_mono q (postE.le l)⟩
  · obtain ⟨c, fs, run, e1, e3, e2, w1⟩ := recvM_wp w1
    obtain ⟨a, dxa, gs, rfl, r, df⟩ := den_asI t1 e1 dx
    obtain rfl : u = Value.ref a := rv
    obtain ⟨gA, c1, c2, F⟩ := hm c run e2
    rw [hn] at c2
    refine getmeth_ok I1 r c1 c2 (by rw [← hn]; exact den_lkN hml df e3) ?_
    exact PySem.W.callWith_K0 (first := [.ref a]) I1.kIn c2.kp (run_fnS2 (us := [.ref a]) (vs := [.ref a]) F hr (passes_wx tk σ) I1 (.cons rfl .nil) (spF_of (pur := pur) t1 (s2.le l1) (.cons dx .nil) rfl w1))
/-! ### properties -/
def noEx (t : Tr ER) : Tr ER := t.bind fun r => ER.rec (motive := fun _ => Tr ER) okE (fun _ _ => .bad) r
def runProp (tbl : List (Nat × (List MV → MH → Tr ER))) (f : RunE) : RunE := fun ms h => (f ms h).be (fun x h1 => match asI h1 x with
  | some (c, fs) => match asc c tbl with
    | some run => noEx (callP true run [x] h1)
    | none => .bad
  | none => .bad) exE
def PrpOk (T : Tb) (X : Cx) (d : Nat) (n : Str) (tbl : List (Nat × (List MV → MH → Tr ER))) : Prop := ∀ c run, (c, run) ∈ tbl → ∃ p g, Cls X.K (cAd T X.K c) ∧ PropOf X.K (cAd T X.K c) n p g ∧ FI T X d g 1 run
theorem pass_F : Passes (L2.CX X.prog X.w) X.nox (fun _ _ _ => False) := fun pins σ H s e s' I c => by
  obtain ⟨_, _, _, _, _, _, _, _, _, _, _, _, q⟩ := c
  exact q
theorem s_prop {d : Nat} {e : Expr} {n : Str} {pos : Pos} {f : RunE} {tbl : List (Nat × (List MV → MH → Tr ER))} (hr : Room (d + 1) X.A) (he : SE T X E e f) (hp : PrpOk T X d n tbl) (hb : attributeBase e n X.env (eval e X.env) = eval e X.env) : SE T X E (.Attribute e n pos) (runProp tbl f) := by
  refine .ofV ⟨fun pins sh σ H Q I hw => ?_⟩ fun _ => rfl
  obtain ⟨ρ, ms, h, s1, s2, w⟩ := hw
  refine attr_of hb (thn (he.v.run pins sh σ H (fun v H1 => ∃ ρ1 h1 x, Le ρ h H ρ1 h1 H1 ∧ SimH T X.K ρ1 h1 H1 ∧ Den T X.K ρ1 (Mu ρ1 h1) H1 x v ∧ (match asI h1 x with
    | some (c, fs) => match asc c tbl with
      | some run => noEx (callP true run [x] h1)
      | none => .bad
    | none => (.bad : Tr ER)).wp (postE T X.K E ms ρ1 h1 H1 Q)) I ⟨ρ, ms, h, s1, s2, Tr.wp_mono (Tr.wp_be w) fun r q => ?_⟩) fun u sh1 ⟨v, H1, I1, rv, ρ1, h1, x, l1, t1, dx, w1⟩ => ?_)
  · cases r with
    | ex x h1 => exact q
    | ok x h1 => exact fun ρ1 H1 v l s dd => ⟨ρ1, h1, x, l, s, dd, Tr.wp_mono q (postE.le l)⟩
  · split at w1
    · rename_i c fs e1
      split at w1
      · rename_i run e2
        obtain ⟨a, dxa, gs, rfl, r, df⟩ := den_asI t1 e1 dx
        obtain rfl : u = Value.ref a := rv
        obtain ⟨p, g, c1, c2, F⟩ := hp c run (asc_mem e2)
        obtain ⟨fd, ps, hl, F1, hbn⟩ := F.ex
        refine getprop_ok (sp := spF T X.K 1 run) (dvs := []) (ds := []) (E := fun _ _ _ => False) I1 r c1 c2 F1 hr hbn .nil pass_F ?_
        refine ⟨rfl, rhoH ρ1 h1, [x], emp h1, t1.hid, DenL.hid (.cons dx .nil), ?_⟩
        have w2 := (Tr.wp_bind _ _ _).mp w1
        have w3 : (callP true run [x] h1).wp fun r => match r with
          | .ok y h2 => postE T X.K E ms ρ1 h1 H1 Q (.ok y h2)
          | .ex _ _ => False := Tr.wp_mono w2 fun r q => by
          cases r with
          | ok y h2 => exact q
          | ex y h2 => exact q
        refine Tr.wp_mono (Tr.wp_be w3) fun r q => ?_
        cases r with
        | ex y h2 => exact q.elim
        | ok y h2 => exact fun ρ' H' v l s' dv => q _ H' v (l.bck t1) (t1.bck l s') (dv.bck t1 l)
      · exact w1.elim
    · exact w1.elim
end
end
end WK
set_option Elab.async false
set_option linter.all false
set_option maxRecDepth 100000
/-! new instances, fields stored, constants of classes -/
namespace WK
noncomputable section
open PySem L2
section
variable {T : Tb} {X : Cx} {E : XW}
/-- C(..): __init__ runs on a new instance in a heap of its own; the instance stays as it is from then on -/
def runNew (c : Nat) (init : List MV → MH → Tr ER) (xs : List MV) (h : MH) : Tr ER := (init (.ref h.nxt :: xs) ((emp h).new (.ins c []))).be (fun v h1 => match v with
  | .non => match h1.get h.nxt with
    | some (.ins c' fs) => ifT (Nat.beq c' c) (okE (.ins c fs) (bck h h1))
    | _ => .bad
  | _ => .bad) (fun x h1 => exE x (bck h h1))
theorem Le.hidNew {K : PySem.W.Frag} {ρ : Rho} {h : MH} {H : Hp} {c : Nat} {x dx : Addr} (s : SimH T K ρ h H) (nx : H x = none) (nd : H dx = none) (ne : dx ≠ x) :
    let H' := upd (upd H dx (.own x)) x (.ins (cAd T K c) dx [])
    let ρ' := rhoN (rhoH ρ h) h.nxt x
    Le (rhoH ρ h) (emp h) H ρ' ((emp h).new (.ins c [])) H' ∧ SimH T K ρ' ((emp h).new (.ins c [])) H' := by
  have n1 : upd H dx (HO.own x) x = none := by rw [upd_ne (Ne.symm ne)]; exact nx
  have s1 := s.hid.neu (o := .own x) nd
  have l1 : Le (rhoH ρ h) (emp h) H (rhoH ρ h) (emp h) (upd H dx (.own x)) := Le.neu nd
  have l2 : Le (rhoH ρ h) (emp h) (upd H dx (.own x)) (rhoN (rhoH ρ h) h.nxt x) ((emp h).new (.ins c [])) (upd (upd H dx (.own x)) x (.ins (cAd T K c) dx [])) := s1.le_lab (o := .ins (cAd T K c) dx []) (u := .ins c []) n1
  have s2 := s1.lab (o := .ins (cAd T K c) dx []) (u := .ins c []) n1 ⟨dx, [], upd_same, .nil⟩
  exact ⟨l1.trans l2, s2⟩
theorem new_ok {K : PySem.W.Frag} {n c : Nat} {init : List MV → MH → Tr ER} {ρ : Rho} {m : MS} {h : MH} {H : Hp} {σ : St} {xs : List MV} {vs : List V} {Q : VK} (s : SimH T K ρ h H) (s2 : SimS T K ρ (Mu ρ h) H m σ) (d : DenL T K ρ (Mu ρ h) H xs vs) (hn : vs.length + 1 = n)
    (w : (runNew c init xs h).wp (postE T K E m ρ h H Q)) (x dx : Addr) (nx : H x = none) (nd : H dx = none) (ne : dx ≠ x) :
    spF T K n init (.ref x :: vs) (upd (upd H dx (.own x)) x (.ins (cAd T K c) dx [])) (fun v H2 => v = .non ∧ Q (.ref x) H2) (fun cls d H' => wx T K E cls d σ H') := by
  obtain ⟨l0, s0⟩ := Le.hidNew (c := c) s nx nd ne
  refine ⟨hn, rhoN (rhoH ρ h) h.nxt x, .ref h.nxt :: xs, (emp h).new (.ins c []), s0, .cons (.ref rhoN_at) (d.hid.le l0), Tr.wp_mono (Tr.wp_be w) fun r q => ?_⟩
  cases r with
  | ex y h1 => exact fun ρ' H' cls da l s' xd => ⟨_, m, _, y, s.bck (l0.trans l) s', s2.le (Le.bck s (l0.trans l)), xd.bck s (l0.trans l), q _ H' (Le.bck s (l0.trans l)) (s.bck (l0.trans l) s')⟩
  | ok v h1 =>
    intro ρ' H' u l s' dv
    dsimp only at q
    split at q
    · cases dv
      refine ⟨rfl, ?_⟩
      split at q
      · rename_i c' fs e1
        obtain ⟨cc, q⟩ := ifT_wp q
        have cc := Nat.eq_of_beq_eq_true cc
        subst cc
        have L := l0.trans l
        obtain ⟨a, ra, dx', gs, ea, df⟩ := s'.ob _ _ e1
        have rx := l.ext h.nxt x rhoN_at
        rw [rx] at ra; cases ra
        refine q (rhoB ρ ρ') H' _ (Le.bck s L) (s.bck L s') (.ins (fun mu => ?_) ea ?_)
        · rcases mu with mu | mu
          · obtain ⟨o, eo⟩ := s.am x mu
            rw [nx] at eo; cases eo
          · obtain ⟨o, eo⟩ := s.atO (own_bck s L mu)
            rw [nx] at eo; cases eo
        · exact DenF.sub (ρ := ρ') (ρ' := rhoB ρ ρ') (fun a mu => mu_bck s L mu) rfl rfl df
      · exact q.elim
    · exact q.elim
theorem run_makeS {C f : Addr} {k : Nat} {fd : FuncData} {ps : List Str} {sp : Sp} {W : XK} {pins : List (Addr × Obj)} {σ : St} {H : Hp} {s : Shared} {Q : VK} {us : List Value} {vs : List V} (M : Mk X.K C f) (F : FnOk X.prog X.w X.K X.mg X.base (L2.CX X.prog X.w) k f fd ps sp) (hr : Room (k + 1) X.A) (hb : Binds X.K fd ps [])
    (hx : ∀ pins H s e s', Inv X pins σ H s → L2.CX X.prog X.w X.stack H s W e s' → X.xe e s') (I : Inv X pins σ H s) (r : Vals vs us)
    (h : ∀ x dx, H x = none → H dx = none → dx ≠ x → sp (.ref x :: vs) (upd (upd H dx (.own x)) x (.ins C dx [])) (fun v H2 => v = .non ∧ Q (.ref x) H2) W) :
    wpAny (model X.prog X.w) X.A (call (.ref C) us) (EP X pins σ Q) X.xe s := by
  have hq := h (s.heap.objs.size + 1) s.heap.objs.size (I.hok.fresh (Nat.le_succ _)) (I.hok.fresh (Nat.le_refl _)) (Nat.ne_of_lt (Nat.lt_succ_self _))
  have I2 := Inv.made (C := C) I
  have r2 : Vals (V.ref (s.heap.objs.size + 1) :: vs) (Value.ref (s.heap.objs.size + 1) :: us) := .cons rfl r
  have hl : (Value.ref (s.heap.objs.size + 1) :: us).length = ps.length := by
    have e := r2.length
    rw [F.len _ _ _ _ hq] at e
    exact e.symm
  refine wpAny_call (make_map (f := f) I.kIn M.makes M.init (beq_iff_eq.mp M.fn) (codeAny_mono (F.run _ X.stack _ _ ⟨Value.ref (s.heap.objs.size + 1) :: us, []⟩ (Value.ref (s.heap.objs.size + 1) :: us) _ _ W (hr.make C us [])
    (I2.env0.make C us []) (by have z := hb _ (Value.ref (s.heap.objs.size + 1) :: us) I2.kIn (by rw [List.append_nil]; exact hl); rw [List.append_nil] at z; exact z) r2 hq) fun r s' hq' => ?_))
  cases r with
  | error e => exact hx pins _ _ e s' I2 hq'
  | ok fl =>
    cases fl with
    | ret u =>
      obtain ⟨v, H', I3, rv, ev, q3⟩ := I2.after hq'
      subst ev
      exact ⟨rv, ⟨V.ref (s.heap.objs.size + 1), H', I3, rfl, q3⟩⟩
    | next => exact False.elim hq'
    | brk => exact False.elim hq'
    | cont => exact False.elim hq'
theorem s_new {d c : Nat} {f : Addr} {init : List MV → MH → Tr ER} {x : Str} {e : Expr} {es : List Expr} {p pos : Pos} {g : RunL} (tk : Takes X (wx T X.K E)) (hr : Room (d + 1) X.A) (M : Mk X.K (cAd T X.K c) f) (F : FI T X d f ((e :: es).length + 1) init) (hg : Gl X x) (hm : X.mg x = some (.ref (cAd T X.K c))) (ha : SA T X E (e :: es) g) (hx : (x == ("__debug__" : Str)) = false) :
    SE T X E (.Call (.Name x p) (e :: es) [] pos) (runArgs g (runNew c init)) := by
  obtain ⟨fd, ps, hl, F1, hb⟩ := F.ex
  have hns : notStar e = true ∧ es.all notStar = true := Bool.and_eq_true_iff.mp ha.ns
  refine .ofV ⟨fun pins sh σ H Q I hw => ?_⟩ fun _ => rfl
  refine wpAny_Call_Name_kw (ld_glob I hg hm ?_ hx)
  refine PySem.W.callWith_K (h₀ := X.base) I.ok.mod.kin M.kp (thn (ha.a.run pos pins sh σ H (fun vs H1 => ∀ x dx, H1 x = none → H1 dx = none → dx ≠ x → spF T X.K ((e :: es).length + 1) init (.ref x :: vs) (upd (upd H1 dx (.own x)) x (.ins (cAd T X.K c) dx [])) (fun v H2 => v = .non ∧ Q (.ref x) H2) (fun cls d H' => wx T X.K E cls d σ H')) I ?_) fun us s1 ⟨vs, H1, I1, r, q⟩ => ⟨I1.kIn, ?_⟩) (star_cons hns.1) (by rw [backTo_any]; exact star_all hns.2)
  · obtain ⟨ρ, m, h, s1, s2, w⟩ := hw
    refine ⟨ρ, m, h, s1, s2, Tr.wp_mono (ha.n m h _ (Tr.wp_bl w)) fun r q => ?_⟩
    obtain ⟨q, hn⟩ := q
    cases r with
    | ex y h1 => exact q
    | ok ys h1 =>
      intro ρ1 H1 vs l s dd
      exact new_ok s (s2.le l) dd (by rw [← dd.length, hn ys h1 rfl]) (Tr.wp_mono q (postE.le l))
  · exact run_makeS (sp := spF T X.K ((e :: es).length + 1) init) (W := fun cls d H' => wx T X.K E cls d σ H') M F1 hr hb (passes_wx tk σ) I1 r q
/-! ### self.f = e -/
def stFld (cs : List Nat) (f : Nat) (x v : MV) (ms : MS) (h : MH) : Tr GR := match x with
  | .ref l => match h.get l with
    | some (.ins c fs) => match memN c cs && leB fs.length 100 with
      | true => .ret (.ok ms (h.put l (.ins c (put f v fs))))
      | false => .bad
    | _ => .bad
  | _ => .bad
def gFld (cs : List Nat) (f : Nat) (g : RunE) : RunG := fun v ms h => (g ms h).be (fun x h1 => stFld cs f x v ms h1) (fun x h1 => .ret (.ex x ms h1))
theorem st_put {K : PySem.W.Frag} {ρ : Rho} {h : MH} {H : Hp} {l c : Nat} {a : Addr} {f : Nat} {fs : List (Nat × MV)} {gs : List (Str × V)} {dx : Addr} {x : MV} {v : V} (s : SimH T K ρ h H) (e : h.get l = some (.ins c fs)) (r : ρ.at_ l = some a) (ea : H a = some (.ins (cAd T K c) dx gs)) (hf : f < T.nm.length) (df : DenF T K ρ (Mu ρ h) H fs gs) (dv : Den T K ρ (Mu ρ h) H x v) :
    Le ρ h H ρ (h.put l (.ins c (put f x fs))) (upd H a (.ins (cAd T K c) dx (putF (nmS T f) v gs))) ∧ SimH T K ρ (h.put l (.ins c (put f x fs))) (upd H a (.ins (cAd T K c) dx (putF (nmS T f) v gs))) :=
  have L := s.le_put (v := .ins (cAd T K c) dx (putF (nmS T f) v gs)) (o := .ins c (put f x fs)) e r
  ⟨L, s.put e r ⟨dx, _, upd_same, (DenF.put hf dv df).le L⟩⟩
theorem g_fld {o : Expr} {n : Str} {pos : Pos} {g : RunE} {cs : List Nat} {f : Nat} (ho : SE T X E o g) (hn : nmS T f = n) (hf : f < T.nm.length) (hc : FldOk T X.K cs f) : SG T X E (.Attribute o n pos) (gFld cs f g) := by
  refine ⟨fun pins sh σ H v u Q I ru hw => ?_⟩
  obtain ⟨ρ, ms, h, x, s1, s2, dx, w⟩ := hw
  rw [PySem.assign_Attribute]
  refine wpAny_bind (wpAny_holding (thn (ho.v.run pins sh σ H (fun y H1 => ∃ ρ1 h1 z, Le ρ h H ρ1 h1 H1 ∧ SimH T X.K ρ1 h1 H1 ∧ Den T X.K ρ1 (Mu ρ1 h1) H1 z y ∧ (stFld cs f z x ms h1).wp (postG T X.K E ρ1 h1 H1 Q)) I ⟨ρ, ms, h, s1, s2, Tr.wp_mono (Tr.wp_be w) fun r q => ?_⟩) fun ov sh1 ⟨y, H1, I1, r1, ρ1, h1, z, l1, t1, dz, w1⟩ => ?_))
  · cases r with
    | ex y h1 => exact q
    | ok y h1 => exact fun ρ1 H1 y l s d => ⟨ρ1, h1, _, l, s, d, Tr.wp_mono q (postG.le l)⟩
  · unfold stFld at w1
    split at w1
    · split at w1
      · rename_i c fs e1
        split at w1
        · rename_i l _ _ _ cc
          obtain ⟨c1, c2⟩ := Bool.and_eq_true_iff.mp cc
          cases dz with
          | ref r =>
            obtain ⟨a, r', dxa, gs, ea, df⟩ := t1.ob _ _ e1
            rw [r] at r'; cases r'
            obtain rfl : ov = Value.ref _ := r1
            obtain ⟨k1, k2⟩ := hc c (memN_ok c1)
            rw [hn] at k2
            have le := leB_ok c2
            rw [df.length] at le
            obtain ⟨L, S⟩ := st_put t1 e1 r ea hf df (dx.le l1)
            rw [hn] at L S
            refine wpAny_bind (wpAny_standAt (wpAny_bind (wpAny_holding (setattr_ok I1 ea k1 k2 (by omega) ru fun s3 I3 => ?_))))
            exact wpAny_release ⟨σ, _, I3, w1 ρ1 _ σ L S (s2.le (l1.trans L))⟩
        · exact w1.elim
      · exact w1.elim
    · exact w1.elim
/-! ### constants of classes -/
theorem s_cval {C : Addr} {mc : Value} {x n : Str} {i : Int} {u : Value} {p pos : Pos} (hg : Gl X x) (hm : X.mg x = some (.ref C)) (r : ClX.CRead X.K C mc) (k : ClX.CVal X.K C mc n (.int i) u) (hx : (x == ("__debug__" : Str)) = false) : SE T X E (.Attribute (.Name x p) n pos) (fun _ h => okE (.int i) h) :=
  s_con (v := .int i) (peI (ClX.pe_cval (pe_glob (v := .ref C) hg hm rfl hx)) fun σ H Q w => ⟨C, mc, .int i, u, rfl, r, k, w⟩) (fun _ _ _ => .int i) fun _ => rfl
end
end
end WK
set_option Elab.async false
set_option linter.all false
set_option maxRecDepth 100000
/-! exceptions: made and raised; try -/
namespace WK
noncomputable section
open PySem L2
open PySem.Spec PyProof.Rows
/-- B.__init__ is ValueError's -/
structure VeC (K : PySem.W.Frag) (B : Addr) (mc : Value) : Prop where
  rd : ClX.CRead K B mc
  at_ : PySem.W.findCls K (.ref B) mc "__init__" = some (.val (.builtin "ValueError.__init__"))
section
variable {X : Cx} {e : Expr} {es : List Expr} {ta : TA} {p1 p2 pos : Pos}
theorem pe_cveinit {pl : Sem Bool} {B : Addr} {mc : Value} {x : Str} (hg : Gl X x) (hm : X.mg x = some (.ref B)) (hx : (x == ("__debug__" : Str)) = false) (V : VeC X.K B mc) (ha : PA X (e :: es) ta)
    (hc : eval (.Call (.Attribute (.Name x p1) "__init__" p2) (e :: es) [] pos) X.env = (do
      let ov ← eval (.Name x p1) X.env
      standAt p2.atName
      let (f, first) ← holding [ov] (getMethod ov "__init__" pl)
      callWith pos f first (backTo pos (starEach (e :: es) X.env)) (backToKw pos (keywordEach [] X.env))))
    (he : starEach (e :: es) X.env = (false, eval e X.env) :: starEach es X.env) (hpl : (backTo pos (starEach es X.env)).any (·.1) = false) :
    PE X (.Call (.Attribute (.Name x p1) "__init__" p2) (e :: es) [] pos) (tVeI X.K ta) := by
  refine ⟨fun pins s σ H Q I h => ?_⟩
  refine PySem.W.methodCall_KW (ld_glob I hg hm ?_ hx) hc
  refine PySem.W.method_cls I.kIn V.rd.ga (PySem.W.cls_value I.kIn V.rd.rd V.at_ rfl ?_)
  show wpAny _ _ (callWith pos (Value.builtin "ValueError.__init__") [] (backTo pos (starEach (e :: es) X.env)) []) _ _ _
  refine PyProof.Rows.callWith_method1 (thn (ha.run pos pins _ σ H _ (I.tok _) h) fun us s1 ⟨vs, H1, I1, r1, a, C, ws, ev, hl, T, ea, q⟩ => ?_) he hpl
  subst ev
  cases r1 with
  | @cons _ u0 _ ur ra rw' =>
    obtain rfl : u0 = Value.ref a := ra
    have hlen : ur.length ≤ sizeLine := by
      rw [← Paired.length rw', sizeLine_eq]
      omega
    exact oinit_ok T I1 ea hlen fun s' J => ⟨.non, H1, J, rfl, q⟩
end
/-! ### a def -/
def slots (n : Nat) : MS := Nat.rec (motive := fun _ => MS) [] (fun _ ih => none :: ih) n
def appS (xs : List MV) (m : MS) : MS := List.rec (motive := fun _ => MS) m (fun x _ ih => some x :: ih) xs
def endD (t : Tr SR) : Tr ER := t.bind fun r => SR.rec (motive := fun _ => Tr ER) (fun _ h => okE .non h) (fun _ _ => .bad) (fun _ _ => .bad) (fun v h => okE v h) (fun x _ h => exE x h) r
/-- a def with j slots beside its parameters -/
def runDef (j : Nat) (b : RunS) : List MV → MH → Tr ER := fun xs h => endD (b (appS xs (slots j)) h)
theorem slots_len : ∀ n, (slots n).length = n
  | 0 => rfl
  | n + 1 => congrArg (· + 1) (slots_len n)
theorem slots_at : ∀ (n i : Nat) (x : MV), (slots n)[i]? ≠ some (some x)
  | 0, i, x, e => by cases e
  | n + 1, 0, x, e => by cases e
  | n + 1, i + 1, x, e => slots_at n i x (by simpa [slots] using e)
theorem appS_len : ∀ (xs : List MV) (m : MS), (appS xs m).length = xs.length + m.length
  | [], m => by simp [appS]
  | x :: r, m => by
    show (appS r m).length + 1 = _
    rw [appS_len r m, List.length_cons]; omega
theorem start_at {T : Tb} {K : PySem.W.Frag} {ρ : Rho} {M : Addr → Prop} {H : Hp} {j : Nat} (r : L2.St) : ∀ {xs : List MV} {vs : List V} {i : Nat} {x : MV}, DenL T K ρ M H xs vs → (appS xs (slots j))[i]? = some (some x) → ∃ v, (vs.map some ++ r)[i]? = some (some v) ∧ Den T K ρ M H x v
  | _, _, i, x, .nil, e => absurd e (slots_at j i x)
  | _, _, 0, x, .cons d1 d2, e => by cases e; exact ⟨_, rfl, d1⟩
  | _, _, i + 1, x, .cons d1 d2, e => by
    obtain ⟨v, e1, e2⟩ := start_at r (i := i) d2 (by simpa [appS] using e)
    exact ⟨v, by simpa using e1, e2⟩
theorem SimS.start {T : Tb} {K : PySem.W.Frag} {ρ : Rho} {M : Addr → Prop} {H : Hp} {N : List Str} {xs : List MV} {vs : List V} {j : Nat} (d : DenL T K ρ M H xs vs) (hl : N.length = vs.length + j) : SimS T K ρ M H (appS xs (slots j)) (L2.start N vs) where
  len := by
    unfold L2.start
    rw [appS_len, slots_len, List.length_append, List.length_map, List.length_replicate, d.length]
    omega
  at_ := fun i x e => by
    unfold L2.start
    exact start_at _ d e
/-- what a def wishes of exceptions -/
def XF (T : Tb) (K : PySem.W.Frag) (EK : XK) : XW := fun x _ ρ h H => ∀ cls d, XDen T K ρ (Mu ρ h) H x cls d → EK cls d H
theorem fn_run {T : Tb} {P : Program} {w : World} {K : PySem.W.Frag} {mg : Str → Option Value} {base : Heap} {x qual : Str} {params : Arguments} {body : List Stmt} {scope : Scope} {dvs : List V} {kws : List (Str × V)} {f : Addr} {fd : FuncData} {N ps : List Str} {k j : Nat} {b : RunS} (F : FunD K x qual params body scope dvs kws f fd) (S : FnScope N ps scope) (hN : N.length = ps.length + j)
    (hb : ∀ (cdv : Value) (A : Around) (outer : List Env) (s : Shared) (H : Hp) (EK : XK) (E : XW), Room k (A.deeper (envOfC qual scope s.heap.objs.size f cdv)) → Takes (cxOf (L2.CX P w) P w K mg base N qual scope f cdv A outer s H EK) (wx T K E) → SSs T (cxOf (L2.CX P w) P w K mg base N qual scope f cdv A outer s H EK) E body b) :
    FnOk P w K mg base (L2.CX P w) (k + 1) f fd ps (spF T K ps.length (runDef j b)) := by
  refine F.ok S (fun vs H Q E h => h.1) fun cdv A outer s H vs Q EK hr h => ?_
  have tk : Takes (cxOf (L2.CX P w) P w K mg base N qual scope f cdv A outer s H EK) (wx T K (XF T K EK)) := Takes.imp (takes_of (X := cxOf (L2.CX P w) P w K mg base N qual scope f cdv A outer s H EK) (E := EK) rfl rfl rfl rfl) fun c d σ H ⟨ρ, m, h, x, s1, s2, xd, e⟩ => e c d xd
  refine ⟨_, hb cdv A outer s H EK (XF T K EK) hr tk, ?_⟩
  obtain ⟨hl, ρ, xs, h, s1, d, w1⟩ := h
  refine ⟨ρ, _, h, s1, SimS.start d (by rw [hN, hl]), Tr.wp_mono ((Tr.wp_bind _ _ _).mp w1) fun r q => ?_⟩
  cases r with
  | nx m1 h1 => exact fun ρ1 H1 σ1 l s d => q ρ1 H1 .non l s .non
  | bk _ _ => exact q.elim
  | ct _ _ => exact q.elim
  | rt v h1 => exact q
  | ex y m1 h1 => exact fun ρ1 H1 l s cls da xd => q ρ1 H1 cls da l s xd
end
end WK
set_option Elab.async false
set_option linter.all false
set_option maxRecDepth 100000
/-! dicts with tuple keys over the hand layer -/
namespace WK
noncomputable section
open PySem PySem.Spec PyProof.Rows L2
/-! ### a key in the abstract heap -/
mutual
inductive NkV (K : PySem.W.Frag) (H : Hp) : NestedKey → V → Prop
  | non : NkV K H .none .non
  | num (i : Int) : NkV K H (.num i) (.int i)
  | text (x : Str) : NkV K H (.text x) (.str x)
  | tup {a : Addr} {vs : List V} {ks : List NestedKey} : SqT K H a vs → NkVs K H ks vs → NkV K H (.tup ks) (.ref a)
inductive NkVs (K : PySem.W.Frag) (H : Hp) : List NestedKey → List V → Prop
  | nil : NkVs K H [] []
  | cons {k : NestedKey} {v : V} {ks : List NestedKey} {vs : List V} : NkV K H k v → NkVs K H ks vs → NkVs K H (k :: ks) (v :: vs)
end
section
variable {X : Cx} {pins : List (Addr × Obj)} {σ : L2.St} {H : Hp} {s : Shared}
mutual
theorem NkV.is (I : Inv X pins σ H s) : ∀ {k : NestedKey} {v : V} {u : Value}, NkV X.K H k v → RelV v u → NestedIs s.heap k u
  | _, _, u, .non, r => by obtain rfl : u = Value.none := r; exact .none
  | _, _, u, .num i, r => by obtain ⟨t, rfl⟩ := (show ∃ t, u = Value.int i t from r); exact .int _ _
  | _, _, u, .text x, r => by obtain ⟨t, rfl⟩ := (show ∃ t, u = Value.str x t from r); exact .text _ _
  | _, _, u, .tup q d, r => by
    obtain rfl : u = Value.ref _ := r
    obtain ⟨its, rv, ⟨o, h1, h2, n, h3⟩, _⟩ := I.tuple q
    exact .tup h1 h2 h3 (by rw [List.toList_toArray]; exact NkVs.is I d rv)
theorem NkVs.is (I : Inv X pins σ H s) : ∀ {k : List NestedKey} {v : List V} {u : List Value}, NkVs X.K H k v → Vals v u → NestedAll s.heap k u
  | _, _, _, .nil, .nil => .nil
  | _, _, _, .cons d ds, .cons r rs => .cons (NkV.is I d r) (NkVs.is I ds rs)
end
/-- a tuple as a key -/
def KeyA (K : PySem.W.Frag) (H : Hp) (k : NestedKey) (a : Addr) : Prop := NkV K H k (.ref a) ∧ k.depth ≤ 8
theorem KeyA.is (I : Inv X pins σ H s) {k : NestedKey} {a : Addr} (h : KeyA X.K H k a) : (nestedKind X.prog X.w).is s.heap k a := ⟨h.1.is I rfl, h.2⟩
/-! ### the entries -/
abbrev NE := NestedKey × Addr × V
def atP (ps : List NE) (k : NestedKey) : Option (Addr × V) := (ps.find? fun x => decide (x.1 = k)).map (·.2)
def stP (ps : List NE) (k : NestedKey) (a : Addr) (v : V) : List NE := if (atP ps k).isSome then ps.map (fun x => if x.1 = k then (x.1, x.2.1, v) else x) else ps ++ [(k, a, v)]
abbrev relE (p : NE) (q : NestedKey × Addr × Value) : Prop := p.1 = q.1 ∧ p.2.1 = q.2.1 ∧ RelV p.2.2 q.2.2
theorem at_rel {k : NestedKey} : ∀ {ps : List NE} {xs : List (NestedKey × Addr × Value)}, Paired relE ps xs → (∀ p, atP ps k = some p → ∃ u, atKey xs k = some (p.1, u) ∧ RelV p.2 u) ∧ (atP ps k = none → atKey xs k = none)
  | _, _, .nil => ⟨fun p e => by simp [atP] at e, fun _ => rfl⟩
  | (k1, a1, v1) :: ps, (k2, a2, u2) :: xs, .cons r t => by
    obtain ⟨e1, e2, e3⟩ := r
    simp only at e1 e2 e3
    subst e1 e2
    obtain ⟨h1, h2⟩ := at_rel (k := k) t
    by_cases z : k1 = k
    · refine ⟨fun p e => ?_, fun e => ?_⟩
      · simp [atP, List.find?_cons, z] at e
        subst e
        exact ⟨u2, by simp [atKey, List.find?_cons, z], e3⟩
      · simp [atP, List.find?_cons, z] at e
    · have f1 : atP ((k1, a1, v1) :: ps) k = atP ps k := by simp [atP, List.find?_cons, z]
      have f2 : atKey ((k1, a1, u2) :: xs) k = atKey xs k := by simp [atKey, List.find?_cons, z]
      rw [f1, f2]
      exact ⟨h1, h2⟩
theorem Paired.app {α β : Type} {F : α → β → Prop} : ∀ {l₁ m₁ : List α} {l₂ m₂ : List β}, Paired F l₁ l₂ → Paired F m₁ m₂ → Paired F (l₁ ++ m₁) (l₂ ++ m₂)
  | _, _, _, _, .nil, h => h
  | _, _, _, _, .cons r t, h => .cons r (Paired.app t h)
theorem put_rel {k : NestedKey} {v : V} {u : Value} (rv : RelV v u) : ∀ {ps : List NE} {xs : List (NestedKey × Addr × Value)}, Paired relE ps xs → Paired relE (ps.map (fun x => if x.1 = k then (x.1, x.2.1, v) else x)) (xs.map (putAt k u))
  | _, _, .nil => .nil
  | (k1, a1, v1) :: ps, (k2, a2, u2) :: xs, .cons r t => by
    obtain ⟨e1, e2, e3⟩ := r
    simp only at e1 e2 e3
    subst e1 e2
    refine .cons ?_ (put_rel rv t)
    unfold putAt
    by_cases z : k1 = k
    · simp only [z, if_true]; exact ⟨rfl, rfl, rv⟩
    · simp only [z, if_false]; exact ⟨rfl, rfl, e3⟩
theorem st_rel {k : NestedKey} {a : Addr} {v : V} {u : Value} (rv : RelV v u) {ps : List NE} {xs : List (NestedKey × Addr × Value)} (r : Paired relE ps xs) : Paired relE (stP ps k a v) (storedH xs k a u) := by
  unfold stP storedH
  obtain ⟨h1, h2⟩ := at_rel (k := k) r
  cases e : atP ps k with
  | none =>
    rw [h2 e]
    exact Paired.app r (.cons ⟨rfl, rfl, rv⟩ .nil)
  | some p =>
    obtain ⟨w, e2, _⟩ := h1 p e
    rw [e2]
    exact put_rel rv r
theorem dict_at (I : Inv X pins σ H s) {d : Addr} {ps : List NE} (e : H d = some (dictH X.prog X.w d ps)) (kk : ∀ p ∈ ps, KeyA X.K H p.1 p.2.1) : ∃ xs, Paired relE ps xs ∧ s.heap.DictOfH (nestedKind X.prog X.w) d xs := by
  have z : ObjOk X.prog X.w H s.heap d (dictH X.prog X.w d ps) := I.hok d _ e
  obtain ⟨⟨xs, r, o, es, ep, h1, h2, h3, h4, h5⟩, _, _⟩ := z
  refine ⟨xs, r, o, es, ep, h1, h2, h3, h4, fun x hx => ?_, h5⟩
  have key : ∀ {ps : List NE} {xs : List (NestedKey × Addr × Value)}, Paired relE ps xs → (∀ p ∈ ps, KeyA X.K H p.1 p.2.1) → ∀ x ∈ xs, (nestedKind X.prog X.w).is s.heap x.1 x.2.1 := by
    intro ps xs r
    induction r with
    | nil => intro _ x hx; cases hx
    | cons r t ih =>
      intro hk x hx
      rcases List.mem_cons.mp hx with z | z
      · subst z
        have := hk _ List.mem_cons_self
        rw [r.1, r.2.1] at this
        exact this.is I
      · exact ih (fun p hp => hk p (List.mem_cons_of_mem _ hp)) x z
  exact key r kk x hx
theorem dict_ok {P : Program} {w : World} {H : Hp} {h : Heap} {d : Addr} {ps : List NE} {xs : List (NestedKey × Addr × Value)} (r : Paired relE ps xs) (x : h.DictOfH (nestedKind P w) d xs) : ObjOk P w H h d (dictH P w d ps) := by
  obtain ⟨o, es, ep, h1, h2, h3, h4, h5, h6⟩ := x
  refine ⟨⟨xs, r, o, es, ep, h1, h2, h3, h4, h6⟩, ⟨o, h1⟩, fun h1' h2' z k => ?_⟩
  obtain ⟨xs', r', o', es', ep', e1, e2, e3, e4, e5⟩ := z
  exact ⟨xs', r', o', es', ep', k _ e1, e2, e3, e4, e5⟩
/-! ### d[k], d[k] = v, k in d -/
def rIxN (P : Program) (w : World) (K : PySem.W.Frag) : R2 := fun x y H Q => ∃ d ps a k b v, x = .ref d ∧ y = .ref a ∧ H d = some (dictH P w d ps) ∧ (∀ p ∈ ps, KeyA K H p.1 p.2.1) ∧ KeyA K H k a ∧ atP ps k = some (b, v) ∧ Q v H
theorem ix_N (hu : X.A.units + 12 < cLine) : IxR X (rIxN X.prog X.w X.K) := by
  intro value slice pins s σ H x y v u Q I rx ry h hs
  obtain ⟨d, ps, a, k, b, z, rfl, rfl, hd, kk, ka, e, q⟩ := h
  obtain rfl : v = Value.ref d := rx
  obtain rfl : u = Value.ref a := ry
  obtain ⟨xs, r, hx⟩ := dict_at I hd kk
  obtain ⟨u, e2, ru⟩ := (at_rel r).1 _ e
  exact tail_any hx.typeIs slot_dict_getitem.lookup (wpAny_getItem_heap (show X.A.in1.units + 8 < cLine by show X.A.units + 1 + 8 < _; omega) (ka.is I) hx e2 ⟨z, H, I.tok _, ru, q⟩) hs
def rIxK : R2 := fun x y H Q => ∃ d ps k v, x = .ref d ∧ y = kV k ∧ H d = some (.dK ps) ∧ valV ps k = some v ∧ Q v H
theorem ix_K (hu : X.A.units + 12 < cLine) : IxR X rIxK := by
  intro value slice pins s σ H x y v u Q I rx ry h hs
  obtain ⟨d, ps, k, z, rfl, rfl, hd, e, q⟩ := h
  obtain rfl : v = Value.ref d := rx
  have g : DGet H d (kV k) (some z) := .inl ⟨ps, k, .inl hd, rfl, e.symm⟩
  exact tail_any (dict_typeIs I g) slot_dict_getitem.lookup (d_getItem (by omega) I g ry fun w' s' I' r => ⟨z, H, I', r, q⟩) hs
def rInN (P : Program) (w : World) (K : PySem.W.Frag) (n : Bool) : R2 := fun x y H Q => ∃ d ps a k, x = .ref a ∧ y = .ref d ∧ H d = some (dictH P w d ps) ∧ (d == sysModules) = false ∧ (∀ p ∈ ps, KeyA K H p.1 p.2.1) ∧ KeyA K H k a ∧ Q (.bl (n ^^ (atP ps k).isSome)) H
theorem isSome_rel {k : NestedKey} {ps : List NE} {xs : List (NestedKey × Addr × Value)} (r : Paired relE ps xs) : (atKey xs k).isSome = (atP ps k).isSome := by
  obtain ⟨h1, h2⟩ := at_rel (k := k) r
  cases e : atP ps k with
  | none => rw [h2 e]; rfl
  | some p => obtain ⟨u, e2, _⟩ := h1 p e; rw [e2]; rfl
theorem in_N (hu : X.A.units + 12 < cLine) : OpR X (compareOp .In) (rInN X.prog X.w X.K false) := by
  intro pins s σ H x y v u Q I rx ry h
  obtain ⟨d, ps, a, k, rfl, rfl, hd, hy, kk, ka, q⟩ := h
  obtain rfl : v = Value.ref a := rx
  obtain rfl : u = Value.ref d := ry
  obtain ⟨xs, r, hx⟩ := dict_at I hd kk
  refine wpAny_in_heap (show X.A.in1.units + 8 < cLine by show X.A.units + 1 + 8 < _; omega) (ka.is I) hy hx ?_
  rw [isSome_rel r]
  exact ⟨.bl (atP ps k).isSome, H, I.tok _, rfl, by simpa using q⟩
theorem ni_N (hu : X.A.units + 12 < cLine) : OpR X (compareOp .NotIn) (rInN X.prog X.w X.K true) := by
  intro pins s σ H x y v u Q I rx ry h
  obtain ⟨d, ps, a, k, rfl, rfl, hd, hy, kk, ka, q⟩ := h
  obtain rfl : v = Value.ref a := rx
  obtain rfl : u = Value.ref d := ry
  obtain ⟨xs, r, hx⟩ := dict_at I hd kk
  refine wpAny_notIn_heap (show X.A.in1.units + 8 < cLine by show X.A.units + 1 + 8 < _; omega) (ka.is I) hy hx ?_
  rw [isSome_rel r]
  exact ⟨.bl (!(atP ps k).isSome), H, I.tok _, rfl, by simpa using q⟩
def rInK (n : Bool) : R2 := fun x y H Q => ∃ d ps k, x = kV k ∧ y = .ref d ∧ H d = some (.dK ps) ∧ Q (.bl (n ^^ (valV ps k).isSome)) H
theorem in_K (hu : X.A.units + 12 < cLine) : OpR X (compareOp .In) (rInK false) := by
  intro pins s σ H x y v u Q I rx ry h
  obtain ⟨d, ps, k, rfl, rfl, hd, q⟩ := h
  obtain rfl : u = Value.ref d := ry
  exact d_in (by omega) I (.inl ⟨ps, k, .inl hd, rfl, rfl⟩) rx fun s' I' => ⟨.bl (valV ps k).isSome, H, I', rfl, by simpa using q⟩
theorem ni_K (hu : X.A.units + 12 < cLine) : OpR X (compareOp .NotIn) (rInK true) := by
  intro pins s σ H x y v u Q I rx ry h
  obtain ⟨d, ps, k, rfl, rfl, hd, q⟩ := h
  obtain rfl : u = Value.ref d := ry
  exact d_notIn (by omega) I (.inl ⟨ps, k, .inl hd, rfl, rfl⟩) rx fun s' I' => ⟨.bl (!(valV ps k).isSome), H, I', rfl, by simpa using q⟩
/-! ### stores -/
theorem keys_rel : ∀ {ps : List NE} {xs : List (NestedKey × Addr × Value)}, Paired relE ps xs → ps.map (·.1) = xs.map (·.1)
  | _, _, .nil => rfl
  | _, _, .cons r t => by rw [List.map_cons, List.map_cons, r.1, keys_rel t]
theorem nodup_rel {P : Program} {w : World} {h : Heap} {d : Addr} {ps : List NE} {xs : List (NestedKey × Addr × Value)} (r : Paired relE ps xs) (x : h.DictOfH (nestedKind P w) d xs) : (ps.map (·.1)).Nodup := by
  obtain ⟨_, _, _, _, _, _, _, _, nd⟩ := x
  have e : ps.map (·.1) = xs.map (·.1) := keys_rel r
  rw [e]; exact nd
theorem write_N (I : Inv X pins σ H s) {d : Addr} {ps ps' : List NE} {xs' : List (NestedKey × Addr × Value)} {h' : Heap} {t' : Nat} (hd : H d = some (dictH X.prog X.w d ps)) (hs : Heap.SameBut d s.heap h') (r : Paired relE ps' xs') (x : h'.DictOfH (nestedKind X.prog X.w) d xs') : Inv X pins σ (upd H d (dictH X.prog X.w d ps')) { s with heap := h', toks := t' } :=
  d_write I (by rw [hd]; exact True.intro) hs (let ⟨o, _, _, e, _⟩ := x; ⟨o, e⟩) (dict_ok r x)
def tSetN (P : Program) (w : World) (K : PySem.W.Frag) : TSet := fun x y v H Q => ∃ d ps a k, x = .ref d ∧ y = .ref a ∧ H d = some (dictH P w d ps) ∧ ps.length ≤ sizeLine ∧ (∀ p ∈ ps, KeyA K H p.1 p.2.1) ∧ KeyA K H k a ∧ ((ps.map (·.1)).Nodup → Q (upd H d (dictH P w d (stP ps k a v))))
theorem set_N (hu : X.A.units + 12 < cLine) : PSet X (tSetN X.prog X.w X.K) := by
  intro pins s σ H o i v ov iv u Q I ro ri rv h
  obtain ⟨d, ps, a, k, rfl, rfl, hd, hl, kk, ka, q⟩ := h
  obtain rfl : ov = Value.ref d := ro
  obtain rfl : iv = Value.ref a := ri
  obtain ⟨xs, r, hx⟩ := dict_at I hd kk
  exact wpAny_setItem_heap (hsz := by rw [← Paired.length r]; exact hl) (show X.A.in1.units + 8 < cLine by show X.A.units + 1 + 8 < _; omega) (ka.is I) hx fun h' x' hs => ⟨_, write_N I hd hs (st_rel rv r) x', q (nodup_rel r hx)⟩
def tSetK : TSet := fun x y v H Q => ∃ d ps k, x = .ref d ∧ y = kV k ∧ H d = some (.dK ps) ∧ ps.length < sizeLine ∧ ((ps.map (·.1)).Nodup → Q (upd H d (.dK (putK ps k v))))
theorem set_K (hu : X.A.units + 12 < cLine) : PSet X tSetK := by
  intro pins s σ H o i v ov iv u Q I ro ri rv h
  obtain ⟨d, ps, k, rfl, rfl, hd, hl, q⟩ := h
  obtain rfl : ov = Value.ref d := ro
  have nd : (ps.map (·.1)).Nodup := by
    obtain ⟨_, _, vs, r, _, _, _, _, _, _, _, _, nd⟩ := (show ObjOk X.prog X.w H s.heap d (.dK ps) from I.hok d _ hd)
    have e : ∀ {ps : List (Key × V)} {vs : List (Key × Value)}, KV ps vs → ps.map (·.1) = vs.map (·.1) := by
      intro ps vs r
      induction r with
      | nil => rfl
      | cons r t ih => rw [List.map_cons, List.map_cons, r.1, ih]
    rw [e r]; exact nd
  exact d_setItem (by omega) I (.k hd hl) ri rv fun s' I' => ⟨_, I', q nd⟩
/-! ### {}, len -/
def tNewN (P : Program) (w : World) : TE := fun _ H Q => ∀ p, H p = none → (p == sysModules) = false → Q (.ref p) (upd H p (dictH P w p []))
theorem pe_newN {pos : Pos} : PE X (.Dict [] [] pos) (tNewN X.prog X.w) := ⟨fun pins s σ H Q I h =>
  wpAny_Dict_empty ⟨.ref s.heap.objs.size, _, I.laid (a := s.heap.objs.size) (o := dictH X.prog X.w s.heap.objs.size []) (t' := s.toks) (fun _ _ q => Heap.get?_push_of_some _ q) (Nat.le_refl _) (dict_ok (P := X.prog) (w := X.w) .nil (Heap.DictOfH.new s.heap)), rfl, h _ (I.hok.fresh (Nat.le_refl _)) (beq_eq_false_iff_ne.mpr (Ne.symm (Nat.ne_of_lt I.big)))⟩⟩
def rLenN (P : Program) (w : World) (K : PySem.W.Frag) : List V → Hp → VK → Prop := fun xs H Q => ∃ d ps, xs = [.ref d] ∧ H d = some (dictH P w d ps) ∧ (d == sysModules) = false ∧ (∀ p ∈ ps, KeyA K H p.1 p.2.1) ∧ ps.length ≤ sizeLine ∧ Q (.int ps.length) H
end
end
end WK
set_option Elab.async false
set_option linter.all false
set_option maxRecDepth 100000
/-! dicts by values -/
namespace WK
noncomputable section
open PySem L2
/-! ### keys -/
def eqI (a b : Int) : Bool := match a, b with
  | .ofNat m, .ofNat n => Nat.beq m n
  | .negSucc m, .negSucc n => Nat.beq m n
  | _, _ => false
theorem eqI_ok (a b : Int) : eqI a b = decide (a = b) := by
  unfold eqI
  split
  · rename_i m n
    by_cases e : m = n
    · subst e; rw [beq_self]; exact (decide_eq_true rfl).symm
    · rw [beq_ne e]; exact (decide_eq_false (fun q => e (Int.ofNat.inj q))).symm
  · rename_i m n
    by_cases e : m = n
    · subst e; rw [beq_self]; exact (decide_eq_true rfl).symm
    · rw [beq_ne e]; exact (decide_eq_false (fun q => e (Int.negSucc.inj q))).symm
  · rename_i h1 h2
    refine (decide_eq_false fun e => ?_).symm
    subst e
    cases a with
    | ofNat m => exact h1 m m rfl rfl
    | negSucc m => exact h2 m m rfl rfl
def eqL (f : MV → MV → Bool) (xs ys : List MV) : Bool := List.rec (motive := fun _ => List MV → Bool) (fun ys => match ys with
  | [] => true
  | _ => false) (fun x _ ih ys => match ys with
  | y :: r => Bool.rec (motive := fun _ => Bool) false (ih r) (f x y)
  | [] => false) xs ys
def eqKf (n : Nat) : MV → MV → Bool := Nat.rec (motive := fun _ => MV → MV → Bool) (fun _ _ => false) (fun _ ih x y => match x, y with
  | .int a, .int b => eqI a b
  | .tup xs, .tup ys => eqL ih xs ys
  | .str a, .str b => decide (a = b)
  | .non, .non => true
  | _, _ => false) n
theorem keysOf_cons {x : MV} {r : List MV} {ks : List NestedKey} (h : keysOf (x :: r) = some ks) : ∃ k kr, keyOf x = some k ∧ keysOf r = some kr ∧ ks = k :: kr := by
  unfold keysOf at h
  split at h
  · rename_i k e1
    split at h
    · rename_i kr e2
      cases h
      exact ⟨k, kr, e1, e2, rfl⟩
    · cases h
  · cases h
theorem keyOf_tup {xs : List MV} {k : NestedKey} (h : keyOf (.tup xs) = some k) : ∃ ks, keysOf xs = some ks ∧ k = .tup ks := by
  unfold keyOf at h
  split at h
  · rename_i ks e
    cases h
    exact ⟨ks, e, rfl⟩
  · cases h
theorem eqL_ok {f : MV → MV → Bool} {n : Nat} (hf : ∀ x y a b, keyOf x = some a → keyOf y = some b → a.depth < n → f x y = NestedKey.beq a b) : ∀ {xs ys : List MV} {as bs : List NestedKey}, keysOf xs = some as → keysOf ys = some bs → NestedKey.depthAll as < n → eqL f xs ys = NestedKey.beqAll as bs
  | [], [], as, bs, h1, h2, _ => by
    cases h1; cases h2; rfl
  | [], y :: r, as, bs, h1, h2, _ => by
    obtain ⟨k, kr, _, _, rfl⟩ := keysOf_cons h2
    cases h1; rfl
  | x :: r, [], as, bs, h1, h2, _ => by
    obtain ⟨k, kr, _, _, rfl⟩ := keysOf_cons h1
    cases h2; rfl
  | x :: xs, y :: ys, as, bs, h1, h2, hd => by
    obtain ⟨k1, kr1, e1, e2, rfl⟩ := keysOf_cons h1
    obtain ⟨k2, kr2, e3, e4, rfl⟩ := keysOf_cons h2
    have hd' : max k1.depth (NestedKey.depthAll kr1) < n := hd
    show Bool.rec (motive := fun _ => Bool) false (eqL f xs ys) (f x y) = _
    rw [hf x y k1 k2 e1 e3 (by omega), eqL_ok hf e2 e4 (by omega)]
    show _ = (NestedKey.beq k1 k2 && NestedKey.beqAll kr1 kr2)
    cases NestedKey.beq k1 k2 <;> rfl
theorem eqKf_ok : ∀ (n : Nat) (x y : MV) (a b : NestedKey), keyOf x = some a → keyOf y = some b → a.depth < n → eqKf n x y = NestedKey.beq a b
  | 0, _, _, _, _, _, _, h => absurd h (Nat.not_lt_zero _)
  | n + 1, x, y, a, b, h1, h2, hd => by
    cases x with
    | int i =>
      cases h1
      cases y with
      | int j =>
        cases h2
        show eqI i j = NestedKey.beq (.num i) (.num j)
        rw [eqI_ok]; simp [NestedKey.beq]
      | tup ys => obtain ⟨ks, _, rfl⟩ := keyOf_tup h2; rfl
      | _ => cases h2 <;> rfl
    | str z =>
      cases h1
      cases y with
      | str u => cases h2; show decide (z = u) = NestedKey.beq (.text z) (.text u); simp [NestedKey.beq]
      | tup ys => obtain ⟨ks, _, rfl⟩ := keyOf_tup h2; rfl
      | _ => cases h2 <;> rfl
    | non =>
      cases h1
      cases y with
      | tup ys => obtain ⟨ks, _, rfl⟩ := keyOf_tup h2; rfl
      | _ => cases h2 <;> rfl
    | tup xs =>
      obtain ⟨ks, e1, rfl⟩ := keyOf_tup h1
      cases y with
      | tup ys =>
        obtain ⟨ls, e2, rfl⟩ := keyOf_tup h2
        have hd' : NestedKey.depthAll ks + 1 < n + 1 := hd
        show eqL (eqKf n) xs ys = NestedKey.beqAll ks ls
        exact eqL_ok (fun x y a b p q r => eqKf_ok n x y a b p q r) e1 e2 (by omega)
      | _ => cases h2 <;> rfl
    | _ => cases h1
/-! ### entries -/
theorem keyN_ok {x : MV} {k : NestedKey} (h : keyN x = some k) : keyOf x = some k ∧ k.depth ≤ 8 := by
  unfold keyN at h
  split at h
  · rename_i k' e
    split at h
    · rename_i c
      cases h
      exact ⟨e, Nat.le_of_ble_eq_true c⟩
    · cases h
  · cases h
theorem eqK_N {x y : MV} {a b : NestedKey} (h1 : keyN x = some a) (h2 : keyN y = some b) : eqKf 10 x y = decide (a = b) := by
  obtain ⟨e1, d1⟩ := keyN_ok h1
  obtain ⟨e2, _⟩ := keyN_ok h2
  rw [eqKf_ok 10 x y a b e1 e2 (by omega), NestedKey.decide_eq]
def lkD (k : MV) (kvs : List (MV × MV)) : Option MV := List.rec (motive := fun _ => Option MV) none (fun p _ ih => Bool.rec (motive := fun _ => Option MV) ih (some p.2) (eqKf 10 k p.1)) kvs
/-- in its place, or at the end -/
def stD (k v : MV) (kvs : List (MV × MV)) : List (MV × MV) := List.rec (motive := fun _ => List (MV × MV)) [(k, v)] (fun p r ih => Bool.rec (motive := fun _ => List (MV × MV)) (p :: ih) ((p.1, v) :: r) (eqKf 10 k p.1)) kvs
section
variable {T : Tb} {K : PySem.W.Frag} {ρ : Rho} {M : Addr → Prop} {H : Hp}
theorem atP_cons {k j : NestedKey} {a : Addr} {v : V} {r : List NE} : atP ((j, a, v) :: r) k = if j = k then some (a, v) else atP r k := by
  by_cases z : j = k <;> simp [atP, List.find?_cons, z]
theorem lkD_N {k : MV} {nk : NestedKey} (hk : keyN k = some nk) : ∀ {kvs : List (MV × MV)} {ps : List NE}, DenN T K ρ M H kvs ps → (∀ x, lkD k kvs = some x → ∃ b v, atP ps nk = some (b, v) ∧ Den T K ρ M H x v) ∧ (lkD k kvs = none → atP ps nk = none)
  | _, _, .nil => ⟨fun x e => (by cases e), fun _ => rfl⟩
  | _, _, .cons (k := k2) (x := x2) (nk := n2) (r := r) e d1 d2 t => by
    obtain ⟨h1, h2⟩ := lkD_N hk t
    have q := eqK_N hk e
    have u : lkD k ((k2, x2) :: r) = Bool.rec (motive := fun _ => Option MV) (lkD k r) (some x2) (eqKf 10 k k2) := rfl
    rw [u, q, atP_cons]
    by_cases z : nk = n2
    · subst z
      rw [decide_eq_true rfl, if_pos rfl]
      exact ⟨fun x e => (by cases e; exact ⟨_, _, rfl, d2⟩), fun e => (by cases e)⟩
    · rw [decide_eq_false z, if_neg (fun y => z y.symm)]
      exact ⟨h1, h2⟩
theorem atP_put {k : NestedKey} {v : V} {j : NestedKey} {a : Addr} {w : V} {r : List NE} : stP ((j, a, w) :: r) k a v = stP ((j, a, w) :: r) k a v := rfl
/-- where no key is met twice -/
theorem stP_cons {k j : NestedKey} {a b : Addr} {v w : V} {r : List NE} (nd : j ∉ r.map (·.1)) : stP ((j, b, w) :: r) k a v = if j = k then (j, b, v) :: r else (j, b, w) :: stP r k a v := by
  unfold stP
  rw [atP_cons]
  by_cases z : j = k
  · subst z
    rw [if_pos rfl, if_pos rfl]
    simp only [Option.isSome_some, if_true, List.map_cons]
    congr 1
    have key : ∀ (l : List NE), j ∉ l.map (·.1) → l.map (fun x => if x.1 = j then (x.1, x.2.1, v) else x) = l := by
      intro l
      induction l with
      | nil => intro _; rfl
      | cons p l ih =>
        intro h
        simp only [List.map_cons, List.mem_cons, not_or] at h
        rw [List.map_cons, if_neg (fun e => h.1 e.symm), ih h.2]
    exact key r nd
  · rw [if_neg z, if_neg z]
    cases atP r k with
    | none => rfl
    | some p => simp only [Option.isSome_some, if_true, List.map_cons, z, if_false]
theorem stD_N {k x : MV} {nk : NestedKey} {a : Addr} {v : V} (hk : keyN k = some nk) (dk : Den T K ρ M H k (.ref a)) (dx : Den T K ρ M H x v) : ∀ {kvs : List (MV × MV)} {ps : List NE}, DenN T K ρ M H kvs ps → (ps.map (·.1)).Nodup → DenN T K ρ M H (stD k x kvs) (stP ps nk a v)
  | _, _, .nil, _ => .cons hk dk dx .nil
  | _, _, .cons (k := k2) (x := x2) (nk := n2) (r := r) e d1 d2 t, nd => by
    have nd2 := List.nodup_cons.mp nd
    rw [stP_cons nd2.1]
    have u : stD k x ((k2, x2) :: r) = Bool.rec (motive := fun _ => List (MV × MV)) ((k2, x2) :: stD k x r) ((k2, x) :: r) (eqKf 10 k k2) := rfl
    rw [u, eqK_N hk e]
    by_cases z : nk = n2
    · subst z
      rw [decide_eq_true rfl, if_pos rfl]
      exact .cons e d1 dx t
    · rw [decide_eq_false z, if_neg (fun y => z y.symm)]
      exact .cons e d1 d2 (stD_N hk dk dx t nd2.2)
theorem DenN.length : ∀ {kvs : List (MV × MV)} {ps : List NE}, DenN T K ρ M H kvs ps → kvs.length = ps.length
  | _, _, .nil => rfl
  | _, _, .cons _ _ _ t => congrArg (· + 1) t.length
mutual
theorem den_nk : ∀ {x : MV} {v : V} {k : NestedKey}, Den T K ρ M H x v → keyOf x = some k → NkV K H k v
  | _, _, _, .non, e => by cases e; exact .non
  | _, _, _, .bl _, e => by cases e
  | _, _, _, .int i, e => by cases e; exact .num _
  | _, _, _, .str x, e => by cases e; exact .text _
  | _, _, _, .tup n r d, e => by
    obtain ⟨ks, e1, rfl⟩ := keyOf_tup e
    exact .tup (SqT.of r) (den_nks d e1)
  | _, _, _, .tupK s d, e => by
    obtain ⟨ks, e1, rfl⟩ := keyOf_tup e
    exact .tup (s _) (den_nks d e1)
  | _, _, _, .lst _ _ _, e => by cases e
  | _, _, _, .ins _ _ _, e => by cases e
  | _, _, _, .ref _, e => by cases e
  | _, _, _, .ati _, e => by cases e
  | _, _, _, .ats _ _, e => by cases e
  | _, _, _, .exc _ _ _ _ _, e => by cases e
  | _, _, _, .row _ _ _, e => by cases e
  | _, _, _, .num _ _ _, e => by cases e
  | _, _, _, .nst _ _ _, e => by cases e
  | _, _, _, .dK _ _ _, e => by cases e
  | _, _, _, .dN _ _ _ _, e => by cases e
theorem den_nks : ∀ {xs : List MV} {vs : List V} {ks : List NestedKey}, DenL T K ρ M H xs vs → keysOf xs = some ks → NkVs K H ks vs
  | _, _, _, .nil, e => by cases e; exact .nil
  | _, _, _, .cons d r, e => by
    obtain ⟨k, kr, e1, e2, rfl⟩ := keysOf_cons e
    exact .cons (den_nk d e1) (den_nks r e2)
end
theorem denN_keys : ∀ {kvs : List (MV × MV)} {ps : List NE}, DenN T K ρ M H kvs ps → ∀ p ∈ ps, KeyA K H p.1 p.2.1
  | _, _, .nil, p, h => by cases h
  | _, _, .cons e d1 d2 t, p, h => by
    rcases List.mem_cons.mp h with z | z
    · subst z
      obtain ⟨e1, e2⟩ := keyN_ok e
      exact ⟨den_nk d1 e1, e2⟩
    · exact denN_keys t p z
end
end
end WK
set_option Elab.async false
set_option linter.all false
set_option maxRecDepth 100000
/-! d[k], k in d, d[k] = v, len(d), {} -/
namespace WK
noncomputable section
open PySem L2
/-! ### what is a key -/
def allL (f : MV → Bool) (xs : List MV) : Bool := List.rec (motive := fun _ => Bool) true (fun x _ ih => Bool.rec (motive := fun _ => Bool) false ih (f x)) xs
def kB (n : Nat) : MV → Bool := Nat.rec (motive := fun _ => MV → Bool) (fun x => match x with
  | .int _ => true | .str _ => true | .non => true
  | _ => false) (fun _ ih x => match x with
  | .int _ => true | .str _ => true | .non => true
  | .tup xs => allL ih xs
  | _ => false) n
theorem allL_keys {f : MV → Bool} {n : Nat} (hf : ∀ x, f x = true → ∃ k, keyOf x = some k ∧ k.depth ≤ n) : ∀ {xs : List MV}, allL f xs = true → ∃ ks, keysOf xs = some ks ∧ NestedKey.depthAll ks ≤ n
  | [], _ => ⟨[], rfl, Nat.zero_le _⟩
  | x :: r, h => by
    have h' : Bool.rec (motive := fun _ => Bool) false (allL f r) (f x) = true := h
    cases e : f x with
    | false => rw [e] at h'; cases h'
    | true =>
      rw [e] at h'
      obtain ⟨k, e1, d1⟩ := hf x e
      obtain ⟨ks, e2, d2⟩ := allL_keys hf (show allL f r = true from h')
      refine ⟨k :: ks, ?_, Nat.max_le.mpr ⟨d1, d2⟩⟩
      unfold keysOf
      rw [e1, e2]
theorem kB_ok : ∀ (n : Nat) (x : MV), kB n x = true → ∃ k, keyOf x = some k ∧ k.depth ≤ n
  | 0, x, h => by
    cases x with
    | int i => exact ⟨_, rfl, Nat.zero_le _⟩
    | str z => exact ⟨_, rfl, Nat.zero_le _⟩
    | non => exact ⟨_, rfl, Nat.zero_le _⟩
    | _ => cases h
  | n + 1, x, h => by
    cases x with
    | int i => exact ⟨_, rfl, Nat.zero_le _⟩
    | str z => exact ⟨_, rfl, Nat.zero_le _⟩
    | non => exact ⟨_, rfl, Nat.zero_le _⟩
    | tup xs =>
      obtain ⟨ks, e, d⟩ := allL_keys (kB_ok n) (show allL (kB n) xs = true from h)
      exact ⟨.tup ks, by unfold keyOf; rw [e], Nat.succ_le_succ d⟩
    | _ => cases h
/-- a tuple that may be a key -/
def isKT (x : MV) : Bool := match x with
  | .tup xs => allL (kB 7) xs
  | _ => false
theorem isKT_ok {x : MV} (h : isKT x = true) : ∃ nk, keyN x = some nk ∧ ∃ xs, x = .tup xs := by
  unfold isKT at h
  split at h
  · rename_i xs
    obtain ⟨ks, e, d⟩ := allL_keys (kB_ok 7) h
    refine ⟨.tup ks, ?_, xs, rfl⟩
    unfold keyN
    have e1 : keyOf (.tup xs) = some (.tup ks) := by unfold keyOf; rw [e]
    rw [e1]
    have d1 : (NestedKey.tup ks).depth ≤ 8 := Nat.succ_le_succ d
    simp only [Nat.ble_eq_true_of_le d1]
  · cases h
/-- an int or a text -/
def isKK (x : MV) : Bool := match x with
  | .int _ => true | .str _ => true
  | _ => false
def kOf : MV → Key
  | .int i => .inl i
  | .str z => .inr z
  | _ => .inl 0
def isK (k : Bool) (x : MV) : Bool := Bool.rec (motive := fun _ => Bool) (isKT x) (isKK x) k
section
variable {T : Tb} {K : PySem.W.Frag} {ρ : Rho} {M : Addr → Prop} {H : Hp}
theorem kk_den {x : MV} {v : V} (c : isKK x = true) (d : Den T K ρ M H x v) : v = kV (kOf x) := by
  unfold isKK at c
  split at c
  · cases d; rfl
  · cases d; rfl
  · cases c
theorem eqK_K {x y : MV} (c : isKK x = true) (c' : isKK y = true) : eqKf 10 x y = decide (kOf x = kOf y) := by
  cases x with
  | int i =>
    cases y with
    | int j =>
      show eqI i j = decide ((Sum.inl i : Key) = Sum.inl j)
      rw [eqI_ok]
      by_cases z : i = j
      · subst z; rw [decide_eq_true rfl, decide_eq_true rfl]
      · rw [decide_eq_false z, decide_eq_false (fun q => z (Sum.inl.inj q))]
    | str u => exact (decide_eq_false (fun q : (Sum.inl i : Key) = Sum.inr u => nomatch q)).symm
    | _ => cases c'
  | str u =>
    cases y with
    | int j => exact (decide_eq_false (fun q : (Sum.inr u : Key) = Sum.inl j => nomatch q)).symm
    | str z =>
      show decide (u = z) = decide ((Sum.inr u : Key) = Sum.inr z)
      by_cases q : u = z
      · subst q; rw [decide_eq_true rfl, decide_eq_true rfl]
      · rw [decide_eq_false q, decide_eq_false (fun w => q (Sum.inr.inj w))]
    | _ => cases c'
  | _ => cases c
theorem denK_key {k x : MV} {r : List (MV × MV)} {ps : List (Key × V)} (d : DenK T K ρ M H ((k, x) :: r) ps) : ∃ v r', ps = (kOf k, v) :: r' ∧ isKK k = true ∧ Den T K ρ M H x v ∧ DenK T K ρ M H r r' := by
  cases d with
  | consI d t => exact ⟨_, _, rfl, rfl, d, t⟩
  | consS d t => exact ⟨_, _, rfl, rfl, d, t⟩
theorem DenK.mk {k x : MV} {v : V} {r : List (MV × MV)} {r' : List (Key × V)} (c : isKK k = true) (d : Den T K ρ M H x v) (t : DenK T K ρ M H r r') : DenK T K ρ M H ((k, x) :: r) ((kOf k, v) :: r') := by
  unfold isKK at c
  split at c
  · exact .consI d t
  · exact .consS d t
  · cases c
theorem lkD_K {k : MV} (hk : isKK k = true) : ∀ {kvs : List (MV × MV)} {ps : List (Key × V)}, DenK T K ρ M H kvs ps → (∀ x, lkD k kvs = some x → ∃ v, valV ps (kOf k) = some v ∧ Den T K ρ M H x v) ∧ (lkD k kvs = none → valV ps (kOf k) = none)
  | [], _, d => by
    cases d
    exact ⟨fun x e => (by cases e), fun _ => rfl⟩
  | (k2, x2) :: r, _, d => by
    obtain ⟨v2, r', rfl, c2, d2, t⟩ := denK_key d
    obtain ⟨h1, h2⟩ := lkD_K hk t
    have u : lkD k ((k2, x2) :: r) = Bool.rec (motive := fun _ => Option MV) (lkD k r) (some x2) (eqKf 10 k k2) := rfl
    rw [u, eqK_K hk c2]
    by_cases z : kOf k = kOf k2
    · rw [decide_eq_true z, valV_pos (k := kOf k) z.symm]
      exact ⟨fun x e => (by cases e; exact ⟨_, rfl, d2⟩), fun e => (by cases e)⟩
    · rw [decide_eq_false z, valV_neg (k := kOf k) (fun y => z y.symm)]
      exact ⟨h1, h2⟩
theorem putK_cons {k j : Key} {v w : V} {r : List (Key × V)} (nd : j ∉ r.map (·.1)) : putK ((j, w) :: r) k v = if j = k then (j, v) :: r else (j, w) :: putK r k v := by
  unfold putK
  by_cases z : j = k
  · subst z
    rw [if_pos rfl]
    simp only [List.any_cons, decide_true, Bool.true_or, if_true, List.map_cons]
    congr 1
    have key : ∀ (l : List (Key × V)), j ∉ l.map (·.1) → l.map (fun x => if x.1 = j then (x.1, v) else x) = l := by
      intro l
      induction l with
      | nil => intro _; rfl
      | cons p l ih =>
        intro h
        simp only [List.map_cons, List.mem_cons, not_or] at h
        rw [List.map_cons, if_neg (fun e => h.1 e.symm), ih h.2]
    exact key r nd
  · rw [if_neg z]
    simp only [List.any_cons, z, decide_false, Bool.false_or]
    split
    · rename_i c; rw [List.map_cons, if_neg z]
    · rfl
end
section
variable {T : Tb} {K : PySem.W.Frag} {ρ : Rho} {M : Addr → Prop} {H : Hp}
theorem stD_K {k x : MV} {v : V} (hk : isKK k = true) (dx : Den T K ρ M H x v) : ∀ {kvs : List (MV × MV)} {ps : List (Key × V)}, DenK T K ρ M H kvs ps → (ps.map (·.1)).Nodup → DenK T K ρ M H (stD k x kvs) (putK ps (kOf k) v)
  | [], _, d, _ => by
    cases d
    exact DenK.mk hk dx .nil
  | (k2, x2) :: r, _, d, nd => by
    obtain ⟨v2, r', rfl, c2, d2, t⟩ := denK_key d
    have nd2 := List.nodup_cons.mp nd
    rw [putK_cons nd2.1]
    have u : stD k x ((k2, x2) :: r) = Bool.rec (motive := fun _ => List (MV × MV)) ((k2, x2) :: stD k x r) ((k2, x) :: r) (eqKf 10 k k2) := rfl
    rw [u, eqK_K hk c2]
    by_cases z : kOf k = kOf k2
    · rw [decide_eq_true z, if_pos z.symm]
      exact DenK.mk c2 dx t
    · rw [decide_eq_false z, if_neg (fun y => z y.symm)]
      exact DenK.mk c2 d2 (stD_K hk dx t nd2.2)
theorem DenK.length : ∀ {kvs : List (MV × MV)} {ps : List (Key × V)}, DenK T K ρ M H kvs ps → kvs.length = ps.length
  | _, _, .nil => rfl
  | _, _, .consI _ t => congrArg (· + 1) t.length
  | _, _, .consS _ t => congrArg (· + 1) t.length
/-- a dict's entries stand at a -/
def DictAt (T : Tb) (K : PySem.W.Frag) (ρ : Rho) (M : Addr → Prop) (H : Hp) (a : Addr) (kvs : List (MV × MV)) : Bool → Prop
  | true => ∃ ps, H a = some (.dK ps) ∧ DenK T K ρ M H kvs ps
  | false => ∃ ps, H a = some (dictH T.P T.w a ps) ∧ (a == sysModules) = false ∧ DenN T K ρ M H kvs ps
theorem den_asD {h : MH} {x : MV} {k : Bool} {kvs : List (MV × MV)} {v : V} (s : SimH T K ρ h H) (e : asD h x = some (k, kvs)) (d : Den T K ρ (Mu ρ h) H x v) : ∃ a, v = .ref a ∧ DictAt T K ρ (Mu ρ h) H a kvs k := by
  cases x with
  | dct k' kvs' =>
    cases e
    cases d with
    | dK n r d => exact ⟨_, rfl, _, r, d⟩
    | dN n r y d => exact ⟨_, rfl, _, r, y, d⟩
  | ref l =>
    have e1 : (match h.get l with
      | some (.dct k kvs) => some (k, kvs)
      | _ => none) = some (k, kvs) := e
    cases q : h.get l with
    | none => rw [q] at e1; cases e1
    | some o =>
      rw [q] at e1
      cases o with
      | dct k' kvs' =>
        cases e1
        cases d with
        | ref r =>
          obtain ⟨a, r', z⟩ := s.ob l _ q
          rw [r] at r'; cases r'
          cases k with
          | true => exact ⟨_, rfl, z⟩
          | false => exact ⟨_, rfl, z⟩
      | _ => cases e1
  | _ => cases e
end
section
variable {T : Tb} {X : Cx} {E : XW}
/-! ### d[k] -/
def opIxA (x i : MV) (h : MH) : Tr ER := match asD h x with
  | some (k, kvs) => ifT (isK k i) (okO (lkD i kvs) h)
  | none => opIx x i h
def rIxA (T : Tb) (K : PySem.W.Frag) : R2 := fun x y H Q => rIx K x y H Q ∨ rIxN T.P T.w K x y H Q ∨ rIxK x y H Q
theorem ix_A (hP : X.prog = T.P) (hw : X.w = T.w) (hu : X.A.units + 12 < cLine) : IxR X (rIxA T X.K) := by
  have h := ix_seq.or ((ix_N (X := X) hu).or (ix_K (X := X) hu))
  rw [hP, hw] at h
  exact h
theorem keyA_of {K : PySem.W.Frag} {ρ : Rho} {M : Addr → Prop} {H : Hp} {i : MV} {v : V} (c : isKT i = true) (d : Den T K ρ M H i v) : ∃ nk a, keyN i = some nk ∧ v = .ref a ∧ KeyA K H nk a := by
  obtain ⟨nk, e, xs, rfl⟩ := isKT_ok c
  obtain ⟨e1, e2⟩ := keyN_ok e
  have nv := den_nk d e1
  obtain ⟨a, vs, rfl, _, _⟩ := den_tup d
  exact ⟨nk, a, e, rfl, nv, e2⟩
theorem opIxA_ok : OpS T X (rIxA T X.K) opIxA := fun ρ h H x y v u E ms Q s dx dy w => by
  unfold opIxA at w
  split at w
  · rename_i k kvs e
    obtain ⟨c, w1⟩ := ifT_wp w
    clear w
    obtain ⟨a, rfl, da⟩ := den_asD s e dx
    cases el : lkD y kvs with
    | none => rw [el] at w1; exact w1.elim
    | some z =>
      rw [el] at w1
      cases k with
      | true =>
        obtain ⟨ps, r, dk⟩ := da
        have c : isKK y = true := c
        obtain ⟨v', e2, d2⟩ := (lkD_K c dk).1 z el
        exact .inr (.inr ⟨a, ps, kOf y, v', rfl, kk_den c dy, r, e2, post_den s d2 w1⟩)
      | false =>
        obtain ⟨ps, r, _, dn⟩ := da
        obtain ⟨nk, b, e1, rfl, ka⟩ := keyA_of (T := T) (show isKT y = true from c) dy
        obtain ⟨b', v', e2, d2⟩ := (lkD_N e1 dn).1 z el
        exact .inr (.inl ⟨a, ps, b, nk, b', v', rfl, rfl, r, denN_keys dn, ka, e2, post_den s d2 w1⟩)
  · exact .inl (opIx_ok ρ h H x y v u E ms Q s dx dy w)
theorem s_ixA {a b : Expr} {pos : Pos} {f g : RunE} (hP : X.prog = T.P) (hw : X.w = T.w) (hu : X.A.units + 12 < cLine) (ha : SE T X E a f) (hb : SE T X E b g) (hp : plainS b = true) : SE T X E (.Subscript a b pos) (run2 f g opIxA) := .ofV (peI (pe_ix (ix_A hP hw hu) ha.v hb.v (plain_ix hp)) (t_run2 opIxA_ok)) fun _ => rfl
/-! ### k in d -/
def isS {α : Type} (o : Option α) : Bool := Option.rec (motive := fun _ => Bool) false (fun _ => true) o
theorem isS_eq {α : Type} (o : Option α) : isS o = o.isSome := by cases o <;> rfl
def cInA : CF := fun x y h => match asD h y with
  | some (k, kvs) => match isK k x with
    | true => some (isS (lkD x kvs))
    | false => none
  | none => cIn x y h
def cNiA : CF := fun x y h => match asD h y with
  | some (k, kvs) => match isK k x with
    | true => some (!isS (lkD x kvs))
    | false => none
  | none => cNi x y h
def rInB (T : Tb) (K : PySem.W.Frag) : R2 := fun x y H Q => rInA K x y H Q ∨ rInN T.P T.w K false x y H Q ∨ rInK false x y H Q
def rNiB (T : Tb) (K : PySem.W.Frag) : R2 := fun x y H Q => rNiA K x y H Q ∨ rInN T.P T.w K true x y H Q ∨ rInK true x y H Q
theorem op_inB (hP : X.prog = T.P) (hw : X.w = T.w) (hu : X.A.units + 65 < cLine) : OpR X (compareOp .In) (rInB T X.K) := by
  have h := (op_inA (X := X) hu).or ((in_N (X := X) (by omega)).or (in_K (X := X) (by omega)))
  rw [hP, hw] at h
  exact h
theorem op_niB (hP : X.prog = T.P) (hw : X.w = T.w) (hu : X.A.units + 65 < cLine) : OpR X (compareOp .NotIn) (rNiB T X.K) := by
  have h := (op_niA (X := X) hu).or ((ni_N (X := X) (by omega)).or (ni_K (X := X) (by omega)))
  rw [hP, hw] at h
  exact h
theorem in_some {K : PySem.W.Frag} {ρ : Rho} {h : MH} {H : Hp} {x y : MV} {v u : V} {k : Bool} {kvs : List (MV × MV)} {n : Bool} {Q : VK} (s : SimH T K ρ h H) (e : asD h y = some (k, kvs)) (c : isK k x = true) (dx : Den T K ρ (Mu ρ h) H x v) (dy : Den T K ρ (Mu ρ h) H y u) (q : Q (.bl (n ^^ isS (lkD x kvs))) H) : rInN T.P T.w K n v u H Q ∨ rInK n v u H Q := by
  obtain ⟨a, rfl, da⟩ := den_asD s e dy
  cases k with
  | true =>
    obtain ⟨ps, r, dk⟩ := da
    have c : isKK x = true := c
    refine .inr ⟨a, ps, kOf x, kk_den c dx, rfl, r, ?_⟩
    obtain ⟨h1, h2⟩ := lkD_K c dk
    cases el : lkD x kvs with
    | none => rw [el] at q; rw [h2 el]; exact q
    | some z => rw [el] at q; obtain ⟨v', e2, _⟩ := h1 z el; rw [e2]; exact q
  | false =>
    obtain ⟨ps, r, sy, dn⟩ := da
    obtain ⟨nk, b, e1, rfl, ka⟩ := keyA_of (T := T) (show isKT x = true from c) dx
    refine .inl ⟨a, ps, b, nk, rfl, rfl, r, sy, denN_keys dn, ka, ?_⟩
    obtain ⟨h1, h2⟩ := lkD_N e1 dn
    cases el : lkD x kvs with
    | none => rw [el] at q; rw [h2 el]; exact q
    | some z => rw [el] at q; obtain ⟨b', v', e2, _⟩ := h1 z el; rw [e2]; exact q
theorem cInA_ok : OpS T X (rInB T X.K) (cOp cInA) := fun ρ h H x y v u E ms Q s dx dy w => by
  obtain ⟨b, e, w1⟩ := bO_wp w
  unfold cInA at e
  split at e
  · rename_i k kvs ed
    split at e
    · rename_i c
      cases e
      exact .inr (in_some (n := false) s ed c dx dy (by simpa using post_bl s w1))
    · cases e
  · refine .inl (cIn_ok ρ h H x y v u E ms Q s dx dy ?_)
    show (bO (cIn x y h) h).wp _
    rw [e]; exact w1
theorem cNiA_ok : OpS T X (rNiB T X.K) (cOp cNiA) := fun ρ h H x y v u E ms Q s dx dy w => by
  obtain ⟨b, e, w1⟩ := bO_wp w
  unfold cNiA at e
  split at e
  · rename_i k kvs ed
    split at e
    · rename_i c
      cases e
      exact .inr (in_some (n := true) s ed c dx dy (by simpa using post_bl s w1))
    · cases e
  · refine .inl (cNi_ok ρ h H x y v u E ms Q s dx dy ?_)
    show (bO (cNi x y h) h).wp _
    rw [e]; exact w1
end
end
end WK
set_option Elab.async false
set_option linter.all false
set_option maxRecDepth 100000
/-! o[i] = v, o[i] op= v, {} -/
namespace WK
noncomputable section
open PySem PySem.Spec PyProof.Rows L2
section
variable {X : Cx}
def pset_or {t t' : TSet} (h : PSet X t) (h' : PSet X t') : PSet X (fun o i v H Q => t o i v H Q ∨ t' o i v H Q) := fun pins s σ H o i v ov iv u Q I ro ri rv q => q.elim (fun q => h pins s σ H o i v ov iv u Q I ro ri rv q) fun q => h' pins s σ H o i v ov iv u Q I ro ri rv q
def pget_or {t t' : V → V → Hp → VK → Prop} (h : PGet X t) (h' : PGet X t') : PGet X (fun o i H Q => t o i H Q ∨ t' o i H Q) := fun pins s σ H o i ov iv Q I ro ri q => q.elim (fun q => h pins s σ H o i ov iv Q I ro ri q) fun q => h' pins s σ H o i ov iv Q I ro ri q
theorem get_L : PGet X (rIxL X.K) := by
  intro pins s σ H o i ov iv Q I ro ri h
  obtain ⟨p, xs, k, z, rfl, rfl, hq, he, q⟩ := h
  obtain rfl : ov = Value.ref p := ro
  obtain ⟨t, rfl⟩ := (show ∃ t, iv = Value.int k t from ri)
  obtain ⟨its, r, pl, hz⟩ := I.list hq
  obtain ⟨j, h1, h2, h3, h4, h5⟩ := atI_get he
  obtain ⟨w, ew, rw'⟩ := r.get h2
  have hl := r.length
  have hn := line63
  have fin : EP X pins σ Q w s := ⟨z, H, I, rw', q⟩
  by_cases h0 : 0 ≤ k
  · have hj : k.toNat = j := by
      rw [seqIndex_of h0 h5] at h1
      exact Option.some.inj h1
    exact wpAny_getItem_list pl.isList h0 (by omega) (by rw [hj]; simpa using ew) fin
  · have hj : (k + (its.toArray.size : Int)).toNat = j := by
      rw [seqIndex_neg (by omega) h4] at h1
      rw [List.size_toArray, ← hl]
      exact Option.some.inj h1
    exact wpAny_getItem_list_neg pl.isList (by omega) (by rw [List.size_toArray] <;> omega) (by omega) (by rw [hj]; simpa using ew) fin
theorem get_K (hu : X.A.units + 12 < cLine) : PGet X rIxK := by
  intro pins s σ H o i ov iv Q I ro ri h
  obtain ⟨d, ps, k, z, rfl, rfl, hd, e, q⟩ := h
  obtain rfl : ov = Value.ref d := ro
  exact d_getItem (by omega) I (.inl ⟨ps, k, .inl hd, rfl, e.symm⟩) ri fun w' s' I' r => ⟨z, H, I', r, q⟩
theorem get_N (hu : X.A.units + 12 < cLine) : PGet X (rIxN X.prog X.w X.K) := by
  intro pins s σ H o i ov iv Q I ro ri h
  obtain ⟨d, ps, a, k, b, z, rfl, rfl, hd, kk, ka, e, q⟩ := h
  obtain rfl : ov = Value.ref d := ro
  obtain rfl : iv = Value.ref a := ri
  obtain ⟨xs, r, hx⟩ := dict_at I hd kk
  obtain ⟨u, e2, ru⟩ := (at_rel r).1 _ e
  exact wpAny_getItem_heap (show X.A.in1.units + 8 < cLine by show X.A.units + 1 + 8 < _; omega) (ka.is I) hx e2 ⟨z, H, I.tok _, ru, q⟩
end
/-! ### by values -/
def lenN {α : Type} (xs : List α) : Nat := List.rec (motive := fun _ => Nat) 0 (fun _ _ ih => Nat.succ ih) xs
theorem lenN_eq {α : Type} : ∀ xs : List α, lenN xs = xs.length
  | [] => rfl
  | _ :: r => congrArg Nat.succ (lenN_eq r)
def updL (xs : List MV) (i : Nat) (v : MV) : List MV := List.rec (motive := fun _ => Nat → List MV) (fun _ => []) (fun x r ih i => Nat.rec (motive := fun _ => List MV) (v :: r) (fun j _ => x :: ih j) i) xs i
theorem updL_eq : ∀ (xs : List MV) (i : Nat) (v : MV), updL xs i v = xs.set i v
  | [], _, _ => rfl
  | _ :: _, 0, _ => rfl
  | x :: r, i + 1, v => congrArg (x :: ·) (updL_eq r i v)
def ixM (n : Nat) (i : Int) : Option Nat := match i with
  | .ofNat j => match Nat.ble (j + 1) n with
    | true => some j
    | false => none
  | .negSucc j => match Nat.ble (j + 1) n with
    | true => some (n - (j + 1))
    | false => none
theorem ixM_ok {n : Nat} {i : Int} {j : Nat} (h : ixM n i = some j) : ixN n i = some j := by
  unfold ixM at h
  unfold ixN
  split at h
  · rename_i k
    split at h
    · rename_i c
      have c := Nat.le_of_ble_eq_true c
      cases h
      rw [if_pos (by show (0 : Int) ≤ (j : Int); omega), if_pos (by show (j : Int) < _; omega)]
      rfl
    · cases h
  · rename_i k
    split at h
    · rename_i c
      have c := Nat.le_of_ble_eq_true c
      cases h
      rw [if_neg (by omega), if_pos (by omega)]
      congr 1
      omega
    · cases h
/-- a store -/
def stSub (x i v : MV) (h : MH) : Option MH := match x with
  | .ref l => match h.get l with
    | some (.dct k kvs) => match isK k i && Nat.ble (lenN kvs + 1) sizeLine with
      | true => some (h.put l (.dct k (stD i v kvs)))
      | false => none
    | some (.lst xs) => match i with
      | .int j => match ixM (lenN xs) j with
        | some n => some (h.put l (.lst (updL xs n v)))
        | none => none
      | _ => none
    | _ => none
  | _ => none
section
variable {T : Tb} {X : Cx} {E : XW}
theorem DenL.set {K : PySem.W.Frag} {ρ : Rho} {M : Addr → Prop} {H : Hp} {x : MV} {v : V} (d : Den T K ρ M H x v) : ∀ {xs : List MV} {vs : List V} (i : Nat), DenL T K ρ M H xs vs → DenL T K ρ M H (xs.set i x) (vs.set i v)
  | _, _, _, .nil => .nil
  | _, _, 0, .cons _ t => .cons d t
  | _, _, i + 1, .cons d1 t => .cons d1 (DenL.set d i t)
def rSt (T : Tb) (K : PySem.W.Frag) : TSet := fun o i v H Q => rSetL o i v H Q ∨ tSetN T.P T.w K o i v H Q ∨ tSetK o i v H Q
theorem set_A (hP : X.prog = T.P) (hw : X.w = T.w) (hu : X.A.units + 12 < cLine) : PSet X (rSt T X.K) := by
  have h := pset_or (X := X) set_list (pset_or (set_N hu) (set_K hu))
  rw [hP, hw] at h
  exact h
theorem stSub_ok {K : PySem.W.Frag} {ρ : Rho} {h h' : MH} {H : Hp} {x i v : MV} {ov iv vv : V} {Q : Hp → Prop} (s : SimH T K ρ h H) (e : stSub x i v h = some h') (dx : Den T K ρ (Mu ρ h) H x ov) (di : Den T K ρ (Mu ρ h) H i iv) (dv : Den T K ρ (Mu ρ h) H v vv)
    (q : ∀ H', Le ρ h H ρ h' H' → SimH T K ρ h' H' → Q H') : rSt T K ov iv vv H Q := by
  unfold stSub at e
  split at e
  · rename_i l
    cases dx with
    | ref r =>
      split at e
      · rename_i k kvs eg
        split at e
        · rename_i c
          cases e
          obtain ⟨c1, c2⟩ := Bool.and_eq_true_iff.mp c
          have c2 := Nat.le_of_ble_eq_true c2
          rw [lenN_eq] at c2
          obtain ⟨a, r', z⟩ := s.ob l _ eg
          have e9 := Option.some.inj (r'.symm.trans r)
          subst e9
          cases k with
          | true =>
            obtain ⟨ps, ea, dk⟩ := z
            have c1 : isKK i = true := c1
            have len := dk.length
            refine .inr (.inr ⟨_, ps, kOf i, rfl, kk_den c1 di, ea, by omega, fun nd => ?_⟩)
            have L := s.le_put (v := .dK (putK ps (kOf i) vv)) (o := .dct true (stD i v kvs)) eg r
            exact q _ L (s.put eg r ⟨_, upd_same, (stD_K c1 dv dk nd).le L⟩)
          | false =>
            obtain ⟨ps, ea, sy, dn⟩ := z
            obtain ⟨nk, b, e1, rfl, ka⟩ := keyA_of (T := T) (show isKT i = true from c1) di
            have len := dn.length
            refine .inr (.inl ⟨_, ps, b, nk, rfl, rfl, ea, by omega, denN_keys dn, ka, fun nd => ?_⟩)
            have L := s.le_put (v := dictH T.P T.w a (stP ps nk b vv)) (o := .dct false (stD i v kvs)) eg r
            exact q _ L (s.put eg r ⟨_, upd_same, sy, (stD_N e1 di dv dn nd).le L⟩)
        · cases e
      · rename_i xs eg
        split at e
        · split at e
          · rename_i n en
            cases e
            cases di
            obtain ⟨a, r', vs, ea, dl⟩ := s.ob l _ eg
            rw [r] at r'; cases r'
            have en := ixM_ok en
            rw [lenN_eq, dl.length] at en
            rw [updL_eq] at q
            have L := s.le_put (v := .lst (vs.set n vv)) (o := .lst (xs.set n v)) eg r
            exact .inl ⟨_, vs, _, n, rfl, rfl, ea, en, q _ L (s.put eg r ⟨_, upd_same, (DenL.set dv n dl).le L⟩)⟩
          · cases e
        · cases e
      · cases e
  · cases e
def gSubR (f g : RunE) : RunG := fun v ms h => (f ms h).be (fun o h1 => (g ms h1).be (fun i h2 => Option.rec (motive := fun _ => Tr GR) .bad (fun h3 => .ret (.ok ms h3)) (stSub o i v h2)) (fun x h => .ret (.ex x ms h))) (fun x h => .ret (.ex x ms h))
theorem g_sub {o i : Expr} {pos : Pos} {f g : RunE} (hP : X.prog = T.P) (hw : X.w = T.w) (hu : X.A.units + 12 < cLine) (ho : SE T X E o f) (hi : SE T X E i g)
    (ha : ∀ v, assign (.Subscript o i pos) X.env v = (do
      let ov ← holding [v] (eval o X.env)
      let iv ← holding [v, ov] (eval i X.env)
      standAt pos
      holding [v, ov, iv] (setItem ov iv v)
      release [v, ov, iv] [])) : SG T X E (.Subscript o i pos) (gSubR f g) :=
  pgI (pg_sub ho.v hi.v (set_A hP hw hu) ha) fun v σ H Q ⟨ρ, ms, h, x, s1, s2, dx, w⟩ => ⟨ρ, ms, h, s1, s2, Tr.wp_mono (Tr.wp_be w) fun r q => by
    cases r with
    | ex y h1 => exact q
    | ok y h1 =>
      intro ρ1 H1 ov l1 t1 d1
      refine ⟨ρ1, ms, h1, t1, s2.le l1, Tr.wp_mono (Tr.wp_be q) fun r q2 => ?_⟩
      cases r with
      | ex z h2 => exact exP.le l1 q2
      | ok z h2 =>
        intro ρ2 H2 iv l2 t2 d2
        have l12 := l1.trans l2
        dsimp only at q2
        cases e : stSub y z x h2 with
        | none => rw [e] at q2; exact q2.elim
        | some h3 =>
          rw [e] at q2
          exact stSub_ok t2 e (d1.le l2) d2 (dx.le l12) fun H3 l3 t3 => q2 ρ2 H3 σ (l12.trans l3) t3 (s2.le (l12.trans l3))⟩
/-! ### o[i] op= e -/
def rGet (T : Tb) (K : PySem.W.Frag) : V → V → Hp → VK → Prop := fun o i H Q => rIxL K o i H Q ∨ rIxN T.P T.w K o i H Q ∨ rIxK o i H Q
theorem get_A (hP : X.prog = T.P) (hw : X.w = T.w) (hu : X.A.units + 12 < cLine) : PGet X (rGet T X.K) := by
  have h := pget_or (X := X) get_L (pget_or (get_N hu) (get_K hu))
  rw [hP, hw] at h
  exact h
def getSub (x i : MV) (h : MH) : Tr ER := match asD h x with
  | some (k, kvs) => ifT (isK k i) (okO (lkD i kvs) h)
  | none => match i with
    | .int j => match asL h x with
      | some xs => okO (atM xs j) h
      | none => .bad
    | _ => .bad
theorem getSub_ok : OpS T X (rGet T X.K) getSub := fun ρ h H x y v u E ms Q s dx dy w => by
  unfold getSub at w
  split at w
  · rename_i k kvs e
    obtain ⟨c, w1⟩ := ifT_wp w
    clear w
    obtain ⟨a, rfl, da⟩ := den_asD s e dx
    cases el : lkD y kvs with
    | none => rw [el] at w1; exact w1.elim
    | some z =>
      rw [el] at w1
      cases k with
      | true =>
        obtain ⟨ps, r, dk⟩ := da
        have c : isKK y = true := c
        obtain ⟨v', e2, d2⟩ := (lkD_K c dk).1 z el
        exact .inr (.inr ⟨a, ps, kOf y, v', rfl, kk_den c dy, r, e2, post_den s d2 w1⟩)
      | false =>
        obtain ⟨ps, r, _, dn⟩ := da
        obtain ⟨nk, b, e1, rfl, ka⟩ := keyA_of (T := T) (show isKT y = true from c) dy
        obtain ⟨b', v', e2, d2⟩ := (lkD_N e1 dn).1 z el
        exact .inr (.inl ⟨a, ps, b, nk, b', v', rfl, rfl, r, denN_keys dn, ka, e2, post_den s d2 w1⟩)
  · split at w
    · split at w
      · rename_i xs e1
        cases dy
        obtain ⟨a, vs, rfl, r, d⟩ := den_asL s e1 dx
        cases e2 : atM xs _ with
        | none => rw [e2] at w; exact w.elim
        | some z =>
          rw [e2] at w
          obtain ⟨v', e3, d3⟩ := atM_ok d e2
          exact .inl ⟨a, vs, _, v', rfl, rfl, SqL.of r, e3, post_den s d3 w⟩
      · exact w.elim
    · exact w.elim
def runAugS (f g k : RunE) (op : MV → MV → MH → Tr ER) : RunS := fun ms h => (f ms h).be (fun o h1 => (g ms h1).be (fun i h2 => (getSub o i h2).be (fun x h3 => (k ms h3).be (fun y h4 => (op x y h4).be (fun z h5 => Option.rec (motive := fun _ => Tr SR) .bad (fun h6 => nxS ms h6) (stSub o i z h5)) (exS ms)) (exS ms)) (exS ms)) (exS ms)) (exS ms)
theorem s_augS {o i e : Expr} {op : Operator} {tpos pos : Pos} {f g k : RunE} {r : TIp} {om : MV → MV → MH → Tr ER} (hP : X.prog = T.P) (hw : X.w = T.w) (hu : X.A.units + 12 < cLine) (ho : SE T X E o f) (hi : SE T X E i g) (he : SE T X E e k) (hp : PIp X op r) (hr : IpS T X r om)
    (ha : ∀ ov iv new, augStore i ov iv new = (do holding [new, ov, iv] (setItem ov iv new); release [new, ov, iv] []; pure .next)) : SS T X E (.AugAssign (.Subscript o i tpos) op e pos) (runAugS f g k om) :=
  psI (ps_augS ho.v hi.v (get_A hP hw hu) he.v hp (set_A hP hw hu) ha) fun D σ H ⟨ρ, ms, h, s1, s2, w⟩ => ⟨ρ, ms, h, s1, s2, Tr.wp_mono (Tr.wp_be w) fun r q => by
    cases r with
    | ex y h1 => exact q
    | ok y h1 =>
      intro ρ1 H1 ov l1 t1 d1
      refine ⟨ρ1, ms, h1, t1, s2.le l1, Tr.wp_mono (Tr.wp_be q) fun r q2 => ?_⟩
      cases r with
      | ex z h2 => exact exP.le l1 q2
      | ok z h2 =>
        intro ρ2 H2 iv l2 t2 d2
        have l12 := l1.trans l2
        refine getSub_ok ρ2 h2 H2 y z ov iv E ms _ t2 (d1.le l2) d2 (Tr.wp_mono (Tr.wp_be q2) fun r q3 => ?_)
        cases r with
        | ex u h3 => exact exP.le l12 q3
        | ok u h3 =>
          intro ρ3 H3 xv l3 t3 d3
          have l13 := l12.trans l3
          refine ⟨ρ3, ms, h3, t3, s2.le l13, Tr.wp_mono (Tr.wp_be q3) fun r q4 => ?_⟩
          cases r with
          | ex u2 h4 => exact exP.le l13 q4
          | ok u2 h4 =>
            intro ρ4 H4 yv l4 t4 d4
            have l14 := l13.trans l4
            refine hr ρ4 h4 H4 u u2 xv yv E ms _ t4 (d3.le l4) d4 (Tr.wp_mono (Tr.wp_be q4) fun r q5 => ?_)
            cases r with
            | ex u3 h5 => exact exP.le l14 q5
            | ok u3 h5 =>
              intro ρ5 H5 zv l5 t5 d5
              have l15 := l14.trans l5
              have l35 := l3.trans (l4.trans l5)
              dsimp only at q5
              cases e5 : stSub y z u3 h5 with
              | none => rw [e5] at q5; exact q5.elim
              | some h6 =>
                rw [e5] at q5
                exact stSub_ok t5 e5 (d1.le (l2.trans l35)) (d2.le l35) d5 fun H6 l6 t6 => q5 ρ5 H6 σ (l15.trans l6) t6 (s2.le (l15.trans l6))⟩
end
end
end WK
set_option Elab.async false
set_option linter.all false
set_option maxRecDepth 100000
/-! methods of lists, texts, dicts; {} and len of dicts -/
namespace WK
noncomputable section
open PySem PySem.Spec PyProof.Rows L2
/-! ### the rule -/
def tyB (P : Program) (w : World) (K : PySem.W.Frag) (T : String) (x : V) (H : Hp) : Prop := tyV K T x H ∨ (T = "dict" ∧ ∃ a ps, x = .ref a ∧ H a = some (dictH P w a ps))
section
variable {X : Cx}
theorem tyB_is {pins : List (Addr × Obj)} {σ : L2.St} {H : Hp} {s : Shared} {T : String} {x : V} {v : Value} (I : Inv X pins σ H s) (r : RelV x v) (ty : tyB X.prog X.w X.K T x H) : s.TypeIs v T ∧ ∀ a, v = .ref a → ∃ ob, s.heap.get? a = some ob ∧ ob.dict = none := by
  rcases ty with ty | ⟨rfl, a, ps, rfl, e⟩
  · exact tyV_is I r ty
  · obtain rfl : v = Value.ref a := r
    obtain ⟨⟨xs, _, o, es, ep, h1, h2, _⟩, _, _⟩ := (show ObjOk X.prog X.w H s.heap a (dictH X.prog X.w a ps) from I.hok a _ e)
    exact ⟨⟨o, h1, h2.1⟩, fun b z => by cases z; exact ⟨o, h1, h2.2.1⟩⟩
def tBM0B (P : Program) (w : World) (K : PySem.W.Frag) (T : String) (r : V → List V → Hp → VK → Prop) (to : TE) : TE := fun σ H Q => to σ H fun x H1 => tyB P w K T x H1 ∧ r x [] H1 Q
def tBMB (P : Program) (w : World) (K : PySem.W.Frag) (T : String) (r : V → List V → Hp → VK → Prop) (to : TE) (t : TA) : TE := fun σ H Q => to σ H fun x H1 => tyB P w K T x H1 ∧ t σ H1 fun xs H2 => r x xs H2 Q
variable {o e : Expr} {es : List Expr} {to : TE} {t : TA} {name : Str} {apos cpos : Pos} {T id : String} {r : V → List V → Hp → VK → Prop}
theorem pe_bm0B (pa : PlainAttrs T) (slot : Slot T name id) (hty : typeOf (.builtin id) = pure (.type "method_descriptor")) (hm : MtR X id r) (ho : PE X o to)
    (hbase : attributeBase o name X.env (eval o X.env) = eval o X.env) (hline : (apos.endLine == cpos.line) = true) : PE X (.Call (.Attribute o name apos) [] [] cpos) (tBM0B X.prog X.w X.K T r to) := by
  refine ⟨fun pins s σ H Q I h => ?_⟩
  refine wpAny_Call_method0_late hbase hline (thn (ho.run pins s σ H _ I h) fun v s1 ⟨x, H1, I1, r1, ty, q1⟩ => ?_)
  obtain ⟨h1, h2⟩ := tyB_is I1 r1 ty
  exact ⟨T, id, pa, slot, hty, h1, h2, Calls.callWith_builtin rfl (PySem.evalArgs_none (hm pins s1 σ H1 x [] v [] Q I1 r1 .nil q1))⟩
theorem pe_bmB (pa : PlainAttrs T) (slot : Slot T name id) (hty : typeOf (.builtin id) = pure (.type "method_descriptor")) (hm : MtR X id r) (ho : PE X o to) (ha : PA X (e :: es) t)
    (hbase : attributeBase o name X.env (eval o X.env) = eval o X.env)
    (hfew : ((backTo cpos (starEach (e :: es) X.env)).all (fun x => !x.1) && (backToKw cpos (keywordEach [] X.env)).all (fun x => x.1.isSome)
      && decide ((e :: es).length + ([] : List Keyword).length + (if ([] : List Keyword).isEmpty then 0 else 1) < 30)) = true)
    (hline : (apos.endLine == cpos.line) = true) (hs : starEach (e :: es) X.env = (false, eval e X.env) :: starEach es X.env) (hplain : (backTo cpos (starEach es X.env)).any (·.1) = false) :
    PE X (.Call (.Attribute o name apos) (e :: es) [] cpos) (tBMB X.prog X.w X.K T r to t) := by
  refine ⟨fun pins s σ H Q I h => ?_⟩
  refine wpAny_Call_method_late hbase hfew hline rfl (thn (ho.run pins s σ H _ I h) fun v s1 ⟨x, H1, I1, r1, ty, q1⟩ => ?_)
  obtain ⟨h1, h2⟩ := tyB_is I1 r1 ty
  refine ⟨T, id, pa, slot, hty, h1, h2, ?_⟩
  have hA := ha.run cpos pins s1 σ H1 _ I1 q1
  rw [hs] at hA ⊢
  refine Calls.callWith_builtin (by show (false || (backTo cpos (starEach es X.env)).any (·.1)) = false; rw [hplain] <;> rfl) (Calls.evalArgs_plain ?_)
  exact thn hA fun us s2 ⟨vs, H2, I2, r2, q2⟩ => hm pins s2 σ H2 x vs v us Q I2 r1 r2 q2
end
section
variable {T : Tb} {X : Cx} {E : XW}
inductive BT where
  | list | str | dict | tuple
def BT.nm : BT → String
  | .list => "list" | .str => "str" | .dict => "dict" | .tuple => "tuple"
def isBT (t : BT) (x : MV) (h : MH) : Bool := match t with
  | .list => isS (asL h x)
  | .str => match x with
    | .str _ => true
    | _ => false
  | .dict => isS (asD h x)
  | .tuple => false
theorem isBT_ok {K : PySem.W.Frag} {ρ : Rho} {h : MH} {H : Hp} {t : BT} {x : MV} {v : V} (s : SimH T K ρ h H) (c : isBT t x h = true) (d : Den T K ρ (Mu ρ h) H x v) : tyB T.P T.w K t.nm v H := by
  cases t with
  | list =>
    have c : isS (asL h x) = true := c
    cases e : asL h x with
    | none => rw [e] at c; cases c
    | some xs =>
      obtain ⟨a, vs, rfl, r, _⟩ := den_asL s e d
      exact .inl (.inl ⟨rfl, vs, SqL.of r⟩)
  | str =>
    cases x with
    | str z => cases d; exact .inl rfl
    | _ => cases c
  | dict =>
    have c : isS (asD h x) = true := c
    cases e : asD h x with
    | none => rw [e] at c; cases c
    | some p =>
      obtain ⟨k, kvs⟩ := p
      obtain ⟨a, rfl, da⟩ := den_asD s e d
      cases k with
      | true => obtain ⟨ps, r, _⟩ := da; exact .inl (.inr (.inr (.inl ⟨rfl, .inl ⟨ps, r⟩⟩)))
      | false => obtain ⟨ps, r, _⟩ := da; exact .inr ⟨rfl, a, ps, rfl, r⟩
  | tuple => cases c
def MtS (T : Tb) (X : Cx) (r : V → List V → Hp → VK → Prop) (k : MV → List MV → MH → Tr ER) : Prop := ∀ ρ h H x v ys vs m E Q, SimH T X.K ρ h H → Den T X.K ρ (Mu ρ h) H x v → DenL T X.K ρ (Mu ρ h) H ys vs → (k x ys h).wp (postE T X.K E m ρ h H Q) → r v vs H Q
def runBm (t : BT) (f : RunE) (g : RunL) (k : MV → List MV → MH → Tr ER) : RunE := fun ms h => (f ms h).be (fun x h1 => ifT (isBT t x h1) (Tr.bl (g ms h1) (fun ys h2 => k x ys h2) exE)) exE
def runBm0 (t : BT) (f : RunE) (k : MV → List MV → MH → Tr ER) : RunE := fun ms h => (f ms h).be (fun x h1 => ifT (isBT t x h1) (k x [] h1)) exE
theorem s_bm {t : BT} {o e : Expr} {es : List Expr} {name : Str} {id : String} {apos cpos : Pos} {f : RunE} {g : RunL} {r : V → List V → Hp → VK → Prop} {k : MV → List MV → MH → Tr ER} (hP : X.prog = T.P) (hw : X.w = T.w) (pa : PlainAttrs t.nm) (slot : Slot t.nm name id) (hty : typeOf (.builtin id) = pure (.type "method_descriptor")) (hm : MtR X id r) (hk : MtS T X r k) (ho : SE T X E o f) (ha : SA T X E (e :: es) g)
    (hbase : attributeBase o name X.env (eval o X.env) = eval o X.env)
    (hfew : ((backTo cpos (starEach (e :: es) X.env)).all (fun x => !x.1) && (backToKw cpos (keywordEach [] X.env)).all (fun x => x.1.isSome)
      && decide ((e :: es).length + ([] : List Keyword).length + (if ([] : List Keyword).isEmpty then 0 else 1) < 30)) = true)
    (hline : (apos.endLine == cpos.line) = true) : SE T X E (.Call (.Attribute o name apos) (e :: es) [] cpos) (runBm t f g k) :=
  have hns : notStar e = true ∧ es.all notStar = true := Bool.and_eq_true_iff.mp ha.ns
  .ofV (peI (pe_bmB pa slot hty hm ho.v ha.a hbase hfew hline (star_cons hns.1) (by rw [backTo_any]; exact star_all hns.2)) fun σ H Q ⟨ρ, ms, h, s1, s2, w⟩ => ⟨ρ, ms, h, s1, s2, Tr.wp_mono (Tr.wp_be w) fun q w1 => by
    cases q with
    | ex x h1 => exact w1
    | ok x h1 =>
      intro ρ1 H1 v l1 t1 d1
      obtain ⟨c, w1⟩ := ifT_wp w1
      refine ⟨by rw [hP, hw]; exact isBT_ok t1 c d1, ρ1, ms, h1, t1, s2.le l1, Tr.wp_mono (Tr.wp_bl w1) fun q w2 => ?_⟩
      cases q with
      | ex y h2 => exact exP.le l1 w2
      | ok ys h2 => exact fun ρ2 H2 vs l2 t2 d2 => hk ρ2 h2 H2 x v ys vs ms E Q t2 (d1.le l2) d2 (Tr.wp_mono w2 (postE.le (l1.trans l2)))⟩) fun _ => rfl
theorem s_bm0 {t : BT} {o : Expr} {name : Str} {id : String} {apos cpos : Pos} {f : RunE} {r : V → List V → Hp → VK → Prop} {k : MV → List MV → MH → Tr ER} (hP : X.prog = T.P) (hw : X.w = T.w) (pa : PlainAttrs t.nm) (slot : Slot t.nm name id) (hty : typeOf (.builtin id) = pure (.type "method_descriptor")) (hm : MtR X id r) (hk : MtS T X r k) (ho : SE T X E o f)
    (hbase : attributeBase o name X.env (eval o X.env) = eval o X.env) (hline : (apos.endLine == cpos.line) = true) : SE T X E (.Call (.Attribute o name apos) [] [] cpos) (runBm0 t f k) :=
  .ofV (peI (pe_bm0B pa slot hty hm ho.v hbase hline) fun σ H Q ⟨ρ, ms, h, s1, s2, w⟩ => ⟨ρ, ms, h, s1, s2, Tr.wp_mono (Tr.wp_be w) fun q w1 => by
    cases q with
    | ex x h1 => exact w1
    | ok x h1 =>
      intro ρ1 H1 v l1 t1 d1
      obtain ⟨c, w1⟩ := ifT_wp w1
      exact ⟨by rw [hP, hw]; exact isBT_ok t1 c d1, hk ρ1 h1 H1 x v [] [] ms E Q t1 d1 .nil (Tr.wp_mono w1 (postE.le l1))⟩⟩) fun _ => rfl
/-! ### lists -/
theorem put_lst {K : PySem.W.Frag} {ρ : Rho} {m : MS} {h : MH} {H : Hp} {l : Nat} {a : Addr} {xs ys : List MV} {vs : List V} {Q : VK} (s : SimH T K ρ h H) (e : h.get l = some (.lst xs)) (r : ρ.at_ l = some a) (d : DenL T K ρ (Mu ρ h) H ys vs) {v : MV} {u : V} (dv : Den T K ρ (Mu ρ h) H v u) (w : (okE v (h.put l (.lst ys))).wp (postE T K E m ρ h H Q)) : Q u (upd H a (.lst vs)) :=
  have L := s.le_put (v := .lst vs) (o := .lst ys) e r
  w ρ _ u L (s.put e r ⟨vs, upd_same, d.le L⟩) (dv.le L)
def kAppend : MV → List MV → MH → Tr ER := fun x ys h => match x, ys with
  | .ref l, [y] => match h.get l with
    | some (.lst xs) => ifT (Nat.ble (lenN xs + 1) sizeLine) (okE .non (h.put l (.lst (xs ++ [y]))))
    | _ => .bad
  | _, _ => .bad
theorem kAppend_ok : MtS T X rAppend kAppend := fun ρ h H x v ys vs m E Q s dx dy w => by
  unfold kAppend at w
  split at w
  · split at w
    · rename_i xs eg
      obtain ⟨c, w⟩ := ifT_wp w
      have c := Nat.le_of_ble_eq_true c
      rw [lenN_eq] at c
      cases dx with
      | ref r =>
        obtain ⟨a, r', us, ea, dl⟩ := s.ob _ _ eg
        have e9 := Option.some.inj (r'.symm.trans r)
        subst e9
        cases dy with
        | cons d1 d2 =>
          cases d2
          have := dl.length
          exact ⟨a, us, _, rfl, rfl, ea, by omega, put_lst s eg r (dl.app (.cons d1 .nil)) .non w⟩
    · exact w.elim
  · exact w.elim
def kExtend : MV → List MV → MH → Tr ER := fun x ys h => match x, ys with
  | .ref l, [y] => match h.get l with
    | some (.lst xs) => match asL h y with
      | some zs => ifT (Nat.ble (lenN xs + lenN zs) sizeLine) (okE .non (h.put l (.lst (xs ++ zs))))
      | none => .bad
    | _ => .bad
  | _, _ => .bad
theorem kExtend_ok : MtS T X rExtend kExtend := fun ρ h H x v ys vs m E Q s dx dy w => by
  unfold kExtend at w
  split at w
  · split at w
    · rename_i xs eg
      split at w
      · rename_i zs ez
        obtain ⟨c, w⟩ := ifT_wp w
        have c := Nat.le_of_ble_eq_true c
        rw [lenN_eq, lenN_eq] at c
        cases dx with
        | ref r =>
          obtain ⟨a, r', us, ea, dl⟩ := s.ob _ _ eg
          have e9 := Option.some.inj (r'.symm.trans r)
          subst e9
          cases dy with
          | cons d1 d2 =>
            cases d2
            obtain ⟨b, us2, rfl, eb, dl2⟩ := den_asL s ez d1
            have h1 := dl.length
            have h2 := dl2.length
            exact ⟨a, b, us, us2, rfl, rfl, ea, eb, by omega, put_lst s eg r (dl.app dl2) .non w⟩
      · exact w.elim
    · exact w.elim
  · exact w.elim
def popL (xs : List MV) : Option (List MV × MV) := match xs.reverse with
  | y :: r => some (r.reverse, y)
  | [] => none
theorem popL_ok {xs ys : List MV} {y : MV} (h : popL xs = some (ys, y)) : ys = xs.dropLast ∧ xs[xs.length - 1]? = some y := by
  unfold popL at h
  split at h
  · rename_i y' r e
    cases h
    have e2 : xs = r.reverse ++ [y] := by rw [← List.reverse_reverse xs, e, List.reverse_cons]
    rw [e2]
    exact ⟨by simp, by simp⟩
  · cases h
theorem DenL.dropLast {K : PySem.W.Frag} {ρ : Rho} {M : Addr → Prop} {H : Hp} : ∀ {xs : List MV} {vs : List V}, DenL T K ρ M H xs vs → DenL T K ρ M H xs.dropLast vs.dropLast
  | _, _, .nil => .nil
  | _, _, .cons d .nil => .nil
  | _, _, .cons d (.cons d1 t) => .cons d (DenL.dropLast (.cons d1 t))
def kPop : MV → List MV → MH → Tr ER := fun x ys h => match x, ys with
  | .ref l, [] => match h.get l with
    | some (.lst xs) => match popL xs with
      | some (zs, y) => okE y (h.put l (.lst zs))
      | none => .bad
    | _ => .bad
  | _, _ => .bad
theorem kPop_ok : MtS T X rPop kPop := fun ρ h H x v ys vs m E Q s dx dy w => by
  unfold kPop at w
  split at w
  · split at w
    · rename_i xs eg
      split at w
      · rename_i zs y ep
        obtain ⟨rfl, e2⟩ := popL_ok ep
        cases dx with
        | ref r =>
          obtain ⟨a, r', us, ea, dl⟩ := s.ob _ _ eg
          have e9 := Option.some.inj (r'.symm.trans r)
          subst e9
          cases dy
          obtain ⟨u, e3, d3⟩ := dl.nthE e2
          rw [dl.length] at e3
          exact ⟨a, us, u, rfl, rfl, ea, e3, put_lst s eg r dl.dropLast d3 w⟩
      · exact w.elim
    · exact w.elim
  · exact w.elim
/-! ### {} -/
def kDnew (k : Bool) : RunE := fun _ h => okE (.ref h.nxt) (h.new (.dct k []))
theorem s_dnewK {pos : Pos} : SE T X E (.Dict [] [] pos) (kDnew true) := .ofV (peI pe_dnewK fun σ H Q ⟨ρ, m, h, s1, s2, w⟩ p n => w _ _ _ (s1.le_lab n) (s1.lab n ⟨[], upd_same, .nil⟩) (.ref rhoN_at)) fun _ => rfl
theorem s_dnewN {pos : Pos} (hP : X.prog = T.P) (hw : X.w = T.w) : SE T X E (.Dict [] [] pos) (kDnew false) := .ofV (peI pe_newN fun σ H Q ⟨ρ, m, h, s1, s2, w⟩ p n y => by
  rw [hP, hw]
  exact w _ _ _ (s1.le_lab n) (s1.lab n ⟨[], upd_same, y, .nil⟩) (.ref rhoN_at)) fun _ => rfl
end
end
end WK
set_option Elab.async false
set_option linter.all false
set_option maxRecDepth 100000
/-! exceptions: their __init__, raise -/
namespace WK
noncomputable section
open PySem PySem.Spec PyProof.Rows L2
/-- what __init__ leaves: one field and the word -/
def spI1 (C : Addr) (fn wd : Str) : Sp := fun vs H Q _ => ∃ a v, vs = [.ref a, v] ∧ H a = some (exo a C none) ∧ ∀ d, H d = none → d ≠ a → Q .non (upd (upd (upd H d (exd d [(fn, v)])) a (exo a C (some d))) d (exd d [("word", .str wd), (fn, v)]))
def spI0 (C : Addr) (wd : Str) : Sp := fun vs H Q _ => ∃ a, vs = [.ref a] ∧ H a = some (exo a C none) ∧ ∀ d, H d = none → d ≠ a → Q .non (upd (upd H d (exd d [("word", .str wd)])) a (exo a C (some d)))
section
variable {P : Program} {w : World} {K : PySem.W.Frag} {mg : Str → Option Value} {base : Heap} {x qual : Str} {params : Arguments} {body : List Stmt} {scope : Scope} {fI C BA : Addr} {fd : FuncData} {B pn fn wd z : Str} {mc : Value} {k k1 k2 : Nat} {p1 p2 p3 p4 p5 p6 p7 p8 p9 p10 p11 p12 p13 p14 : Pos}
/-- B.__init__(self, 'X') is called plainly -/
def VeCall (e : Expr) (B : Str) (p1 p2 : Pos) (args : List Expr) (p5 : Pos) : Prop := ∀ env : Env, ∃ pl : Sem Bool, eval e env = (do
      let ov ← eval (.Name B p1) env
      standAt p2.atName
      let (f, first) ← holding [ov] (getMethod ov "__init__" pl)
      callWith p5 f first (backTo p5 (starEach args env)) (backToKw p5 (keywordEach [] env)))
theorem init1_ok (F : FunD K x qual params body scope [] [] fI fd) (S : FnScope ["self", pn] ["self", pn] scope)
    (hb : body = [.Expr (.Call (.Attribute (.Name B p1) "__init__" p2) [.Name "self" p3, .Constant (.str z) k1 p4] [] p5) p6, .Assign [.Attribute (.Name "self" p7) fn p8] (.Name pn p9) p10, .Assign [.Attribute (.Name "self" p11) "word" p12] (.Constant (.str wd) k2 p13) p14])
    (hc : VeCall (.Call (.Attribute (.Name B p1) "__init__" p2) [.Name "self" p3, .Constant (.str z) k1 p4] [] p5) B p1 p2 [.Name "self" p3, .Constant (.str z) k1 p4] p5)
    (sw0 : ∀ env : Env, swapsWith (.Call (.Attribute (.Name B p1) "__init__" p2) [.Name "self" p3, .Constant (.str z) k1 p4] [] p5) none p6.line env = pure false)
    (sw1 : ∀ env : Env, swapsWith (.Name pn p9) (some (.Attribute (.Name "self" p7) fn p8)) p10.line env = pure false)
    (sw2 : ∀ env : Env, swapsWith (.Constant (.str wd) k2 p13) (some (.Attribute (.Name "self" p11) "word" p12)) p14.line env = pure false)
    (l0 : scope.names.lookup ("self" : Str) = some .local) (l1 : scope.names.lookup pn = some .local) (gl : scope.names.lookup B = some .globalImplicit) (hB : mg B = some (.ref BA)) (V : VeC K BA mc) (T : OexC K C)
    (n1 : PySem.W.findIn K (.ref C) fn = some none) (n2 : PySem.W.findIn K (.ref C) "word" = some none) (hx : (B == ("__debug__" : Str)) = false) (hp : (pn == ("__debug__" : Str)) = false) (hp2 : (pn == ("__classdict__" : Str)) = false) :
    FnOk P w K mg base (L2.CX P w) (k + 1) fI fd ["self", pn] (spI1 C fn wd) := by
  subst hb
  refine F.ok S (fun vs H Q E h => ?_) fun cdv A outer s H vs Q EK hr h => ⟨tSeq (tDrop (tVeI K (tCons (tVar 0) (tCons (tC (.str z)) tNil)))) (tSeq (tOst K fn (tVar 0) (tVar 1)) (tOst K "word" (tVar 0) (tC (.str wd)))), ?_, ?_⟩
  · obtain ⟨a, v, rfl, _⟩ := h; rfl
  · have he : ∀ X : Cx, starEach [.Name "self" p3, .Constant (.str z) k1 p4] X.env = (false, eval (.Name "self" p3) X.env) :: starEach [.Constant (.str z) k1 p4] X.env := fun X => star_cons rfl
    obtain ⟨pl, hc⟩ := hc (cxOf (L2.CX P w) P w K mg base ["self", pn] qual scope fI cdv A outer s H EK).env
    exact pss_cons (ps_expr (pe_cveinit gl hB hx V (pa_cons (pe_var rfl (.inl l0) (by decide) (by decide)) (pa_cons pe_str pa_nil (star_cons rfl)) (star_cons rfl)) hc (star_cons rfl) (by rw [backTo_any]; exact star_all rfl)) (sw0 _)) (pss_cons (ps_ost (pe_var rfl (.inl l0) (by decide) (by decide)) (pe_var rfl (.inl l1) hp hp2) (sw1 _)) (pss_one (ps_ost (pe_var rfl (.inl l0) (by decide) (by decide)) pe_str (sw2 _))))
  · obtain ⟨a, v, rfl, ea, q⟩ := h
    refine ⟨.ref a, rfl, a, C, [.str z], rfl, by show 1 ≤ 1000; omega, T, ea, ?_⟩
    refine ⟨v, rfl, .ref a, rfl, a, C, rfl, T, n1, .inl ⟨ea, fun d nd ne => ?_⟩⟩
    refine ⟨.ref a, rfl, a, C, rfl, T, n2, .inr ⟨d, [(fn, v)], upd_same, ?_, by show 1 ≤ 900; omega, q d nd ne⟩⟩
    rw [upd_ne ne]; exact upd_same
theorem init0_ok (F : FunD K x qual params body scope [] [] fI fd) (S : FnScope ["self"] ["self"] scope)
    (hb : body = [.Expr (.Call (.Attribute (.Name B p1) "__init__" p2) [.Name "self" p3, .Constant (.str z) k1 p4] [] p5) p6, .Assign [.Attribute (.Name "self" p11) "word" p12] (.Constant (.str wd) k2 p13) p14])
    (hc : VeCall (.Call (.Attribute (.Name B p1) "__init__" p2) [.Name "self" p3, .Constant (.str z) k1 p4] [] p5) B p1 p2 [.Name "self" p3, .Constant (.str z) k1 p4] p5)
    (sw0 : ∀ env : Env, swapsWith (.Call (.Attribute (.Name B p1) "__init__" p2) [.Name "self" p3, .Constant (.str z) k1 p4] [] p5) none p6.line env = pure false)
    (sw2 : ∀ env : Env, swapsWith (.Constant (.str wd) k2 p13) (some (.Attribute (.Name "self" p11) "word" p12)) p14.line env = pure false)
    (l0 : scope.names.lookup ("self" : Str) = some .local) (gl : scope.names.lookup B = some .globalImplicit) (hB : mg B = some (.ref BA)) (V : VeC K BA mc) (T : OexC K C)
    (n2 : PySem.W.findIn K (.ref C) "word" = some none) (hx : (B == ("__debug__" : Str)) = false) :
    FnOk P w K mg base (L2.CX P w) (k + 1) fI fd ["self"] (spI0 C wd) := by
  subst hb
  refine F.ok S (fun vs H Q E h => ?_) fun cdv A outer s H vs Q EK hr h => ⟨tSeq (tDrop (tVeI K (tCons (tVar 0) (tCons (tC (.str z)) tNil)))) (tOst K "word" (tVar 0) (tC (.str wd))), ?_, ?_⟩
  · obtain ⟨a, rfl, _⟩ := h; rfl
  · obtain ⟨pl, hc⟩ := hc (cxOf (L2.CX P w) P w K mg base ["self"] qual scope fI cdv A outer s H EK).env
    exact pss_cons (ps_expr (pe_cveinit gl hB hx V (pa_cons (pe_var rfl (.inl l0) (by decide) (by decide)) (pa_cons pe_str pa_nil (star_cons rfl)) (star_cons rfl)) hc (star_cons rfl) (by rw [backTo_any]; exact star_all rfl)) (sw0 _)) (pss_one (ps_ost (pe_var rfl (.inl l0) (by decide) (by decide)) pe_str (sw2 _)))
  · obtain ⟨a, rfl, ea, q⟩ := h
    refine ⟨.ref a, rfl, a, C, [.str z], rfl, by show 1 ≤ 1000; omega, T, ea, ?_⟩
    exact ⟨.ref a, rfl, a, C, rfl, T, n2, .inl ⟨ea, fun d nd ne => q d nd ne⟩⟩
end
end
end WK
set_option Elab.async false
set_option linter.all false
set_option maxRecDepth 100000
/-! what no run reaches; raise -/
namespace WK
noncomputable section
open PySem PySem.Spec PyProof.Rows L2
section
variable {T : Tb} {X : Cx} {E : XW}
/-! ### what no run reaches needs no rule -/
def badE : RunE := fun _ _ => .bad
def badS : RunS := fun _ _ => .bad
def badL : RunL := fun _ _ => .bad
def badG : RunG := fun _ _ _ => .bad
theorem z_e (e : Expr) : SE T X E e badE := ⟨⟨fun pins s σ H Q I ⟨ρ, m, h, s1, s2, w⟩ => w.elim⟩, ⟨fun pins s σ H Q I ⟨ρ, m, h, s1, s2, w⟩ => w.elim⟩⟩
theorem z_s (st : Stmt) : SS T X E st badS := ⟨fun pins s σ H D I ⟨ρ, m, h, s1, s2, w⟩ => w.elim⟩
theorem z_ss (st : List Stmt) : SSs T X E st badS := ⟨fun pins s σ H D I ⟨ρ, m, h, s1, s2, w⟩ => w.elim⟩
theorem z_g (e : Expr) : SG T X E e badG := ⟨fun pins s σ H v u Q I r ⟨ρ, m, h, x, s1, s2, d, w⟩ => w.elim⟩
/-! ### raise C(e) -/
def runRaise1 (c f fw : Nat) (wd : Str) (g : RunE) : RunS := fun m h => (g m h).be (fun x h1 => exS m (.exc c [(fw, .str wd), (f, x)]) h1) (exS m)
theorem s_raise1 {c d f fw : Nat} {fI : Addr} {fd : FuncData} {ps : List Str} {fn wd x : Str} {e : Expr} {p pos pos2 : Pos} {g : RunE} (hc : X.calm = true) (tk : Takes X (wx T X.K E)) (O : OexC X.K (cAd T X.K c))
    (iC : PySem.W.findIn X.K (.ref (cAd T X.K c)) "__init__" = some (some (.ref fI))) (tI : PySem.W.typeIn X.K (.ref fI) = some (.type "function"))
    (F1 : FnOk X.prog X.w X.K X.mg X.base (L2.CX X.prog X.w) d fI fd ps (spI1 (cAd T X.K c) fn wd)) (hr : Room (d + 1) X.A) (hb : Binds X.K fd ps []) (hx : Passes (L2.CX X.prog X.w) X (fun _ _ _ => False)) (hg : Gl X x) (hm : X.mg x = some (.ref (cAd T X.K c)))
    (he : SE T X E e g) (hf : f < T.nm.length) (hfw : fw < T.nm.length) (nf : nmS T f = fn) (nw : nmS T fw = "word") (hdb : (x == ("__debug__" : Str)) = false) (hn : notStar e = true) :
    SS T X E (.Raise (some (.Call (.Name x p) [e] [] pos)) none pos2) (runRaise1 c f fw wd g) := by
  have pm := pmk_oex (p := p) (pos := pos) (dvs := []) O iC tI F1 hr hb .nil hx hg hm (pa_cons he.v pa_nil (star_cons hn)) hdb (star_cons hn) (by rw [backTo_any]; rfl)
  refine psI (ps_raise hc tk pm) fun D σ H ⟨ρ, m, h, s1, s2, w⟩ => ?_
  refine ⟨ρ, m, h, s1, s2, Tr.wp_mono (Tr.wp_be w) fun r q => ?_⟩
  cases r with
  | ex y h1 => exact q
  | ok y h1 =>
    intro ρ1 H1 v l s dv
    refine ⟨by show 1 ≤ 1000; omega, fun a na => ⟨a, v, rfl, upd_same, fun da nd ne => ⟨rfl, da, [("word", .str wd), (fn, v)], ?_, upd_same, ?_, ?_⟩⟩⟩
    · rw [upd_ne (Ne.symm ne)]; exact upd_same
    · rw [upd_ne ne] at nd; exact nd
    · have ee : upd (del (upd (upd (upd (upd H1 a (exo a (cAd T X.K c) none)) da (exd da [(fn, v)])) a (exo a (cAd T X.K c) (some da))) da (exd da [("word", .str wd), (fn, v)])) a) da (.xd [("word", .str wd), (fn, v)]) = upd H1 da (.xd [("word", .str wd), (fn, v)]) := by
        funext b
        by_cases b1 : b = da
        · subst b1; rw [upd_same, upd_same]
        · rw [upd_ne b1, upd_ne b1]
          by_cases b2 : b = a
          · subst b2; rw [del_same, na]
          · rw [del_ne b2, upd_ne b1, upd_ne b2, upd_ne b1, upd_ne b2]
      have nd' : H1 da = none := by rw [upd_ne ne] at nd; exact nd
      rw [ee]
      have l2 : Le ρ1 h1 H1 ρ1 h1 (upd H1 da (.xd [("word", .str wd), (fn, v)])) := Le.neu nd'
      have s3 := s.neu (o := .xd [("word", .str wd), (fn, v)]) nd'
      refine ⟨ρ1, m, h1, _, s3, s2.le (l.trans l2), ⟨c, _, da, _, rfl, rfl, rfl, fun mu => ?_, upd_same, ?_⟩, q ρ1 _ (l.trans l2) s3⟩
      · rcases mu with mu | mu
        · obtain ⟨o, eo⟩ := s.am _ mu
          rw [nd'] at eo; cases eo
        · obtain ⟨o, eo⟩ := s.atO mu
          rw [nd'] at eo; cases eo
      · have z : DenF T X.K ρ1 (Mu ρ1 h1) (upd H1 da (.xd [("word", .str wd), (fn, v)])) [(fw, .str wd), (f, y)] [(nmS T fw, .str wd), (nmS T f, v)] := .cons hfw (.str _) (.cons hf (dv.le l2) .nil)
        rw [nf, nw] at z
        exact z
end
end
end WK
set_option Elab.async false
set_option linter.all false
set_option maxRecDepth 100000
set_option maxHeartbeats 4000000
/-! own exceptions over any builtin base: stores, __init__, making -/
namespace WK
noncomputable section
open PySem PySem.Spec PyProof.Rows L2
/-- own classes, then l -/
inductive Ch (l : List Value) : List Value → Prop where
  | nil : Ch l l
  | cons {c : Addr} {r : List Value} : Ch l r → Ch l (.ref c :: r)
theorem Ch.has {l m : List Value} {X : String} (c : Ch l m) : m.contains (.type X) = l.contains (.type X) := by
  induction c with
  | nil => rfl
  | cons _ ih => rw [List.contains_cons, ih]; rfl
theorem Ch.pass {l m : List Value} {self : Value} (h : refuseLoop self "__setattr__" l = pure ()) (c : Ch l m) : refuseLoop self "__setattr__" m = pure () := by
  induction c with
  | nil => exact h
  | cons _ ih => rw [refuseLoop_ref]; exact ih
theorem Ch.ne {l m : List Value} (h : l.isEmpty = false) (c : Ch l m) : m.isEmpty = false := by
  cases c with
  | nil => exact h
  | cons _ => rfl
/-- a builtin base -/
structure BsF (B nw ini : String) (l : List Value) : Prop where
  f : ExcBaseFacts B nw ini l
  pass : ∀ self, refuseLoop self "__setattr__" l = pure ()
  ob : l.contains (.type "object") = true
  ne : l.isEmpty = false
abbrev tVE : List Value := [.type "ValueError", .type "Exception", .type "BaseException", .type "object"]
abbrev tLE : List Value := [.type "LookupError", .type "Exception", .type "BaseException", .type "object"]
theorem bs_VE : BsF "ValueError" "ValueError.__new__" "ValueError.__init__" tVE := ⟨PySem.F.excBase_ValueError, PySem.F.store_ValueError.passes, by decide +kernel, rfl⟩
theorem bs_LE : BsF "LookupError" "LookupError.__new__" "LookupError.__init__" tLE := ⟨PySem.F.excBase_LookupError, PySem.F.store_LookupError.passes, by decide +kernel, rfl⟩
/-- what the text says of an own class -/
structure OxC (K : PySem.W.Frag) (nw : String) (l : List Value) (C : Addr) : Prop where
  cls : ∃ nm q N bs bm sn sub ab col dd k0 k1 k2 k3 k5, K.lookup C = some (excClassObj nm q C N bs bm true sn sub ab col dd k0 k1 k2 k3 k5 nw) ∧ Ch l bm
  sa : PySem.W.findIn K (.ref C) "__setattr__" = some (some (.builtin "object.__setattr__"))
  exC : PySem.W.subIn K (.ref C) (.type "BaseException") = some true
  tyC : PySem.W.typeIn K (.ref C) = some (.type "type")
  kC : PySem.W.keepIn K (.ref C) = true
section
open Builtin Builtin.ObjectAttr PySem.W PySem.Calls
variable {prog : Program} {w : World} {A : Around} {R : Result → Shared → Prop} {hp : Heap} {g : Array GenState} {d : Drawn} {t : Nat} {os : OsState} {B nw ini : String} {l : List Value}
/-- the walk to an instance's own dict -/
theorem to_dict {K : W.Frag} {name : Str} {tk : Tok} {v : Value} {x C : Addr} {ox : Obj} {od : Option Obj} {cd : ClassData} (Bf : BsF B nw ini l) (X : K.In hp) (J : W.InstAt hp x ox C od) (hcd : W.clsIn K C = some cd) (hm : Ch l cd.mro) (ha : W.findIn K (.ref C) name = some none)
    (hq : wpAny (model prog w) A.in1 (storeInOwnDict (.ref x) (.ref C) (.str name tk) name v false)
      (fun fin s' => match fin with | .done f => R (.ok f) s' | .again c' => c'.quiet = true ∧ codeAny (model prog w) A c' R s') (fun e s' => R (.error e) s') ⟨hp, g, d, t, os⟩) :
    codeAny (model prog w) A (.call (.builtin "object.__setattr__") ⟨[.ref x, .str name tk, v], []⟩) R ⟨hp, g, d, t, os⟩ := by
  have S := PySem.F.store_object
  have so : W.mroIn K C (.type "object") = some true := by
    unfold W.mroIn
    rw [hcd, Option.bind_some, if_neg (by rw [hm.ne Bf.ne]; decide), hm.has, Bf.ob]
  have isO : W.Looks (model prog w) hp (isInstance (.ref x) (.type "object")) true := J.type.andThen (W.looks_mroIn X so)
  refine codeAny_call_builtin S.slot.plain S.entry (@W.check_slot (model prog w) _ _ ⟨hp, g, d, t, os⟩ "object.__setattr__" "object" "__setattr__" (.ref x) [.str name tk, v] [] _ S.kind S.split isO (S.args (.ref x) (.str name tk) v) ?_)
  have lm : W.Looks (model prog w) hp (mroOf (.ref C)) cd.mro := (W.looks_clsIn X hcd).andThen .now
  have l3 : W.Looks (model prog w) hp (storeTaker? none) none := .now
  rw [W.osa_eq, refuse_eq]
  refine wpAny_bind (wpAny_bind (J.type.at (wpAny_bind (lm.at ?_))))
  rw [hm.pass (Bf.pass _)]
  exact wpAny_pure (wpAny_bind (J.type.at (wpAny_bind ((W.looks_findIn X ha).at (wpAny_bind (l3.at hq))))))
/-- the first field -/
theorem put_first {K : W.Frag} {name : Str} {tk : Tok} {v : Value} {x C : Addr} {fv : Array Value} {cd : ClassData} (Bf : BsF B nw ini l) (X : K.In hp) (hx : hp.get? x = some { cls := .ref C, data := .fields fv }) (hcd : W.clsIn K C = some cd) (hm : Ch l cd.mro) (hh : cd.hasDict = true) (ha : W.findIn K (.ref C) name = some none)
    (hq : ∀ h' tk' dx, (∀ b o, b ≠ x → hp.get? b = some o → h'.get? b = some o) → hp.objs.size ≤ dx → dx ≠ x → h'.get? x = some { cls := .ref C, dict := some dx, data := .fields fv } → h'.Ns1 dx (fun y => if y = name then some v else none) → R (.ok (.ret .none)) ⟨h', g, d, tk', os⟩) :
    codeAny (model prog w) A (.call (.builtin "object.__setattr__") ⟨[.ref x, .str name tk, v], []⟩) R ⟨hp, g, d, t, os⟩ := by
  have J : W.InstAt hp x { cls := .ref C, data := .fields fv } C none := ⟨hx, rfl, rfl, trivial⟩
  have ns : x ≠ hp.objs.size := Nat.ne_of_lt (Heap.lt_size hx)
  refine to_dict Bf X J hcd hm ha ?_
  have lc : W.Looks (model prog w) hp (classData C) cd := W.looks_clsIn X hcd
  obtain ⟨c1, c2, c3, c4, c5, hd, c7, c8, c9, c10, c11⟩ := cd
  obtain rfl : hd = true := hh
  unfold storeInOwnDict ownDictForStores
  repeat (first | with_reducible refine HandSPX.store_in_new ?_ ?_ | with_reducible refine wpAny_loadPart_at hx ?_ | with_reducible refine lc.at ?_ | wp_step)
  · exact ⟨_, #[], _, (Heap.get?_update_ne _ _ _ _ ns.symm).trans (Heap.get?_push_at rfl rfl), rfl, fun e q => absurd q (by simp), fun _ => rfl⟩
  · intro h' tk' n' same
    have hp1 : (hp.push { cls := .type "dict", data := .dict #[] }).get? x = some { cls := .ref C, data := .fields fv } := Heap.get?_push_of_some _ hx
    exact hq h' tk' hp.objs.size (fun b o nb e => (same.2 b (Nat.ne_of_lt (Heap.lt_size e))).trans ((Heap.get?_update_ne _ _ _ _ nb).trans (Heap.get?_push_of_some _ e))) (Nat.le_refl _) ns.symm ((same.2 x ns).trans (Heap.get?_update_self _ hp1 rfl)) n'
/-- a further field -/
theorem put_more {K : W.Frag} {name : Str} {tk : Tok} {v : Value} {x C dx : Addr} {fv : Array Value} {cd : ClassData} {m0 : Str → Option Value} {nl : List Str} (Bf : BsF B nw ini l) (X : K.In hp) (hx : hp.get? x = some { cls := .ref C, dict := some dx, data := .fields fv }) (hns : hp.Ns1 dx m0) (hw : Within m0 nl) (hz : nl.length ≤ 1000)
    (hcd : W.clsIn K C = some cd) (hm : Ch l cd.mro) (hh : cd.hasDict = true) (ha : W.findIn K (.ref C) name = some none) (hq : ∀ h' tk', (∀ b o, b ≠ dx → hp.get? b = some o → h'.get? b = some o) → h'.Ns1 dx (fun y => if y = name then some v else m0 y) → R (.ok (.ret .none)) ⟨h', g, d, tk', os⟩) :
    codeAny (model prog w) A (.call (.builtin "object.__setattr__") ⟨[.ref x, .str name tk, v], []⟩) R ⟨hp, g, d, t, os⟩ := by
  obtain ⟨od, _, _, eo, _, _⟩ := hns.count hw
  have J : W.InstAt hp x { cls := .ref C, dict := some dx, data := .fields fv } C (some od) := ⟨hx, rfl, rfl, eo⟩
  refine to_dict Bf X J hcd hm ha ?_
  have lc : W.Looks (model prog w) hp (classData C) cd := W.looks_clsIn X hcd
  obtain ⟨c1, c2, c3, c4, c5, hd, c7, c8, c9, c10, c11⟩ := cd
  obtain rfl : hd = true := hh
  unfold storeInOwnDict ownDictForStores
  repeat (first | with_reducible refine OEX.store_in_old hns hw hz ?_ | with_reducible refine wpAny_loadPart_at hx ?_ | with_reducible refine lc.at ?_ | wp_step)
  exact fun h' tk' n' same => hq h' tk' (fun b o nb e => (same.2 b nb).trans e) n'
end
/-! ### in the layer -/
section
variable {X : Cx} {pins : List (Addr × Obj)} {σ : L2.St} {H : Hp} {s : Shared} {a C dx : Addr} {f : Str} {y : V} {u : Value} {fs : List (Str × V)} {Q : Unit → Shared → Prop} {E : Value → Shared → Prop} {A : Around} {B nw ini : String} {l : List Value}
theorem OxC.cd {K : PySem.W.Frag} (T : OxC K nw l C) : ∃ cd : ClassData, PySem.W.clsIn K C = some cd ∧ Ch l cd.mro ∧ cd.hasDict = true := by
  obtain ⟨nm, q, N, bs, bm, sn, sub, ab, col, dd, k0, k1, k2, k3, k5, hC, hb⟩ := T.cls
  exact ⟨{ name := nm, bases := bs, mro := .ref C :: bm, ns := N, qualname := q, hasDict := true, slotNames := sn, subclasses := sub, abstract := ab, collection := col, hasDel := false }, by unfold PySem.W.clsIn; rw [hC] <;> rfl, .cons hb, rfl⟩
theorem xst_new (Bf : BsF B nw ini l) (T : OxC X.K nw l C) (I : Inv X pins σ H s) (e : H a = some (exo a C none)) (hno : PySem.W.findIn X.K (.ref C) f = some none) (ry : RelV y u)
    (h : ∀ dx s', H dx = none → dx ≠ a → Inv X pins σ (upd (upd H dx (exd dx [(f, y)])) a (exo a C (some dx))) s' → Q () s') : wpAny (model X.prog X.w) A (setAttr (.ref a) f u) Q E s := by
  obtain ⟨cd, hcl, hm, hh⟩ := T.cd
  obtain ⟨t1, ho⟩ := exo_at I.hok e
  obtain ⟨hp, g, d, t, os⟩ := s
  refine PySem.W.set_plain I.kIn (ox := { cls := .ref C, dict := none, data := .fields #[.ref t1, .none, .none, .none, .bool false, .none] }) (od := none) ⟨ho, rfl, rfl, trivial⟩ T.sa ?_
  refine put_first Bf I.kIn ho hcl hm hh hno fun h' tk' dx k dn dne hx hn => ?_
  have fd : H dx = none := I.hok.fresh dn
  have nd : ∀ {b : Addr} {o : Obj}, hp.get? b = some o → b ≠ dx := fun {b o} q => Nat.ne_of_lt (Nat.lt_of_lt_of_le (Heap.lt_size q) dn)
  have na : ∀ {b : Addr}, H b = none → b ≠ a := fun {b} n z => by rw [z, e] at n; cases n
  have U : Un X.fs [] H (upd (upd H dx (exd dx [(f, y)])) a (exo a C (some dx))) hp h' := {
    keep := fun b o q n _ _ => k b o (na n) q
    slot := fun b o q n _ _ => ⟨o.slots, k b o (na n) q⟩
    free := fun b o q n _ => by rw [upd_ne (na n), upd_ne (nd q)]; exact n
    there := fun b o q _ => by
      by_cases hb : b = a
      · subst hb; exact ⟨_, hx⟩
      · exact ⟨o, k b o hb q⟩
    tups := fun b xs q => by rw [upd_ne (at_ne e q exo_tup), upd_ne (ne_of_none q fd)]; exact q
    frzs := fun b o v q => by rw [upd_ne (at_ne e q exo_frz), upd_ne (ne_of_none q fd)]; exact q
    tbls := fun b ps q => ⟨#[], by rw [upd_ne (at_ne e q exo_tbl), upd_ne (ne_of_none q fd), q]; simp⟩ }
  refine h dx _ fd dne (I.un (t' := tk') U fun b o q => ?_)
  by_cases hb : b = a
  · subst hb; rw [upd_same] at q; cases q; exact exo_ok hx
  · rw [upd_ne hb] at q
    by_cases hd : b = dx
    · subst hd; rw [upd_same] at q; cases q; exact exd_ok hn (relO_put (fs := []) ry fun g => True.intro)
    · rw [upd_ne hd] at q
      exact (I.hok b o q).stay (fun c v hc z => k c v (hc.elim (fun z => by rw [z]; exact hb) fun z => at_ne e z exo_own) z)
        (fun c hc => by rw [upd_ne (at_ne e hc exo_own), upd_ne (ne_of_none hc fd)]; exact hc) fun c xs hc => by rw [upd_ne (at_ne e hc exo_tup), upd_ne (ne_of_none hc fd)]; exact hc
theorem xst_old (Bf : BsF B nw ini l) (T : OxC X.K nw l C) (I : Inv X pins σ H s) (e : H a = some (exo a C (some dx))) (ed : H dx = some (exd dx fs)) (hl : fs.length ≤ 900) (hno : PySem.W.findIn X.K (.ref C) f = some none) (ry : RelV y u)
    (h : ∀ s', Inv X pins σ (upd H dx (exd dx ((f, y) :: fs))) s' → Q () s') : wpAny (model X.prog X.w) A (setAttr (.ref a) f u) Q E s := by
  obtain ⟨cd, hcl, hm, hh⟩ := T.cd
  obtain ⟨t1, ho⟩ := exo_at I.hok e
  obtain ⟨mA, hns, rel⟩ := exd_at I.hok ed
  have hw := within_of rel
  obtain ⟨hp, g, d, t, os⟩ := s
  obtain ⟨od, _, _, eo, _, _⟩ := hns.count hw
  refine PySem.W.set_plain I.kIn (ox := { cls := .ref C, dict := some dx, data := .fields #[.ref t1, .none, .none, .none, .bool false, .none] }) (od := some od) ⟨ho, rfl, rfl, eo⟩ T.sa ?_
  refine put_more Bf I.kIn ho hns hw (by rw [List.length_map]; omega) hcl hm hh hno fun h' tk' k hn => ?_
  have there : ∃ o, h'.get? dx = some o := let ⟨o, _, _, q, _⟩ := hn; ⟨o, q⟩
  exact h _ (I.write (t' := tk') (x := dx) (e := dx) (o := exd dx ((f, y) :: fs)) (by rw [ed]; exact True.intro) (.inl rfl) k there (exd_ok hn (relO_put ry rel)))
theorem xinit {us : List Value} {Q : Value → Shared → Prop} (Bf : BsF B nw ini l) (T : OxC X.K nw l C) (I : Inv X pins σ H s) (e : H a = some (exo a C none)) (hl : us.length ≤ sizeLine) (h : ∀ s', Inv X pins σ H s' → Q .none s') :
    wpAny (model X.prog X.w) A (call (.builtin ini) (.ref a :: us)) Q E s := by
  obtain ⟨nm, q, N, bs, bm, sn, sub, ab, col, dd, k0, k1, k2, k3, k5, hC, hb⟩ := T.cls
  obtain ⟨t1, ho⟩ := exo_at I.hok e
  obtain ⟨hp, g, d, t, os⟩ := s
  refine wpAny_call (PySem.HandSPX.init_base Bf.f (fun Y => hb.has) (I.kIn _ _ hC) ho hl fun h' t2 k hx => ?_)
  have J := I.write (t' := t) (x := a) (e := a) (o := exo a C none) (by rw [e]; exact True.intro) (.inl rfl) k ⟨_, hx⟩ (exo_ok hx)
  have eu : upd H a (exo a C none) = H := funext fun b => if hb : b = a then by rw [hb, upd_same, e] else by rw [upd_ne hb]
  rw [eu] at J
  exact h _ J
end
end
end WK
set_option Elab.async false
set_option linter.all false
set_option maxRecDepth 100000
set_option maxHeartbeats 4000000
/-! own exceptions over any builtin base: rules -/
namespace WK
noncomputable section
open PySem PySem.Spec PyProof.Rows L2
/-- D.__init__ is the base's -/
structure CiC (K : PySem.W.Frag) (ini : String) (D : Addr) (mc : Value) : Prop where
  rd : ClX.CRead K D mc
  at_ : PySem.W.findCls K (.ref D) mc "__init__" = some (.val (.builtin ini))
  hi : PySem.W.handedIn (.builtin ini) = true
/-- the base's __init__(self, ..) -/
def tXi (K : PySem.W.Frag) (nw : String) (l : List Value) (ta : TA) : TE := fun σ H Q => ta σ H fun vs H1 => ∃ (a C : Addr) (ws : List V), vs = .ref a :: ws ∧ ws.length ≤ 1000 ∧ OxC K nw l C ∧ H1 a = some (exo a C none) ∧ Q .non H1
/-- self.f = e -/
def tXs (K : PySem.W.Frag) (nw : String) (l : List Value) (f : Str) (to te : TE) : TS := fun D σ H => te σ H fun y H1 => to σ H1 fun x H2 => ∃ a C : Addr, x = .ref a ∧ OxC K nw l C ∧ PySem.W.findIn K (.ref C) f = some none ∧
  ((H2 a = some (exo a C none) ∧ ∀ dx, H2 dx = none → dx ≠ a → D.nx σ (upd (upd H2 dx (exd dx [(f, y)])) a (exo a C (some dx)))) ∨
    ∃ (dx : Addr) (fs : List (Str × V)), H2 a = some (exo a C (some dx)) ∧ H2 dx = some (exd dx fs) ∧ fs.length ≤ 900 ∧ D.nx σ (upd H2 dx (exd dx ((f, y) :: fs))))
section
variable {X : Cx} {o e : Expr} {es : List Expr} {to te : TE} {ta : TA} {f : Str} {p p' p1 p2 pos : Pos} {B nw ini : String} {l : List Value}
theorem pe_xi {pl : Sem Bool} {D : Addr} {mc : Value} {x : Str} (Bf : BsF B nw ini l) (hg : Gl X x) (hm : X.mg x = some (.ref D)) (hx : (x == ("__debug__" : Str)) = false) (V : CiC X.K ini D mc) (ha : PA X (e :: es) ta)
    (hc : eval (.Call (.Attribute (.Name x p1) "__init__" p2) (e :: es) [] pos) X.env = (do
      let ov ← eval (.Name x p1) X.env
      standAt p2.atName
      let (f, first) ← holding [ov] (getMethod ov "__init__" pl)
      callWith pos f first (backTo pos (starEach (e :: es) X.env)) (backToKw pos (keywordEach [] X.env))))
    (he : starEach (e :: es) X.env = (false, eval e X.env) :: starEach es X.env) (hpl : (backTo pos (starEach es X.env)).any (·.1) = false) :
    PE X (.Call (.Attribute (.Name x p1) "__init__" p2) (e :: es) [] pos) (tXi X.K nw l ta) := by
  refine ⟨fun pins s σ H Q I h => ?_⟩
  refine PySem.W.methodCall_KW (ld_glob I hg hm ?_ hx) hc
  refine PySem.W.method_cls I.kIn V.rd.ga (PySem.W.cls_value I.kIn V.rd.rd V.at_ V.hi ?_)
  show wpAny _ _ (callWith pos (Value.builtin ini) [] (backTo pos (starEach (e :: es) X.env)) []) _ _ _
  refine PyProof.Rows.callWith_method1 (thn (ha.run pos pins _ σ H _ (I.tok _) h) fun us s1 ⟨vs, H1, I1, r1, a, C, ws, ev, hl, T, ea, q⟩ => ?_) he hpl
  subst ev
  cases r1 with
  | @cons _ u0 _ ur ra rw' =>
    obtain rfl : u0 = Value.ref a := ra
    have hlen : ur.length ≤ sizeLine := by
      rw [← Paired.length rw', sizeLine_eq]
      omega
    exact xinit Bf T I1 ea hlen fun s' J => ⟨.non, H1, J, rfl, q⟩
theorem ps_xs (Bf : BsF B nw ini l) (ho : PE X o to) (he : PE X e te) (hs : swapsWith e (some (.Attribute o f p')) pos.line X.env = pure false) : PS X (.Assign [.Attribute o f p'] e pos) (tXs X.K nw l f to te) := by
  refine ⟨fun pins s σ H D I h => ?_⟩
  refine plainObj_wpAny_Assign_Attribute (thn (he.run pins s σ H _ I h) fun v s1 ⟨y, H1, I1, r1, q1⟩ => thn (ho.run pins s1 σ H1 _ I1 q1) fun u s2 ⟨x, H2, I2, r2, a, C, ex, T, hno, q⟩ => ?_) hs
  subst ex
  obtain rfl : u = Value.ref a := r2
  rcases q with ⟨ea, q⟩ | ⟨dx, fs, ea, ed, hl, q⟩
  · exact xst_new Bf T I2 ea hno r1 fun dx s' n ne J => ⟨σ, _, J, q dx n ne⟩
  · exact xst_old Bf T I2 ea ed hl hno r1 fun s' J => ⟨σ, _, J, q⟩
end
/-! ### the two forms of __init__ -/
section
variable {P : Program} {w : World} {K : PySem.W.Frag} {mg : Str → Option Value} {base : Heap} {x qual : Str} {params : Arguments} {body : List Stmt} {scope : Scope} {fI C DA : Addr} {fd : FuncData} {D pn fn wd z : Str} {mc : Value} {k k1 k2 : Nat} {p1 p2 p3 p4 p5 p6 p7 p8 p9 p10 p11 p12 p13 p14 : Pos} {B nw ini : String} {l : List Value}
theorem initA_ok (Bf : BsF B nw ini l) (F : FunD K x qual params body scope [] [] fI fd) (S : FnScope ["self", pn] ["self", pn] scope)
    (hb : body = [.Expr (.Call (.Attribute (.Name D p1) "__init__" p2) [.Name "self" p3, .Constant (.str z) k1 p4] [] p5) p6, .Assign [.Attribute (.Name "self" p7) fn p8] (.Name pn p9) p10, .Assign [.Attribute (.Name "self" p11) "word" p12] (.Constant (.str wd) k2 p13) p14])
    (hc : VeCall (.Call (.Attribute (.Name D p1) "__init__" p2) [.Name "self" p3, .Constant (.str z) k1 p4] [] p5) D p1 p2 [.Name "self" p3, .Constant (.str z) k1 p4] p5)
    (sw0 : ∀ env : Env, swapsWith (.Call (.Attribute (.Name D p1) "__init__" p2) [.Name "self" p3, .Constant (.str z) k1 p4] [] p5) none p6.line env = pure false)
    (sw1 : ∀ env : Env, swapsWith (.Name pn p9) (some (.Attribute (.Name "self" p7) fn p8)) p10.line env = pure false)
    (sw2 : ∀ env : Env, swapsWith (.Constant (.str wd) k2 p13) (some (.Attribute (.Name "self" p11) "word" p12)) p14.line env = pure false)
    (l0 : scope.names.lookup ("self" : Str) = some .local) (l1 : scope.names.lookup pn = some .local) (gl : scope.names.lookup D = some .globalImplicit) (hD : mg D = some (.ref DA)) (V : CiC K ini DA mc) (T : OxC K nw l C)
    (n1 : PySem.W.findIn K (.ref C) fn = some none) (n2 : PySem.W.findIn K (.ref C) "word" = some none) (hx : (D == ("__debug__" : Str)) = false) (hp : (pn == ("__debug__" : Str)) = false) (hp2 : (pn == ("__classdict__" : Str)) = false) :
    FnOk P w K mg base (L2.CX P w) (k + 1) fI fd ["self", pn] (spI1 C fn wd) := by
  subst hb
  refine F.ok S (fun vs H Q E h => ?_) fun cdv A outer s H vs Q EK hr h => ⟨tSeq (tDrop (tXi K nw l (tCons (tVar 0) (tCons (tC (.str z)) tNil)))) (tSeq (tXs K nw l fn (tVar 0) (tVar 1)) (tXs K nw l "word" (tVar 0) (tC (.str wd)))), ?_, ?_⟩
  · obtain ⟨a, v, rfl, _⟩ := h; rfl
  · obtain ⟨pl, hc⟩ := hc (cxOf (L2.CX P w) P w K mg base ["self", pn] qual scope fI cdv A outer s H EK).env
    exact pss_cons (ps_expr (pe_xi Bf gl hD hx V (pa_cons (pe_var rfl (.inl l0) (by decide) (by decide)) (pa_cons pe_str pa_nil (star_cons rfl)) (star_cons rfl)) hc (star_cons rfl) (by rw [backTo_any]; exact star_all rfl)) (sw0 _)) (pss_cons (ps_xs Bf (pe_var rfl (.inl l0) (by decide) (by decide)) (pe_var rfl (.inl l1) hp hp2) (sw1 _)) (pss_one (ps_xs Bf (pe_var rfl (.inl l0) (by decide) (by decide)) pe_str (sw2 _))))
  · obtain ⟨a, v, rfl, ea, q⟩ := h
    refine ⟨.ref a, rfl, a, C, [.str z], rfl, by show 1 ≤ 1000; omega, T, ea, ?_⟩
    refine ⟨v, rfl, .ref a, rfl, a, C, rfl, T, n1, .inl ⟨ea, fun d nd ne => ?_⟩⟩
    refine ⟨.ref a, rfl, a, C, rfl, T, n2, .inr ⟨d, [(fn, v)], upd_same, ?_, by show 1 ≤ 900; omega, q d nd ne⟩⟩
    rw [upd_ne ne]; exact upd_same
theorem initB_ok (Bf : BsF B nw ini l) (F : FunD K x qual params body scope [] [] fI fd) (S : FnScope ["self"] ["self"] scope)
    (hb : body = [.Expr (.Call (.Attribute (.Name D p1) "__init__" p2) [.Name "self" p3, .Constant (.str z) k1 p4] [] p5) p6, .Assign [.Attribute (.Name "self" p11) "word" p12] (.Constant (.str wd) k2 p13) p14])
    (hc : VeCall (.Call (.Attribute (.Name D p1) "__init__" p2) [.Name "self" p3, .Constant (.str z) k1 p4] [] p5) D p1 p2 [.Name "self" p3, .Constant (.str z) k1 p4] p5)
    (sw0 : ∀ env : Env, swapsWith (.Call (.Attribute (.Name D p1) "__init__" p2) [.Name "self" p3, .Constant (.str z) k1 p4] [] p5) none p6.line env = pure false)
    (sw2 : ∀ env : Env, swapsWith (.Constant (.str wd) k2 p13) (some (.Attribute (.Name "self" p11) "word" p12)) p14.line env = pure false)
    (l0 : scope.names.lookup ("self" : Str) = some .local) (gl : scope.names.lookup D = some .globalImplicit) (hD : mg D = some (.ref DA)) (V : CiC K ini DA mc) (T : OxC K nw l C)
    (n2 : PySem.W.findIn K (.ref C) "word" = some none) (hx : (D == ("__debug__" : Str)) = false) :
    FnOk P w K mg base (L2.CX P w) (k + 1) fI fd ["self"] (spI0 C wd) := by
  subst hb
  refine F.ok S (fun vs H Q E h => ?_) fun cdv A outer s H vs Q EK hr h => ⟨tSeq (tDrop (tXi K nw l (tCons (tVar 0) (tCons (tC (.str z)) tNil)))) (tXs K nw l "word" (tVar 0) (tC (.str wd))), ?_, ?_⟩
  · obtain ⟨a, rfl, _⟩ := h; rfl
  · obtain ⟨pl, hc⟩ := hc (cxOf (L2.CX P w) P w K mg base ["self"] qual scope fI cdv A outer s H EK).env
    exact pss_cons (ps_expr (pe_xi Bf gl hD hx V (pa_cons (pe_var rfl (.inl l0) (by decide) (by decide)) (pa_cons pe_str pa_nil (star_cons rfl)) (star_cons rfl)) hc (star_cons rfl) (by rw [backTo_any]; exact star_all rfl)) (sw0 _)) (pss_one (ps_xs Bf (pe_var rfl (.inl l0) (by decide) (by decide)) pe_str (sw2 _)))
  · obtain ⟨a, rfl, ea, q⟩ := h
    refine ⟨.ref a, rfl, a, C, [.str z], rfl, by show 1 ≤ 1000; omega, T, ea, ?_⟩
    exact ⟨.ref a, rfl, a, C, rfl, T, n2, .inl ⟨ea, fun d nd ne => q d nd ne⟩⟩
end
end
end WK
set_option Elab.async false
set_option linter.all false
set_option maxRecDepth 100000
set_option maxHeartbeats 4000000
/-! own exceptions as values: made, their fields, isinstance -/
namespace WK
noncomputable section
open PySem PySem.Spec PyProof.Rows L2
/-- C(..), C's own __init__ keeping sp: the exception is held -/
def tMkX (C : Addr) (sp : Sp) (ta : TA) : TE := fun σ H Q => ta σ H fun vs H1 => vs.length ≤ 1000 ∧ ∀ a, H1 a = none → sp (.ref a :: vs) (upd H1 a (exo a C none)) (fun v H2 => v = .non ∧ Q (.ref a) H2) (fun _ _ _ => False)
section
variable {X : Cx} {e : Expr} {es : List Expr} {ta : TA} {p pos : Pos} {B nw ini : String} {l : List Value} {x : Str} {C fI : Addr} {k : Nat} {fd : FuncData} {ps : List Str} {sp : Sp}
theorem mkx_run {pins : List (Addr × Obj)} {σ : L2.St} {H1 : Hp} {s1 : Shared} {Q : VK} {us : List Value} {vs : List V} (Bf : BsF B nw ini l) (T : OxC X.K nw l C) (iC : PySem.W.findIn X.K (.ref C) "__init__" = some (some (.ref fI))) (tI : PySem.W.typeIn X.K (.ref fI) = some (.type "function"))
    (F1 : FnOk X.prog X.w X.K X.mg X.base (L2.CX X.prog X.w) k fI fd ps sp) (hr : Room (k + 1) X.A) (hb : Binds X.K fd ps []) (hx : Passes (L2.CX X.prog X.w) X (fun _ _ _ => False)) (I1 : Inv X pins σ H1 s1) (r1 : Vals vs us) (hz : vs.length ≤ 1000)
    (q1 : ∀ a, H1 a = none → sp (.ref a :: vs) (upd H1 a (exo a C none)) (fun v H2 => v = .non ∧ Q (.ref a) H2) (fun _ _ _ => False)) : wpAny (model X.prog X.w) X.A (call (.ref C) us) (EP X pins σ Q) X.xe s1 := by
  obtain ⟨nm, q, N, bs, bm, sn, sub, ab, col, dd, k0, k1, k2, k3, k5, hC, hch⟩ := T.cls
  obtain ⟨hp, g, dr, tk, os⟩ := s1
  have sz : hp.objs.size ≤ hp.objs.size + 1 := Nat.le_succ _
  have hn : H1 (hp.objs.size + 1) = none := I1.hok.fresh sz
  have hq := q1 (hp.objs.size + 1) hn
  have kk : ∀ b o, hp.get? b = some o → ((hp.push (PySem.W.kdv_tup us)).push (PySem.HandSPX.excO C hp.objs.size)).get? b = some o := fun b o e => Heap.get?_push_of_some _ (Heap.get?_push_of_some _ e)
  have there : ((hp.push (PySem.W.kdv_tup us)).push (PySem.HandSPX.excO C hp.objs.size)).get? (hp.objs.size + 1) = some (PySem.HandSPX.excO C hp.objs.size) := by heap_get
  have I2 : Inv X pins σ (upd H1 (hp.objs.size + 1) (exo (hp.objs.size + 1) C none)) ⟨(hp.push (PySem.W.kdv_tup us)).push (PySem.HandSPX.excO C hp.objs.size), g, dr, tk, os⟩ :=
    I1.laid (t' := tk) (a := hp.objs.size + 1) (o := exo (hp.objs.size + 1) C none) (h' := (hp.push (PySem.W.kdv_tup us)).push (PySem.HandSPX.excO C hp.objs.size)) kk sz (exo_ok there)
  have r2 : Vals (V.ref (hp.objs.size + 1) :: vs) (Value.ref (hp.objs.size + 1) :: us) := .cons rfl r1
  have hl : (Value.ref (hp.objs.size + 1) :: us).length = ps.length := by
    have z := r2.length
    rw [F1.len _ _ _ _ hq] at z
    exact z.symm
  have hus : us.length ≤ sizeLine := by
    rw [← Paired.length r1, sizeLine_eq]; omega
  refine wpAny_call (PySem.HandSPX.call_own Bf.f (fun Y => hch.has) (I1.kIn _ _ hC) (PySem.W.looks_findIn I1.kIn iC) (fun self => PySem.W.bind_fn I1.kIn self tI) hus
    (codeAny_mono (F1.run _ X.stack _ _ ⟨Value.ref (hp.objs.size + 1) :: us, []⟩ (Value.ref (hp.objs.size + 1) :: us) _ _ (fun _ _ _ => False) (hr.make C us []) (I2.env0.make C us []) (by have z := hb _ (Value.ref (hp.objs.size + 1) :: us) I2.kIn (by rw [List.append_nil]; exact hl); rw [List.append_nil] at z; exact z) r2 hq) fun r s' hq' => ?_))
  cases r with
  | error er => exact hx pins σ _ _ er s' I2 hq'
  | ok fl =>
    cases fl with
    | ret u =>
      obtain ⟨v, H2, I3, rv, ev, q2⟩ := I2.after hq'
      subst ev
      exact ⟨rv, .ref (hp.objs.size + 1), H2, I3, rfl, q2⟩
    | next => exact False.elim hq'
    | brk => exact False.elim hq'
    | cont => exact False.elim hq'
theorem pe_mkx (Bf : BsF B nw ini l) (T : OxC X.K nw l C) (iC : PySem.W.findIn X.K (.ref C) "__init__" = some (some (.ref fI))) (tI : PySem.W.typeIn X.K (.ref fI) = some (.type "function"))
    (F1 : FnOk X.prog X.w X.K X.mg X.base (L2.CX X.prog X.w) k fI fd ps sp) (hr : Room (k + 1) X.A) (hb : Binds X.K fd ps []) (hx : Passes (L2.CX X.prog X.w) X (fun _ _ _ => False)) (hg : Gl X x) (hm : X.mg x = some (.ref C)) (ha : PA X (e :: es) ta)
    (hdb : (x == ("__debug__" : Str)) = false) (he : starEach (e :: es) X.env = (false, eval e X.env) :: starEach es X.env) (hpl : (backTo pos (starEach es X.env)).any (·.1) = false) :
    PE X (.Call (.Name x p) (e :: es) [] pos) (tMkX C sp ta) := by
  refine ⟨fun pins s σ H Q I h => ?_⟩
  refine wpAny_Call_Name_kw (ld_glob I hg hm ?_ hdb)
  refine PySem.W.callWith_K (h₀ := X.base) I.ok.mod.kin T.kC (thn (ha.run pos pins s σ H _ I h) fun us s1 ⟨vs, H1, I1, r1, hz, q1⟩ => ⟨I1.kIn, ?_⟩) he hpl
  exact mkx_run Bf T iC tI F1 hr hb hx I1 r1 hz q1
theorem pe_mkx0 (Bf : BsF B nw ini l) (T : OxC X.K nw l C) (iC : PySem.W.findIn X.K (.ref C) "__init__" = some (some (.ref fI))) (tI : PySem.W.typeIn X.K (.ref fI) = some (.type "function"))
    (F1 : FnOk X.prog X.w X.K X.mg X.base (L2.CX X.prog X.w) k fI fd ps sp) (hr : Room (k + 1) X.A) (hb : Binds X.K fd ps []) (hx : Passes (L2.CX X.prog X.w) X (fun _ _ _ => False)) (hg : Gl X x) (hm : X.mg x = some (.ref C))
    (hdb : (x == ("__debug__" : Str)) = false) : PE X (.Call (.Name x p) [] [] pos) (tMkX C sp tNil) := by
  refine ⟨fun pins s σ H Q I h => ?_⟩
  refine wpAny_Call_Name_kw (ld_glob I hg hm ?_ hdb)
  obtain ⟨hz, q1⟩ := h
  exact PySem.W.callWith_K0 I.kIn T.kC (mkx_run (us := []) Bf T iC tI F1 hr hb hx I .nil hz q1)
end
/-! ### a field -/
/-- e.f, e an own exception that is held -/
def tXg (K : PySem.W.Frag) (f : Str) (te : TE) : TE := fun σ H Q => te σ H fun x H1 => ∃ (a C d : Addr) (fs : List (Str × V)) (v : V), x = .ref a ∧ H1 a = some (exo a C (some d)) ∧ H1 d = some (exd d fs) ∧ XfC K C ∧ PySem.W.findIn K (.ref C) f = some none ∧ fs.lookup f = some v ∧ Q v H1
theorem pe_xg {X : Cx} {e : Expr} {te : TE} {pos : Pos} {n : Str} (he : PE X e te) (hb : attributeBase e n X.env (eval e X.env) = eval e X.env) : PE X (.Attribute e n pos) (tXg X.K n te) := by
  refine ⟨fun pins s σ H Q I h => ?_⟩
  refine attr_of hb (thn (he.run pins s σ H _ I h) fun u s1 ⟨x, H1, I1, rx, a, C, d, fs, v, ex, ea, ed, T, hno, lf, q⟩ => ?_)
  subst ex
  obtain rfl : u = Value.ref a := rx
  obtain ⟨t1, ho⟩ := exo_at I1.hok ea
  obtain ⟨mA, hns, hr⟩ := exd_at I1.hok ed
  obtain ⟨od, hod, hl⟩ := lookIn_ns hns
  obtain ⟨u, hu, ru⟩ := RelO.some_of (v := v) (o := mA n) (by rw [← lf]; exact hr n)
  have J : PySem.W.InstAt s1.heap a _ C (some od) := ⟨ho, rfl, rfl, hod⟩
  exact HandSPX.exc_get I1.kIn J T.ga T.gg T.exC (PySem.W.findObj_own T.hdC hno rfl (by rw [hl, hu])) (handed_of ru) ⟨v, H1, I1.tok _, ru, q⟩
end
end WK
set_option Elab.async false
set_option linter.all false
set_option maxRecDepth 100000
/-! own exceptions as values: runs -/
namespace WK
noncomputable section
open PySem PySem.Spec PyProof.Rows L2
section
variable {T : Tb} {X : Cx} {E : XW}
/-! ### C(e), C() -/
theorem le_exc {K : PySem.W.Frag} {ρ : Rho} {h : MH} {H : Hp} {a d : Addr} {u w : HO} (s : SimH T K ρ h H) (na : H a = none) (nd : H d = none) (ne : d ≠ a) : Le ρ h H ρ h (upd (upd H d w) a u) ∧ SimH T K ρ h (upd (upd H d w) a u) ∧ ¬ Mu ρ h a ∧ ¬ Mu ρ h d := by
  have n1 : upd H d w a = none := by rw [upd_ne (Ne.symm ne)]; exact na
  have nm : ∀ b, H b = none → ¬ Mu ρ h b := fun b n mu => by
    rcases mu with mu | mu
    · obtain ⟨o, eo⟩ := s.am b mu
      rw [n] at eo; cases eo
    · obtain ⟨o, eo⟩ := s.atO mu
      rw [n] at eo; cases eo
  have l1 : Le ρ h H ρ h (upd H d w) := Le.neu nd
  have s1 := s.neu (o := w) nd
  exact ⟨l1.trans (Le.neu n1), s1.neu n1, nm a na, nm d nd⟩
def mkX (c f fw : Nat) (wd : Str) (x : MV) (h : MH) : Tr ER := okE (.exc c [(fw, .str wd), (f, x)]) h
def mkX0 (c fw : Nat) (wd : Str) : RunE := fun _ h => okE (.exc c [(fw, .str wd)]) h
structure MkX (T : Tb) (X : Cx) (B nw ini : String) (l : List Value) (d c fw : Nat) (fI : Addr) : Prop where
  bf : BsF B nw ini l
  ox : OxC X.K nw l (cAd T X.K c)
  iC : PySem.W.findIn X.K (.ref (cAd T X.K c)) "__init__" = some (some (.ref fI))
  tI : PySem.W.typeIn X.K (.ref fI) = some (.type "function")
  hw : fw < T.nm.length
  nw : nmS T fw = "word"
theorem exc_heap {H1 : Hp} {a da C : Addr} {f1 fs : List (Str × V)} (ne : da ≠ a) : upd (upd (upd (upd H1 a (exo a C none)) da (exd da f1)) a (exo a C (some da))) da (exd da fs) = upd (upd H1 da (exd da fs)) a (exo a C (some da)) := by
  funext b
  by_cases b1 : b = da
  · subst b1; rw [upd_same, upd_ne ne, upd_same]
  · rw [upd_ne b1]
    by_cases b2 : b = a
    · subst b2; rw [upd_same, upd_same]
    · rw [upd_ne b2, upd_ne b1, upd_ne b2, upd_ne b2, upd_ne b1]
theorem exc_heap0 {H1 : Hp} {a da C : Addr} {fs : List (Str × V)} (ne : da ≠ a) : upd (upd (upd H1 a (exo a C none)) da (exd da fs)) a (exo a C (some da)) = upd (upd H1 da (exd da fs)) a (exo a C (some da)) := by
  funext b
  by_cases b2 : b = a
  · subst b2; rw [upd_same, upd_same]
  · rw [upd_ne b2, upd_ne b2]
    by_cases b1 : b = da
    · subst b1; rw [upd_same, upd_same]
    · rw [upd_ne b1, upd_ne b2, upd_ne b1]
theorem s_mkX {B nw ini : String} {l : List Value} {c d f fw : Nat} {fI : Addr} {fd : FuncData} {ps : List Str} {fn wd x : Str} {e : Expr} {p pos : Pos} {g : RunE} (M : MkX T X B nw ini l d c fw fI)
    (F1 : FnOk X.prog X.w X.K X.mg X.base (L2.CX X.prog X.w) d fI fd ps (spI1 (cAd T X.K c) fn wd)) (hr : Room (d + 1) X.A) (hb : Binds X.K fd ps []) (hx : Passes (L2.CX X.prog X.w) X (fun _ _ _ => False)) (hg : Gl X x) (hm : X.mg x = some (.ref (cAd T X.K c)))
    (he : SE T X E e g) (hf : f < T.nm.length) (nf : nmS T f = fn) (hdb : (x == ("__debug__" : Str)) = false) (hn : notStar e = true) : SE T X E (.Call (.Name x p) [e] [] pos) (run1 g (mkX c f fw wd)) := by
  refine .ofV (peI (pe_mkx M.bf M.ox M.iC M.tI F1 hr hb hx hg hm (pa_cons he.v pa_nil (star_cons hn)) hdb (star_cons hn) (by rw [backTo_any]; rfl)) (t_run1 fun ρ h H y v m E' Q s dv w => ?_)) fun _ => rfl
  refine ⟨by show 1 ≤ 1000; omega, fun a na => ⟨a, v, rfl, upd_same, fun da nd ne => ⟨rfl, ?_⟩⟩⟩
  rw [upd_ne ne] at nd
  rw [exc_heap ne]
  obtain ⟨L, S, m1, m2⟩ := le_exc (u := exo a (cAd T X.K c) (some da)) (w := exd da [("word", .str wd), (fn, v)]) s na nd ne
  refine w ρ _ _ L S (.exc m1 upd_same m2 (by rw [upd_ne ne]; exact upd_same) ?_)
  have z : DenF T X.K ρ (Mu ρ h) (upd (upd H da (exd da [("word", .str wd), (fn, v)])) a (exo a (cAd T X.K c) (some da))) [(fw, .str wd), (f, y)] [(nmS T fw, .str wd), (nmS T f, v)] := .cons M.hw (.str _) (.cons hf (dv.le L) .nil)
  rw [nf, M.nw] at z
  exact z
theorem s_mkX0 {B nw ini : String} {l : List Value} {c d fw : Nat} {fI : Addr} {fd : FuncData} {ps : List Str} {wd x : Str} {p pos : Pos} (M : MkX T X B nw ini l d c fw fI)
    (F1 : FnOk X.prog X.w X.K X.mg X.base (L2.CX X.prog X.w) d fI fd ps (spI0 (cAd T X.K c) wd)) (hr : Room (d + 1) X.A) (hb : Binds X.K fd ps []) (hx : Passes (L2.CX X.prog X.w) X (fun _ _ _ => False)) (hg : Gl X x) (hm : X.mg x = some (.ref (cAd T X.K c)))
    (hdb : (x == ("__debug__" : Str)) = false) : SE T X E (.Call (.Name x p) [] [] pos) (mkX0 c fw wd) := by
  refine .ofV (peI (pe_mkx0 M.bf M.ox M.iC M.tI F1 hr hb hx hg hm hdb) fun σ H Q ⟨ρ, m, h, s, s2, w⟩ => ?_) fun _ => rfl
  refine ⟨by show 0 ≤ 1000; omega, fun a na => ⟨a, rfl, upd_same, fun da nd ne => ⟨rfl, ?_⟩⟩⟩
  rw [upd_ne ne] at nd
  rw [exc_heap0 ne]
  obtain ⟨L, S, m1, m2⟩ := le_exc (u := exo a (cAd T X.K c) (some da)) (w := exd da [("word", .str wd)]) s na nd ne
  refine w ρ _ _ L S (.exc m1 upd_same m2 (by rw [upd_ne ne]; exact upd_same) ?_)
  have z : DenF T X.K ρ (Mu ρ h) (upd (upd H da (exd da [("word", .str wd)])) a (exo a (cAd T X.K c) (some da))) [(fw, .str wd)] [(nmS T fw, .str wd)] := .cons M.hw (.str _) .nil
  rw [M.nw] at z
  exact z
/-! ### a field -/
def opXg (cs : List Nat) (f : Nat) (x : MV) (h : MH) : Tr ER := match x with
  | .exc c fs => match memN c cs with
    | true => match lk f fs with
      | some y => okE y h
      | none => .bad
    | false => .bad
  | _ => .bad
def XgOk (T : Tb) (K : PySem.W.Frag) (cs : List Nat) (f : Nat) : Prop := ∀ c ∈ cs, XfC K (cAd T K c) ∧ PySem.W.findIn K (.ref (cAd T K c)) (nmS T f) = some none
theorem s_xg {e : Expr} {n : Str} {pos : Pos} {g : RunE} {cs : List Nat} {f : Nat} (he : SE T X E e g) (hn : nmS T f = n) (hc : XgOk T X.K cs f) (hb : attributeBase e n X.env (eval e X.env) = eval e X.env) : SE T X E (.Attribute e n pos) (run1 g (opXg cs f)) :=
  .ofV (peI (pe_xg he.v hb) (t_run1 fun ρ h H x v m E Q s d w => by
    unfold opXg at w
    split at w
    · rename_i c fs
      split at w
      · rename_i k
        split at w
        · rename_i y e2
          cases d with
          | exc n1 r1 n2 r2 df =>
            obtain ⟨u, q1, q2, _⟩ := den_lk df e2
            obtain ⟨c1, c2⟩ := hc c (memN_ok k)
            rw [hn] at q1 c2
            exact ⟨_, _, _, _, u, rfl, r1, r2, c1, c2, q1, post_den s q2 w⟩
        · exact w.elim
      · exact w.elim
    · exact w.elim)) fun _ => rfl
end
end
end WK
set_option Elab.async false
set_option linter.all false
set_option maxRecDepth 100000
/-! isinstance of own exceptions -/
namespace WK
noncomputable section
open PySem PySem.Spec PyProof.Rows L2
/-- isinstance(e, c), e an own exception that is held -/
def rIsX (K : PySem.W.Frag) : List V → Hp → VK → Prop := fun xs H Q => ∃ (a C d : Addr) (fs : List (Str × V)) (c : V) (cv : Value) (b : Bool), xs = [.ref a, c] ∧ H a = some (exo a C (some d)) ∧ H d = some (exd d fs) ∧ ExcC K C ∧ (∀ u, RelV c u → u = cv) ∧ PySem.W.kitOne K (.ref C) cv = some b ∧ Q (.bl b) H
theorem call_isX {X : Cx} : CallR X (.builtin "isinstance") (rIsX X.K) := by
  intro pins s σ H xs us Q I r h
  obtain ⟨a, C, d, fs, c, cv, b, rfl, ea, ed, T, hcv, k, q⟩ := h
  obtain ⟨u1, u2, rfl, r1, r2⟩ := vals2 r
  obtain rfl : u1 = Value.ref a := r1
  obtain rfl := hcv _ r2
  obtain ⟨t1, ho⟩ := exo_at I.hok ea
  obtain ⟨mA, hns, _⟩ := exd_at I.hok ed
  obtain ⟨od, _, _, hod, _⟩ := hns
  have J : PySem.W.InstAt s.heap a _ C (some od) := ⟨ho, rfl, rfl, hod⟩
  have hcl : (PySem.W.clsIn X.K C).isSome = true := by
    obtain ⟨cd, hc, _⟩ := PySem.W.any_some T.hd
    rw [hc]; rfl
  exact PySem.W.kia_one (PySem.W.kitx_exc hcl T.hg T.hk T.hs T.ha T.hn T.ht T.hm) I.kIn J k (fun z => nomatch z) fun tk => ⟨.bl b, H, I.tok tk, rfl, q⟩
section
variable {T : Tb} {X : Cx} {E : XW}
def opIsX (tbl : List (Nat × Bool)) (x : MV) (h : MH) : Tr ER := match x with
  | .exc c _ => match asc c tbl with
    | some b => okE (.bl b) h
    | none => .bad
  | _ => .bad
def IsXOk (T : Tb) (K : PySem.W.Frag) (cv : Value) (tbl : List (Nat × Bool)) : Prop := ∀ c b, (c, b) ∈ tbl → ExcC K (cAd T K c) ∧ PySem.W.kitOne K (.ref (cAd T K c)) cv = some b
theorem isX_run {cv : Value} {c : V} {tbl : List (Nat × Bool)} (hc : IsXOk T X.K cv tbl) (hcv : ∀ u, RelV c u → u = cv) : ∀ ρ h H x v m (E : XW) Q, SimH T X.K ρ h H → Den T X.K ρ (Mu ρ h) H x v → (opIsX tbl x h).wp (postE T X.K E m ρ h H Q) → rIsX X.K [v, c] H Q := fun ρ h H x v m E Q s d w => by
  unfold opIsX at w
  split at w
  · rename_i k fs
    split at w
    · rename_i b e1
      cases d with
      | exc n1 r1 n2 r2 df =>
        obtain ⟨c1, c2⟩ := hc _ _ (asc_mem e1)
        exact ⟨_, _, _, _, c, cv, b, rfl, r1, r2, c1, hcv, c2, post_bl s w⟩
    · exact w.elim
  · exact w.elim
theorem s_isX {e : Expr} {g : RunE} {n : Str} {D : Addr} {tbl : List (Nat × Bool)} {p q pos : Pos} (he : SE T X E e g) (hst : notStar e = true) (hg : Gl X "isinstance") (hm : X.mg "isinstance" = none) (hgt : Gl X n) (hmt : X.mg n = some (.ref D)) (hd : (n == ("__debug__" : Str)) = false) (hc : IsXOk T X.K (.ref D) tbl) :
    SE T X E (.Call (.Name "isinstance" p) [e, .Name n q] [] pos) (run1 g (opIsX tbl)) :=
  .ofV (peI (pe_callB call_isX hg hm rfl (pa_cons he.v (pa_cons (pe_glob (v := .ref D) hgt hmt rfl hd) pa_nil) (star_cons hst)) (by decide) (by decide) (star_cons hst)) (t_run1 (isX_run hc fun u r => r))) fun _ => rfl
theorem s_isXb {e : Expr} {g : RunE} {n : Str} {t : String} {tbl : List (Nat × Bool)} {p q pos : Pos} (he : SE T X E e g) (hst : notStar e = true) (hg : Gl X "isinstance") (hm : X.mg "isinstance" = none) (hgt : Gl X n) (hmt : X.mg n = none) (hvt : bootBuiltins n = some (.type t)) (hn : n ≠ "__name__") (hd : (n == ("__debug__" : Str)) = false) (hc : IsXOk T X.K (.type t) tbl) :
    SE T X E (.Call (.Name "isinstance" p) [e, .Name n q] [] pos) (run1 g (opIsX tbl)) :=
  .ofV (peI (pe_callB call_isX hg hm rfl (pa_cons he.v (pa_cons (pe_bltn hgt hmt hvt (show RelV (.ty t) (.type t) from rfl) hn hd) pa_nil) (star_cons hst)) (by decide) (by decide) (star_cons hst)) (t_run1 (isX_run hc fun u r => r))) fun _ => rfl
end
end
end WK
set_option Elab.async false
set_option linter.all false
set_option maxRecDepth 100000
/-! texts' slices and join; callees and classes in bundles -/
namespace WK
noncomputable section
open PySem PySem.Spec PyProof.Rows L2
section
variable {T : Tb} {X : Cx} {E : XW}
/-! ### texts -/
def runSlX (f : RunE) (lo hi : RunO) : RunE := fun ms h => (f ms h).be (fun x h1 => Tr.bo (lo ms h1) (fun l h2 => Tr.bo (hi ms h2) (fun u h3 => match x with
  | .str z => ifT (leB z.length sizeLine) (okE (.str (cutS z l u)) h3)
  | _ => .bad) exE) exE) exE
theorem s_slX {e : Expr} {lo hi : Option Expr} {pos p2 : Pos} {f : RunE} {fl fh : RunO} (he : SE T X E e f) (hl : SO T X E lo fl) (hh : SO T X E hi fh) : SE T X E (.Subscript e (.Slice lo hi none p2) pos) (runSlX f fl fh) :=
  .ofV (peI (pe_slice sl_str he.v hl hh) fun σ H Q ⟨ρ, m, h, s1, s2, w⟩ => ⟨ρ, m, h, s1, s2, Tr.wp_mono (Tr.wp_be w) fun r q => by
    cases r with
    | ex x h1 => exact q
    | ok x h1 =>
      intro ρ1 H1 v l s d
      refine ⟨ρ1, m, h1, s, s2.le l, Tr.wp_mono (Tr.wp_bo q) fun r q => ?_⟩
      cases r with
      | ex x h2 => exact exP.le l q
      | ok lo' h2 =>
        intro ρ2 H2 l2 s'
        refine ⟨ρ2, m, h2, s', s2.le (l.trans l2), Tr.wp_mono (Tr.wp_bo q) fun r q => ?_⟩
        cases r with
        | ex x h3 => exact exP.le (l.trans l2) q
        | ok hi' h3 =>
          intro ρ3 H3 l3 s''
          dsimp only at q
          split at q
          · obtain ⟨c, q⟩ := ifT_wp q
            cases d
            exact ⟨_, rfl, leB_ok c, q ρ3 H3 _ ((l.trans l2).trans l3) s'' (.str _)⟩
          · exact q.elim⟩) fun _ => rfl
def strsM : List MV → Option (List Str)
  | [] => some []
  | .str b :: r => match strsM r with
    | some bs => some (b :: bs)
    | none => none
  | _ => none
theorem strsM_ok {K : PySem.W.Frag} {ρ : Rho} {M : Addr → Prop} {H : Hp} : ∀ {xs : List MV} {vs : List V} {bs : List Str}, strsM xs = some bs → DenL T K ρ M H xs vs → vs = bs.map V.str
  | [], _, _, e, d => by cases e; cases d; rfl
  | .str b :: r, _, _, e, d => by
    have e1 : (match strsM r with
      | some bs => some (b :: bs)
      | none => none) = some _ := e
    cases q : strsM r with
    | none => rw [q] at e1; cases e1
    | some bs =>
      rw [q] at e1; cases e1
      cases d with
      | cons d1 d2 => cases d1; rw [strsM_ok q d2]; rfl
def opJoin (a : Str) (x : MV) (h : MH) : Tr ER := match asQ h x with
  | some xs => match strsM xs with
    | some ys => ifT (leB ((ys.map (·.length)).sum + ys.length * a.length) 16777216) (okE (.str (Str.join a ys)) h)
    | none => .bad
  | none => .bad
/-- a.join(e), a written -/
theorem s_join {a : Str} {j : Nat} {e : Expr} {g : RunE} {p apos pos : Pos} (he : SE T X E e g) (hs : starEach [e] X.env = [(false, eval e X.env)]) (hbase : attributeBase (.Constant (.str a) j p) "join" X.env (eval (.Constant (.str a) j p) X.env) = eval (.Constant (.str a) j p) X.env) (hline : (apos.endLine == pos.line) = true) :
    SE T X E (.Call (.Attribute (.Constant (.str a) j p) "join" apos) [e] [] pos) (run1 g (opJoin a)) :=
  .ofV (peI (pe_join pe_str he.v hs hbase hline) fun σ H Q w => ⟨⟨a, rfl⟩, t_run1 (op := opJoin a) (r := fun y H2 Q => ∃ a0 p, ∃ ys : List Str, V.str a = .str a0 ∧ [y] = [.ref p] ∧ (SqL X.K H2 p (ys.map V.str) ∨ SqT X.K H2 p (ys.map V.str)) ∧ (ys.map (·.length)).sum + ys.length * a0.length ≤ 16777216 ∧ Q (.str (Txt.join a0 ys)) H2) (fun ρ h H x v m E Q s d w => by
    unfold opJoin at w
    split at w
    · rename_i xs e1
      split at w
      · rename_i ys e2
        obtain ⟨c, w⟩ := ifT_wp w
        obtain ⟨b, vs, rfl, r, d1⟩ := den_asQ s e1 d
        have e3 := strsM_ok e2 d1
        subst e3
        exact ⟨_, b, ys, rfl, rfl, r, leB_ok c, by rw [TL.join_eq]; exact post_str s w⟩
      · exact w.elim
    · exact w.elim) σ H Q w⟩) fun _ => rfl
/-! ### callees -/
structure Cal (T : Tb) (P : Program) (w : World) (K : PySem.W.Frag) (mg : Str → Option Value) (base : Heap) (x : Str) (d n : Nat) (run : List MV → MH → Tr ER) : Prop where
  ex : ∃ (f : Addr) (fd : FuncData) (ps : List Str), mg x = some (.ref f) ∧ PySem.W.keepIn K (.ref f) = true ∧ Binds K fd ps [] ∧ ps.length = n ∧ FnOk P w K mg base (L2.CX P w) d f fd ps (spF T K ps.length run)
theorem s_cal {d n : Nat} {run : List MV → MH → Tr ER} {x : Str} {e : Expr} {es : List Expr} {p pos : Pos} {g : RunL} (C : Cal T X.prog X.w X.K X.mg X.base x d n run) (tk : Takes X (wx T X.K E)) (hr : Room d X.A) (hg : Gl X x) (ha : SA T X E (e :: es) g) (hl : (e :: es).length = n) (hx : (x == ("__debug__" : Str)) = false) :
    SE T X E (.Call (.Name x p) (e :: es) [] pos) (runArgs g (runF false [] run)) := by
  obtain ⟨f, fd, ps, h1, h2, h3, h4, h5⟩ := C.ex
  exact s_call (dfl := []) tk h5 hr hg h1 h2 h3 rfl .nil ha (by rw [List.length_nil, Nat.add_zero, h4]; exact hl) hx
theorem takesF : Takes X (wx T X.K EF) := fun _ _ ⟨_, _, _, _, _, _, _, _, _, _, _, _, _, _, _, _, _, _, _, _, _, _, _, w⟩ => w.elim
theorem pass_wx (tk : Takes X (wx T X.K E)) : Passes (L2.CX X.prog X.w) X (fun _ _ _ => False) := passes_call tk fun _ _ _ _ h => h.elim
/-! ### own exceptions' classes -/
structure MkC (T : Tb) (P : Program) (w : World) (K : PySem.W.Frag) (mg : Str → Option Value) (base : Heap) (x : Str) (d c fw : Nat) (n : Nat) (spi : Addr → Sp) : Prop where
  ex : ∃ (B nw ini : String) (l : List Value) (fI : Addr) (fd : FuncData) (ps : List Str), BsF B nw ini l ∧ OxC K nw l (cAd T K c) ∧ PySem.W.findIn K (.ref (cAd T K c)) "__init__" = some (some (.ref fI)) ∧ PySem.W.typeIn K (.ref fI) = some (.type "function") ∧
    mg x = some (.ref (cAd T K c)) ∧ Binds K fd ps [] ∧ FnOk P w K mg base (L2.CX P w) d fI fd ps (spi (cAd T K c))
theorem s_exc1 {d c f fw : Nat} {fn wd x : Str} {e : Expr} {p pos : Pos} {g : RunE} (M : MkC T X.prog X.w X.K X.mg X.base x d c fw 1 fun C => spI1 C fn wd) (tk : Takes X (wx T X.K E)) (hr : Room (d + 1) X.A) (hg : Gl X x) (he : SE T X E e g) (hf : f < T.nm.length) (nf : nmS T f = fn) (hw : fw < T.nm.length) (nw : nmS T fw = "word")
    (hdb : (x == ("__debug__" : Str)) = false) (hn : notStar e = true) : SE T X E (.Call (.Name x p) [e] [] pos) (run1 g (mkX c f fw wd)) := by
  obtain ⟨B, n, ini, l, fI, fd, ps, h1, h2, h3, h4, h5, h6, h7⟩ := M.ex
  exact s_mkX ⟨h1, h2, h3, h4, hw, nw⟩ h7 hr h6 (pass_wx tk) hg h5 he hf nf hdb hn
theorem s_exc0 {d c fw : Nat} {wd x : Str} {p pos : Pos} (M : MkC T X.prog X.w X.K X.mg X.base x d c fw 0 fun C => spI0 C wd) (tk : Takes X (wx T X.K E)) (hr : Room (d + 1) X.A) (hg : Gl X x) (hw : fw < T.nm.length) (nw : nmS T fw = "word")
    (hdb : (x == ("__debug__" : Str)) = false) : SE T X E (.Call (.Name x p) [] [] pos) (mkX0 c fw wd) := by
  obtain ⟨B, n, ini, l, fI, fd, ps, h1, h2, h3, h4, h5, h6, h7⟩ := M.ex
  exact s_mkX0 ⟨h1, h2, h3, h4, hw, nw⟩ h7 hr h6 (pass_wx tk) hg h5 hdb
/-- isinstance(e, D), D an own class by its name -/
structure IsD (T : Tb) (K : PySem.W.Frag) (mg : Str → Option Value) (x : Str) (tbl : List (Nat × Bool)) : Prop where
  ex : ∃ D, mg x = some (.ref D) ∧ IsXOk T K (.ref D) tbl
theorem s_isD {e : Expr} {g : RunE} {n : Str} {tbl : List (Nat × Bool)} {p q pos : Pos} (C : IsD T X.K X.mg n tbl) (he : SE T X E e g) (hst : notStar e = true) (hg : Gl X "isinstance") (hm : X.mg "isinstance" = none) (hgt : Gl X n) (hd : (n == ("__debug__" : Str)) = false) :
    SE T X E (.Call (.Name "isinstance" p) [e, .Name n q] [] pos) (run1 g (opIsX tbl)) := by
  obtain ⟨D, h1, h2⟩ := C.ex
  exact s_isX he hst hg hm hgt h1 hd h2
/-! ### looks at scopes -/
def visB (o : Option NameKind) : Bool := match o with
  | some .local => true | some .cell => true | some .free => true | _ => false
theorem vis_by {sc : Scope} {x : Str} (h : visB (sc.names.lookup x) = true) : Vis sc x := by
  unfold Vis
  cases e : sc.names.lookup x with
  | none => rw [e] at h; cases h
  | some k => rw [e] at h; cases k <;> first | exact .inl rfl | exact .inr (.inl rfl) | exact .inr (.inr rfl) | cases h
def locB (o : Option NameKind) : Bool := match o with
  | some .local => true | some .cell => true | _ => false
theorem loc_by {sc : Scope} {x : Str} (h : locB (sc.names.lookup x) = true) : L2.Loc sc x := by
  unfold L2.Loc
  cases e : sc.names.lookup x with
  | none => rw [e] at h; cases h
  | some k => rw [e] at h; cases k <;> first | exact .inl rfl | exact .inr rfl | cases h
end
end
end WK
set_option Elab.async false
set_option linter.all false
set_option maxRecDepth 100000
set_option maxHeartbeats 0
namespace WK
noncomputable section
open PySem L2
abbrev top (i : Nat) : Stmt := PySem.Challenge.pw_windowkin_k73_counts_at_a_console.main.body.getD i (.Pass ⟨0, 0, 0, 0⟩)
abbrev NPl : List Str := ["_law_bag_here", "_law_many", "_law_cell", "_law_got", "_law_seed"]
abbrev cI (i : Int) : RunE := fun _ h => okE (.int i) h
abbrev bx (i : Int) : RunE := run2 (runVar 0) (cI i) opIx
abbrev cGe : CF := cInt fun i j => decide (j ≤ i)
abbrev cGt : CF := cInt fun i j => decide (j < i)
/-- // by a positive divisor of up to a hundred digits -/
def opFdivW (x y : MV) (h : MH) : Tr ER := match x, y with
  | .int i, .int j => ifT (decide (0 < j) && Nat.ble j.natAbs (10 ^ 30)) (okE (.int (i / j)) h)
  | _, _ => .bad
abbrev ten18 : RunE := run2 (cI 10) (cI 18) opPow
def rPull : RunS :=
  runSeq (runIf (runAnd (run2 (bx 2) (cI 0) (cOp cEq)) (run2 (bx 1) (runArgs (runCons (bx 0) runNil) kLen) (cOp cLt)))
    (runSeq (runAsg (run2 (bx 0) (bx 1) opIx) (gNm 2))
    (runSeq (runAsg (run2 (bx 1) (cI 1) (opAdd false)) (gSubR (runVar 0) (cI 1)))
      (runIf (run2 (runVar 2) ten18 (cOp cGe))
        (runAsg (run2 (runVar 2) ten18 opSub) (gSubR (runVar 0) (cI 2)))
        (runAsg (run2 (run2 (run2 (run2 (bx 3) (cI 48271) (opMul false)) (run2 (run2 (runVar 2) (cI 2147483563) opMod) (cI 69621) (opMul false)) (opAdd false)) (cI 7) (opAdd false)) (cI 2147483563) opMod) (gSubR (runVar 0) (cI 3)))))) nxS)
  (runSeq (runIf (run2 (bx 2) (cI 0) (cOp cGt))
    (runSeq (runAsg (run2 (bx 2) (runVar 1) opMod) (gNm 3))
    (runSeq (runAsg (run2 (bx 2) (runVar 1) opFdivW) (gSubR (runVar 0) (cI 2)))
      (runRet (runVar 3)))) nxS)
  (runSeq (runAsg (bx 3) (gNm 4))
  (runSeq (runAsg (run2 (run2 (run2 (run2 (run2 (runVar 4) (runVar 4) (opMul false)) (cI 3) (opMul false)) (run2 (runVar 4) (cI 16807) (opMul false)) (opAdd false)) (cI 1013904223) (opAdd false)) (cI 2147483563) opMod) (gSubR (runVar 0) (cI 3)))
    (runRet (run2 (run2 (run2 (bx 3) (cI 61) opFdiv) (run2 (run2 (bx 3) (cI 8191) opMod) (cI 17) (opMul false)) (opAdd false)) (runVar 1) opMod)))))
section
variable {T : Tb} {X : Cx} {E : XW}
theorem opFdivW_ok : OpS T X (rI CDivW fun i j => .int (i / j)) opFdivW := fun ρ h H x y v u E ms Q s dx dy w => by
  unfold opFdivW at w
  split at w
  · rename_i i j
    cases dx; cases dy
    obtain ⟨c, w⟩ := ifT_wp w
    obtain ⟨c1, c2⟩ := Bool.and_eq_true_iff.mp c
    have h1 : (0 : Int) < j := of_decide_eq_true c1
    have h2 : j.natAbs ≤ 10 ^ 30 := Nat.le_of_ble_eq_true c2
    exact ⟨i, j, rfl, rfl, wide_div (b := 200) h1 (Nat.lt_of_le_of_lt h2 (by decide)) (by decide) (by decide), post_int s w⟩
  · exact w.elim
end
theorem scPl : FnScope NPl ["_law_bag_here", "_law_many"] (defScope (top 86)) := ⟨rfl, rfl, rfl, by decide +kernel, rfl, by decide +kernel, by decide +kernel⟩
section
variable {T : Tb} {P : Program} {w : World} {K : PySem.W.Frag} {mg : Str → Option Value} {base : Heap} {cdv : Value} {A : Around} {outer : List Env} {s : Shared} {H : Hp} {EK : XK} {E : XW} {f : Addr} {k : Nat}
abbrev XPl (P : Program) (w : World) (K : PySem.W.Frag) (mg : Str → Option Value) (base : Heap) (cdv : Value) (A : Around) (outer : List Env) (s : Shared) (H : Hp) (EK : XK) (f : Addr) : Cx := cxOf (L2.CX P w) P w K mg base NPl "_law_pull" (defScope (top 86)) f cdv A outer s H EK
theorem bPl (gl : mg "len" = none) (hP : P = T.P) (hw : w = T.w) (hu : (XPl P w K mg base cdv A outer s H EK f).A.units + 200 < cLine) : SSs T (XPl P w K mg base cdv A outer s H EK f) E (defBody (top 86)) rPull := by
  have nd : (XPl P w K mg base cdv A outer s H EK f).N.Nodup := scPl.nd
  have v0 : ∀ p, SE T (XPl P w K mg base cdv A outer s H EK f) E (.Name "_law_bag_here" p) (runVar 0) := fun p => s_var rfl (.inl rfl) rfl rfl
  have v1 : ∀ p, SE T (XPl P w K mg base cdv A outer s H EK f) E (.Name "_law_many" p) (runVar 1) := fun p => s_var rfl (.inl rfl) rfl rfl
  have v2 : ∀ p, SE T (XPl P w K mg base cdv A outer s H EK f) E (.Name "_law_cell" p) (runVar 2) := fun p => s_var rfl (.inl rfl) rfl rfl
  have v3 : ∀ p, SE T (XPl P w K mg base cdv A outer s H EK f) E (.Name "_law_got" p) (runVar 3) := fun p => s_var rfl (.inl rfl) rfl rfl
  have v4 : ∀ p, SE T (XPl P w K mg base cdv A outer s H EK f) E (.Name "_law_seed" p) (runVar 4) := fun p => s_var rfl (.inl rfl) rfl rfl
  have ci : ∀ {i : Int} {j : Nat} {p : Pos}, SE T (XPl P w K mg base cdv A outer s H EK f) E (.Constant (.int i) j p) (cI i) := fun {i j p} => s_con pe_int (fun _ _ _ => .int i) fun _ => rfl
  have ln : ∀ {e g p q}, SE T (XPl P w K mg base cdv A outer s H EK f) E e g → notStar e = true → SE T (XPl P w K mg base cdv A outer s H EK f) E (.Call (.Name "len" p) [e] [] q) (runArgs (runCons g runNil) kLen) := fun he hn => s_biB cr_len kLen_ok rfl gl boot_len (a_cons he a_nil hn) (by decide) (by decide)
  have gb : ∀ {i : Int} {j : Nat} {p q r}, SG T (XPl P w K mg base cdv A outer s H EK f) E (.Subscript (.Name "_law_bag_here" p) (.Constant (.int i) j q) r) (gSubR (runVar 0) (cI i)) := fun {i j p q r} => g_sub hP hw (by omega) (v0 p) ci fun _ => rfl
  have ten : ∀ {p q r j j'}, SE T (XPl P w K mg base cdv A outer s H EK f) E (.BinOp (.Constant (.int 10) j p) .Pow (.Constant (.int 18) j' q) r) ten18 := s_bin op_pow opPow_ok ci ci
  refine ss_cons (s_if (s_bool (sb_and (s_cmp (op_eqA (by omega)) cEq_ok (s_ix (v0 _) ci rfl) ci rfl) (sb_and1 (s_cmp (op_ltA ?_) cLt_ok (s_ix (v0 _) ci rfl) (ln (s_ix (v0 _) ci rfl) rfl) rfl))))
    (ss_cons (s_asg (s_ix (s_ix (v0 _) ci rfl) (s_ix (v0 _) ci rfl) rfl) (g_name nd rfl (.inl rfl) (.inr rfl)) rfl rfl rfl)
      (ss_cons (s_asg (s_bin op_addA (opAdd_ok false) (s_ix (v0 _) ci rfl) ci) gb rfl rfl rfl)
        (ss_one (s_if (s_cmp op_ge (cInt_ok _) (v2 _) ten rfl) (ss_one (s_asg (s_bin op_sub opSub_ok (v2 _) ten) gb rfl rfl rfl))
          (ss_one (s_asg (s_bin op_modN opMod_ok (s_bin op_addA (opAdd_ok false) (s_bin op_addA (opAdd_ok false) (s_bin op_mulA (opMul_ok false) (s_ix (v0 _) ci rfl) ci) (s_bin op_mulA (opMul_ok false) (s_bin op_modN opMod_ok (v2 _) ci) ci)) ci) ci) gb rfl rfl rfl)))))) ss_nil) ?_
  · omega
  · exact ss_cons (s_if (s_cmp op_gt (cInt_ok _) (s_ix (v0 _) ci rfl) ci rfl)
      (ss_cons (s_asg (s_bin op_modN opMod_ok (s_ix (v0 _) ci rfl) (v1 _)) (g_name nd rfl (.inl rfl) (.inr rfl)) rfl rfl rfl)
        (ss_cons (s_asg (s_bin op_fdivW opFdivW_ok (s_ix (v0 _) ci rfl) (v1 _)) gb rfl rfl rfl)
          (ss_one (s_ret (v3 _))))) ss_nil)
      (ss_cons (s_asg (s_ix (v0 _) ci rfl) (g_name nd rfl (.inl rfl) (.inr rfl)) rfl rfl rfl)
        (ss_cons (s_asg (s_bin op_modN opMod_ok (s_bin op_addA (opAdd_ok false) (s_bin op_addA (opAdd_ok false) (s_bin op_mulA (opMul_ok false) (s_bin op_mulA (opMul_ok false) (v4 _) (v4 _)) ci) (s_bin op_mulA (opMul_ok false) (v4 _) ci)) ci) ci) gb rfl rfl rfl)
          (ss_one (s_ret (s_bin op_modN opMod_ok (s_bin op_addA (opAdd_ok false) (s_bin op_fdivN opFdiv_ok (s_ix (v0 _) ci rfl) ci) (s_bin op_mulA (opMul_ok false) (s_bin op_modN opMod_ok (s_ix (v0 _) ci rfl) ci) ci)) (v1 _))))))
end
end
end WK
set_option Elab.async false
set_option linter.all false
set_option maxRecDepth 100000
namespace WK
noncomputable section
open PySem L2
abbrev bagL (cs : List MV) (i z q : Int) : MO := .lst [.lst cs, .int i, .int z, .int q]
section
variable {h : MH} {l : Nat} {cs : List MV} {i z q n : Int} {a b c : Option MV} (e : h.get l = some (bagL cs i z q))
include e
theorem bx_0 : bx 0 [some (.ref l), some (.int n), a, b, c] h = okE (.lst cs) h := by
  show opIx (.ref l) (.int 0) h = _
  simp [opIx, asQ, asL, e, atM]; try rfl
theorem bx_1 : bx 1 [some (.ref l), some (.int n), a, b, c] h = okE (.int i) h := by
  show opIx (.ref l) (.int 1) h = _
  simp [opIx, asQ, asL, e, atM]; try rfl
theorem bx_2 : bx 2 [some (.ref l), some (.int n), a, b, c] h = okE (.int z) h := by
  show opIx (.ref l) (.int 2) h = _
  simp [opIx, asQ, asL, e, atM]; try rfl
theorem bx_3 : bx 3 [some (.ref l), some (.int n), a, b, c] h = okE (.int q) h := by
  show opIx (.ref l) (.int 3) h = _
  simp [opIx, asQ, asL, e, atM]; try rfl
theorem sb_1 (v : Int) : gSubR (runVar 0) (cI 1) (.int v) [some (.ref l), some (.int n), a, b, c] h = .ret (.ok [some (.ref l), some (.int n), a, b, c] (h.put l (bagL cs v z q))) := by
  show Option.rec (motive := fun _ => Tr GR) _ _ (stSub (.ref l) (.int 1) (.int v) h) = _
  unfold stSub
  simp only [e]
  rfl
theorem sb_2 (v : Int) : gSubR (runVar 0) (cI 2) (.int v) [some (.ref l), some (.int n), a, b, c] h = .ret (.ok [some (.ref l), some (.int n), a, b, c] (h.put l (bagL cs i v q))) := by
  show Option.rec (motive := fun _ => Tr GR) _ _ (stSub (.ref l) (.int 2) (.int v) h) = _
  unfold stSub
  simp only [e]
  rfl
theorem sb_3 (v : Int) : gSubR (runVar 0) (cI 3) (.int v) [some (.ref l), some (.int n), a, b, c] h = .ret (.ok [some (.ref l), some (.int n), a, b, c] (h.put l (bagL cs i z v))) := by
  show Option.rec (motive := fun _ => Tr GR) _ _ (stSub (.ref l) (.int 3) (.int v) h) = _
  unfold stSub
  simp only [e]
  rfl
end
end
end WK
set_option Elab.async false
set_option linter.all false
set_option maxRecDepth 100000
namespace WK
noncomputable section
open PySem L2
theorem smI_in {j : Int} (h0 : 0 ≤ j) (h1 : j < 2147483563) : smI j = true := by
  unfold smI
  rw [Nat.ble_eq]
  omega
theorem be_okE {α : Type} {v : MV} {h : MH} {f g : MV → MH → Tr α} : (okE v h).be f g = f v h := rfl
theorem bind_ret {α β : Type} {a : α} {f : α → Tr β} : (Tr.ret a).bind f = f a := rfl
theorem ifT_true {α : Type} {t : Tr α} : ifT true t = t := rfl
theorem mul_in {m : Bool} {i j : Int} {h : MH} (c : (smI i || smI j) = true) : opMul m (.int i) (.int j) h = okE (.int (i * j)) h := by
  show ifT _ _ = _
  rw [c]; rfl
theorem add_in {m : Bool} {i j : Int} {h : MH} : opAdd m (.int i) (.int j) h = okE (.int (i + j)) h := rfl
theorem mod_in {i j : Int} {h : MH} (c : j ≠ 0) : opMod (.int i) (.int j) h = okE (.int (i.fmod j)) h := by
  unfold opMod
  simp [c]
  try rfl
def P3 : RunS := runSeq (runAsg (bx 3) (gNm 4))
  (runSeq (runAsg (run2 (run2 (run2 (run2 (run2 (runVar 4) (runVar 4) (opMul false)) (cI 3) (opMul false)) (run2 (runVar 4) (cI 16807) (opMul false)) (opAdd false)) (cI 1013904223) (opAdd false)) (cI 2147483563) opMod) (gSubR (runVar 0) (cI 3)))
    (runRet (run2 (run2 (run2 (bx 3) (cI 61) opFdiv) (run2 (run2 (bx 3) (cI 8191) opMod) (cI 17) (opMul false)) (opAdd false)) (runVar 1) opMod)))
section
variable {h : MH} {l : Nat} {cs : List MV} {i z q n : Int} {a b c : Option MV}
theorem put_at (e : h.get l = some (bagL cs i z q)) (o : MO) : (h.put l o).get l = some o := by
  rw [put_get e, if_pos rfl]
theorem p3_run (e : h.get l = some (bagL cs i z q)) (q0 : 0 ≤ q) (q1 : q < 2147483563) (hn : n ≠ 0) :
    P3 [some (.ref l), some (.int n), a, b, c] h = .ret (.rt (.int ((((q * q * 3 + q * 16807 + 1013904223).fmod 2147483563).fdiv 61 + ((q * q * 3 + q * 16807 + 1013904223).fmod 2147483563).fmod 8191 * 17).fmod n)) (h.put l (bagL cs i z ((q * q * 3 + q * 16807 + 1013904223).fmod 2147483563)))) := by
  have m1 : (smI q || smI q) = true := by rw [smI_in q0 q1]; rfl
  have m2 : (smI (q * q) || smI 3) = true := by rw [show smI 3 = true from by decide]; simp
  have m3 : (smI q || smI 16807) = true := by rw [smI_in q0 q1]; rfl
  have e2 := put_at e (bagL cs i z ((q * q * 3 + q * 16807 + 1013904223).fmod 2147483563))
  have st1 : runAsg (bx 3) (gNm 4) [some (.ref l), some (.int n), a, b, c] h = nxS [some (.ref l), some (.int n), a, b, some (.int q)] h := by
    show (bx 3 _ h).be _ _ = _
    rw [bx_3 e]; rfl
  have v4 : runVar 4 [some (.ref l), some (.int n), a, b, some (.int q)] h = okE (.int q) h := rfl
  have st2 : run2 (run2 (run2 (run2 (run2 (runVar 4) (runVar 4) (opMul false)) (cI 3) (opMul false)) (run2 (runVar 4) (cI 16807) (opMul false)) (opAdd false)) (cI 1013904223) (opAdd false)) (cI 2147483563) opMod [some (.ref l), some (.int n), a, b, some (.int q)] h = okE (.int ((q * q * 3 + q * 16807 + 1013904223).fmod 2147483563)) h := by
    simp only [run2, v4, be_okE, mul_in m1, mul_in m2, mul_in m3, add_in, cI]
    exact mod_in (by decide)
  have st3 : runAsg (run2 (run2 (run2 (run2 (run2 (runVar 4) (runVar 4) (opMul false)) (cI 3) (opMul false)) (run2 (runVar 4) (cI 16807) (opMul false)) (opAdd false)) (cI 1013904223) (opAdd false)) (cI 2147483563) opMod) (gSubR (runVar 0) (cI 3)) [some (.ref l), some (.int n), a, b, some (.int q)] h = nxS [some (.ref l), some (.int n), a, b, some (.int q)] (h.put l (bagL cs i z ((q * q * 3 + q * 16807 + 1013904223).fmod 2147483563))) := by
    show (run2 _ _ _ _ h).be _ _ = _
    rw [st2]
    show toS (gSubR _ _ _ _ h) = _
    rw [sb_3 e]; rfl
  have st4 : run2 (run2 (run2 (bx 3) (cI 61) opFdiv) (run2 (run2 (bx 3) (cI 8191) opMod) (cI 17) (opMul false)) (opAdd false)) (runVar 1) opMod [some (.ref l), some (.int n), a, b, some (.int q)] (h.put l (bagL cs i z ((q * q * 3 + q * 16807 + 1013904223).fmod 2147483563))) = okE (.int ((((q * q * 3 + q * 16807 + 1013904223).fmod 2147483563).fdiv 61 + ((q * q * 3 + q * 16807 + 1013904223).fmod 2147483563).fmod 8191 * 17).fmod n)) (h.put l (bagL cs i z ((q * q * 3 + q * 16807 + 1013904223).fmod 2147483563))) := by
    have b3 := bx_3 (n := n) (a := a) (b := b) (c := some (.int q)) e2
    have v1 : ∀ h', runVar 1 [some (.ref l), some (.int n), a, b, some (.int q)] h' = okE (.int n) h' := fun _ => rfl
    have d1 : ∀ (x : Int) h', opFdiv (.int x) (.int 61) h' = okE (.int (x.fdiv 61)) h' := fun x h' => rfl
    have d2 : ∀ (x : Int) h', opMod (.int x) (.int 8191) h' = okE (.int (x.fmod 8191)) h' := fun x h' => rfl
    have d3 : ∀ (x : Int) h', opMul false (.int x) (.int 17) h' = okE (.int (x * 17)) h' := fun x h' => mul_in (by rw [show smI 17 = true from by decide]; simp)
    have key : ∀ (B : RunE) (y : Int) (h2 : MH), B [some (.ref l), some (.int n), a, b, some (.int q)] h2 = okE (.int y) h2 → run2 (run2 (run2 B (cI 61) opFdiv) (run2 (run2 B (cI 8191) opMod) (cI 17) (opMul false)) (opAdd false)) (runVar 1) opMod [some (.ref l), some (.int n), a, b, some (.int q)] h2 = okE (.int ((y.fdiv 61 + y.fmod 8191 * 17).fmod n)) h2 := fun B y h2 hB => by
      simp only [run2, hB, be_okE, cI, d1, d2, d3, v1, add_in]
      exact mod_in hn
    exact key _ _ _ b3
  show ((runAsg (bx 3) (gNm 4) _ h).bind _) = _
  rw [st1]
  show ((runAsg _ _ _ h).bind _) = _
  rw [st3]
  show ((run2 _ _ _ _ _).be _ _) = _
  rw [st4]
  rfl
end
end
end WK
set_option Elab.async false
set_option linter.all false
set_option maxRecDepth 100000
namespace WK
noncomputable section
open PySem L2
def P2 : RunS := runIf (run2 (bx 2) (cI 0) (cOp cGt))
    (runSeq (runAsg (run2 (bx 2) (runVar 1) opMod) (gNm 3))
    (runSeq (runAsg (run2 (bx 2) (runVar 1) opFdivW) (gSubR (runVar 0) (cI 2)))
      (runRet (runVar 3)))) nxS
section
variable {h : MH} {l : Nat} {cs : List MV} {i z q n : Int} {a b c : Option MV}
theorem p2_no (e : h.get l = some (bagL cs i z q)) (hz : ¬ 0 < z) : P2 [some (.ref l), some (.int n), a, b, c] h = nxS [some (.ref l), some (.int n), a, b, c] h := by
  have t : run2 (bx 2) (cI 0) (cOp cGt) [some (.ref l), some (.int n), a, b, c] h = okE (.bl false) h := by
    show (bx 2 _ h).be _ _ = _
    rw [bx_2 e]
    show okE (.bl (decide (0 < z))) h = _
    rw [decide_eq_false hz]
  show (run2 _ _ _ _ h).be _ _ = _
  rw [t]; rfl
theorem p2_yes (e : h.get l = some (bagL cs i z q)) (hz : 0 < z) (hn : 0 < n) (hb : n.natAbs ≤ 10 ^ 30) : P2 [some (.ref l), some (.int n), a, b, c] h = .ret (.rt (.int (z.fmod n)) (h.put l (bagL cs i (z / n) q))) := by
  have t : run2 (bx 2) (cI 0) (cOp cGt) [some (.ref l), some (.int n), a, b, c] h = okE (.bl true) h := by
    show (bx 2 _ h).be _ _ = _
    rw [bx_2 e]
    show okE (.bl (decide (0 < z))) h = _
    rw [decide_eq_true hz]
  have st1 : runAsg (run2 (bx 2) (runVar 1) opMod) (gNm 3) [some (.ref l), some (.int n), a, b, c] h = nxS [some (.ref l), some (.int n), a, some (.int (z.fmod n)), c] h := by
    show ((bx 2 _ h).be _ _).be _ _ = _
    rw [bx_2 e]
    show (opMod (.int z) (.int n) h).be _ _ = _
    rw [mod_in (by omega)]; rfl
  have st2 : runAsg (run2 (bx 2) (runVar 1) opFdivW) (gSubR (runVar 0) (cI 2)) [some (.ref l), some (.int n), a, some (.int (z.fmod n)), c] h = nxS [some (.ref l), some (.int n), a, some (.int (z.fmod n)), c] (h.put l (bagL cs i (z / n) q)) := by
    show ((bx 2 _ h).be _ _).be _ _ = _
    rw [bx_2 e]
    show (opFdivW (.int z) (.int n) h).be _ _ = _
    have d : opFdivW (.int z) (.int n) h = okE (.int (z / n)) h := by
      show ifT _ _ = _
      rw [decide_eq_true hn, Nat.ble_eq.mpr hb]; rfl
    rw [d]
    show toS (gSubR _ _ _ _ h) = _
    rw [sb_2 e]; rfl
  show (run2 _ _ _ _ h).be _ _ = _
  rw [t]
  show ((runAsg _ _ _ h).bind _) = _
  rw [st1]
  show ((runAsg _ _ _ h).bind _) = _
  rw [st2]
  rfl
end
end
end WK
set_option Elab.async false
set_option linter.all false
set_option maxRecDepth 100000
namespace WK
noncomputable section
open PySem L2
theorem setL_setL (l : Nat) (o u : MO) : ∀ es, setL l o (setL l u es) = setL l o es
  | [] => rfl
  | (k, w) :: r => by
    unfold setL
    cases e : Nat.beq l k with
    | true => simp only [setL, e]
    | false => simp only [setL, e]; rw [setL_setL l o u r]
theorem put_put {h : MH} {l : Nat} {o u : MO} : (h.put l u).put l o = h.put l o := by
  unfold MH.put
  simp only [setL_setL]
abbrev c1 : RunE := runAnd (run2 (bx 2) (cI 0) (cOp cEq)) (run2 (bx 1) (runArgs (runCons (bx 0) runNil) kLen) (cOp cLt))
abbrev s1a : RunS := runAsg (run2 (bx 0) (bx 1) opIx) (gNm 2)
abbrev s1b : RunS := runAsg (run2 (bx 1) (cI 1) (opAdd false)) (gSubR (runVar 0) (cI 1))
abbrev s1c : RunS := runIf (run2 (runVar 2) ten18 (cOp cGe))
        (runAsg (run2 (runVar 2) ten18 opSub) (gSubR (runVar 0) (cI 2)))
        (runAsg (run2 (run2 (run2 (run2 (bx 3) (cI 48271) (opMul false)) (run2 (run2 (runVar 2) (cI 2147483563) opMod) (cI 69621) (opMul false)) (opAdd false)) (cI 7) (opAdd false)) (cI 2147483563) opMod) (gSubR (runVar 0) (cI 3)))
def P1 : RunS := runIf c1 (runSeq s1a (runSeq s1b s1c)) nxS
theorem rPull_parts : rPull = runSeq P1 (runSeq P2 P3) := rfl
section
variable {h : MH} {l : Nat} {cs : List Int} {i z q n : Int} {a b c : Option MV}
theorem c1_run (e : h.get l = some (bagL (cs.map .int) i z q)) : c1 [some (.ref l), some (.int n), a, b, c] h = okE (.bl (decide (z = 0) && decide (i < cs.length))) h := by
  have t1 : run2 (bx 2) (cI 0) (cOp cEq) [some (.ref l), some (.int n), a, b, c] h = okE (.bl (decide (z = 0))) h := by
    show (bx 2 _ h).be _ _ = _
    rw [bx_2 e]; rfl
  have t2 : run2 (bx 1) (runArgs (runCons (bx 0) runNil) kLen) (cOp cLt) [some (.ref l), some (.int n), a, b, c] h = okE (.bl (decide (i < cs.length))) h := by
    show (bx 1 _ h).be _ _ = _
    rw [bx_1 e]
    show (Tr.bl ((bx 0 _ h).be _ _) _ _).be _ _ = _
    rw [bx_0 e]
    show okE (.bl (decide (i < (List.length (cs.map MV.int) : Int)))) h = _
    rw [List.length_map]
  show (run2 _ _ _ _ h).be _ _ = _
  rw [t1]
  show br h (.bl (decide (z = 0))) _ _ = _
  by_cases hz : z = 0
  · rw [decide_eq_true hz]
    exact t2
  · rw [decide_eq_false hz]; rfl
end
end
end WK
set_option Elab.async false
set_option linter.all false
set_option maxRecDepth 100000
namespace WK
noncomputable section
open PySem L2
section
variable {h : MH} {l : Nat} {cs : List Int} {i z q n : Int} {a b c : Option MV}
theorem nthR_map {cs : List Int} {j : Nat} {x : Int} (e : cs[j]? = some x) : nthR (cs.map MV.int) j = some (.int x) := by
  induction cs generalizing j with
  | nil => cases e
  | cons y r ih =>
    cases j with
    | zero => cases e; rfl
    | succ j => exact ih e
theorem s1a_run (e : h.get l = some (bagL (cs.map .int) i z q)) (h0 : 0 ≤ i) (h1 : i < cs.length) : ∃ x, s1a [some (.ref l), some (.int n), a, b, c] h = nxS [some (.ref l), some (.int n), some (.int x), b, c] h := by
  obtain ⟨j, rfl⟩ : ∃ j : Nat, i = j := ⟨i.toNat, by omega⟩
  obtain ⟨x, hx⟩ : ∃ x, cs[j]? = some x := ⟨cs[j]'(by omega), List.getElem?_eq_getElem _⟩
  refine ⟨x, ?_⟩
  have t : opIx (.lst (cs.map .int)) (.int j) h = okE (.int x) h := by
    have m : atM (cs.map MV.int) (j : Int) = some (.int x) := nthR_map hx
    simp only [opIx, asQ, asL, m]
  have u : run2 (bx 0) (bx 1) opIx [some (.ref l), some (.int n), a, b, c] h = okE (.int x) h := by
    show (bx 0 _ h).be _ _ = _
    rw [bx_0 e]
    show (bx 1 _ h).be _ _ = _
    rw [bx_1 e]
    exact t
  show (run2 _ _ _ _ h).be _ _ = _
  rw [u]; rfl
end
end
end WK
set_option Elab.async false
set_option linter.all false
set_option maxRecDepth 100000
namespace WK
noncomputable section
open PySem L2
section
variable {h : MH} {l : Nat} {cs : List MV} {i z q n : Int} {a b c : Option MV}
theorem s1b_run (e : h.get l = some (bagL cs i z q)) : s1b [some (.ref l), some (.int n), a, b, c] h = nxS [some (.ref l), some (.int n), a, b, c] (h.put l (bagL cs (i + 1) z q)) := by
  have u : run2 (bx 1) (cI 1) (opAdd false) [some (.ref l), some (.int n), a, b, c] h = okE (.int (i + 1)) h := by
    show (bx 1 _ h).be _ _ = _
    rw [bx_1 e]; rfl
  show (run2 _ _ _ _ h).be _ _ = _
  rw [u]
  show toS (gSubR _ _ _ _ h) = _
  rw [sb_1 e]; rfl
end
end
end WK
set_option Elab.async false
set_option linter.all false
set_option maxRecDepth 100000
namespace WK
noncomputable section
open PySem L2
section
variable {h : MH} {l : Nat} {cs : List MV} {i q n x : Int} {b c : Option MV}
theorem ten_run (m : MS) (h : MH) : ten18 m h = okE (.int 1000000000000000000) h := by
  show opPow (.int 10) (.int 18) h = _
  rfl
theorem s1c_run (e : h.get l = some (bagL cs i 0 q)) (q0 : 0 ≤ q) (q1 : q < 2147483563) : ∃ z' q', 0 ≤ z' ∧ 0 ≤ q' ∧ q' < 2147483563 ∧ s1c [some (.ref l), some (.int n), some (.int x), b, c] h = nxS [some (.ref l), some (.int n), some (.int x), b, c] (h.put l (bagL cs i z' q')) := by
  have t : run2 (runVar 2) ten18 (cOp cGe) [some (.ref l), some (.int n), some (.int x), b, c] h = okE (.bl (decide (1000000000000000000 ≤ x))) h := by
    have v2 : runVar 2 [some (.ref l), some (.int n), some (.int x), b, c] h = okE (.int x) h := rfl
    show (runVar 2 _ h).be _ _ = _
    rw [v2, be_okE, ten_run]; rfl
  by_cases hx : (1000000000000000000 : Int) ≤ x
  · refine ⟨x - 1000000000000000000, q, by omega, q0, q1, ?_⟩
    show (run2 _ _ _ _ h).be _ _ = _
    rw [t, decide_eq_true hx]
    have u : run2 (runVar 2) ten18 opSub [some (.ref l), some (.int n), some (.int x), b, c] h = okE (.int (x - 1000000000000000000)) h := by
      have v2 : runVar 2 [some (.ref l), some (.int n), some (.int x), b, c] h = okE (.int x) h := rfl
      show (runVar 2 _ h).be _ _ = _
      rw [v2, be_okE, ten_run]; rfl
    rw [be_okE]
    show (runAsg (run2 (runVar 2) ten18 opSub) (gSubR (runVar 0) (cI 2)) [some (.ref l), some (.int n), some (.int x), b, c] h) = _
    unfold runAsg
    rw [u]
    show toS (gSubR _ _ _ _ h) = _
    rw [sb_2 e]; rfl
  · refine ⟨0, (q * 48271 + x.fmod 2147483563 * 69621 + 7).fmod 2147483563, by omega, Int.fmod_nonneg_of_pos _ (by decide), Int.fmod_lt_of_pos _ (by decide), ?_⟩
    have key : ∀ (B : RunE) (h2 : MH), B [some (.ref l), some (.int n), some (.int x), b, c] h2 = okE (.int q) h2 → run2 (run2 (run2 (run2 B (cI 48271) (opMul false)) (run2 (run2 (runVar 2) (cI 2147483563) opMod) (cI 69621) (opMul false)) (opAdd false)) (cI 7) (opAdd false)) (cI 2147483563) opMod [some (.ref l), some (.int n), some (.int x), b, c] h2 = okE (.int ((q * 48271 + x.fmod 2147483563 * 69621 + 7).fmod 2147483563)) h2 := fun B h2 hB => by
      have v2 : ∀ h', runVar 2 [some (.ref l), some (.int n), some (.int x), b, c] h' = okE (.int x) h' := fun _ => rfl
      have m1 : ∀ (y : Int) h', opMul false (.int y) (.int 48271) h' = okE (.int (y * 48271)) h' := fun y h' => mul_in (by rw [show smI 48271 = true from by decide]; simp)
      have m2 : ∀ (y : Int) h', opMul false (.int y) (.int 69621) h' = okE (.int (y * 69621)) h' := fun y h' => mul_in (by rw [show smI 69621 = true from by decide]; simp)
      have d1 : ∀ (y : Int) h', opMod (.int y) (.int 2147483563) h' = okE (.int (y.fmod 2147483563)) h' := fun y h' => rfl
      simp only [run2, hB, be_okE, cI, d1, m1, m2, v2, add_in]
    show (run2 _ _ _ _ h).be _ _ = _
    rw [t, decide_eq_false hx, be_okE]
    show (runAsg _ _ _ h) = _
    unfold runAsg
    rw [key _ h (bx_3 e)]
    show toS (gSubR _ _ _ _ h) = _
    rw [sb_3 e]; rfl
end
end
end WK
set_option Elab.async false
set_option linter.all false
set_option maxRecDepth 100000
namespace WK
noncomputable section
open PySem L2
theorem setL_self (l : Nat) (o : MO) : ∀ es, getL l es = some o → setL l o es = es
  | [], e => by cases e
  | (k, w) :: r, e => by
    unfold getL at e
    unfold setL
    cases z : Nat.beq l k with
    | true => rw [z] at e; cases e; rfl
    | false => rw [z] at e; dsimp only at e ⊢; rw [setL_self l o r e]
theorem put_self {h : MH} {l : Nat} {o : MO} (e : h.get l = some o) : h.put l o = h := by
  unfold MH.put
  rw [setL_self l o _ e]
section
variable {h : MH} {l : Nat} {cs : List Int} {i z q n : Int} {a b c : Option MV}
theorem p1_run (e : h.get l = some (bagL (cs.map .int) i z q)) (i0 : 0 ≤ i) (z0 : 0 ≤ z) (q0 : 0 ≤ q) (q1 : q < 2147483563) : ∃ i' z' q' a', 0 ≤ i' ∧ 0 ≤ z' ∧ 0 ≤ q' ∧ q' < 2147483563 ∧ P1 [some (.ref l), some (.int n), a, b, c] h = nxS [some (.ref l), some (.int n), a', b, c] (h.put l (bagL (cs.map .int) i' z' q')) := by
  have st : P1 [some (.ref l), some (.int n), a, b, c] h = br h (.bl (decide (z = 0) && decide (i < cs.length))) (runSeq s1a (runSeq s1b s1c) [some (.ref l), some (.int n), a, b, c] h) (nxS [some (.ref l), some (.int n), a, b, c] h) := by
    show (c1 _ h).be _ _ = _
    rw [c1_run e]; rfl
  rw [st]
  by_cases hc : z = 0 ∧ i < cs.length
  · obtain ⟨hz, hi⟩ := hc
    subst hz
    obtain ⟨x, hx⟩ := s1a_run (n := n) (a := a) (b := b) (c := c) e i0 hi
    have hb := s1b_run (n := n) (a := some (.int x)) (b := b) (c := c) e
    obtain ⟨z', q', hz', hq', hq2, hcx⟩ := s1c_run (n := n) (x := x) (b := b) (c := c) (put_at e (bagL (cs.map .int) (i + 1) 0 q)) q0 q1
    refine ⟨i + 1, z', q', some (.int x), by omega, hz', hq', hq2, ?_⟩
    rw [decide_eq_true rfl, decide_eq_true hi]
    show ((s1a _ h).bind _) = _
    rw [hx]
    show ((s1b _ h).bind _) = _
    rw [hb]
    show s1c _ _ = _
    rw [hcx, put_put]
  · refine ⟨i, z, q, a, i0, z0, q0, q1, ?_⟩
    have hd : (decide (z = 0) && decide (i < cs.length)) = false := by
      rw [Bool.and_eq_false_iff]
      by_cases hz : z = 0
      · exact .inr (decide_eq_false fun hi => hc ⟨hz, hi⟩)
      · exact .inl (decide_eq_false hz)
    rw [hd, put_self e]; rfl
theorem pull_run (e : h.get l = some (bagL (cs.map .int) i z q)) (i0 : 0 ≤ i) (z0 : 0 ≤ z) (q0 : 0 ≤ q) (q1 : q < 2147483563) (n0 : 0 < n) (n1 : n.natAbs ≤ 10 ^ 30) : ∃ r i' z' q', 0 ≤ r ∧ r < n ∧ 0 ≤ i' ∧ 0 ≤ z' ∧ 0 ≤ q' ∧ q' < 2147483563 ∧ rPull [some (.ref l), some (.int n), a, b, c] h = .ret (.rt (.int r) (h.put l (bagL (cs.map .int) i' z' q'))) := by
  obtain ⟨i1, z1, q2, a1, hi, hz, hq, hq2, h1⟩ := p1_run (n := n) (a := a) (b := b) (c := c) e i0 z0 q0 q1
  have e1 := put_at e (bagL (cs.map .int) i1 z1 q2)
  rw [rPull_parts]
  by_cases hp : 0 < z1
  · refine ⟨z1.fmod n, i1, z1 / n, q2, Int.fmod_nonneg_of_pos _ n0, Int.fmod_lt_of_pos _ n0, hi, Int.ediv_nonneg hz (by omega), hq, hq2, ?_⟩
    show ((P1 _ h).bind _) = _
    rw [h1]
    show ((P2 _ _).bind _) = _
    rw [p2_yes e1 hp n0 n1, put_put]; rfl
  · refine ⟨(((q2 * q2 * 3 + q2 * 16807 + 1013904223).fmod 2147483563).fdiv 61 + ((q2 * q2 * 3 + q2 * 16807 + 1013904223).fmod 2147483563).fmod 8191 * 17).fmod n, i1, z1, (q2 * q2 * 3 + q2 * 16807 + 1013904223).fmod 2147483563, Int.fmod_nonneg_of_pos _ n0, Int.fmod_lt_of_pos _ n0, hi, hz, Int.fmod_nonneg_of_pos _ (by decide), Int.fmod_lt_of_pos _ (by decide), ?_⟩
    show ((P1 _ h).bind _) = _
    rw [h1]
    show ((P2 _ _).bind _) = _
    rw [p2_no e1 hp]
    show P3 _ _ = _
    rw [p3_run e1 hq hq2 (by omega), put_put]
end
end
end WK
set_option Elab.async false
set_option linter.all false
set_option maxRecDepth 100000
namespace WK
noncomputable section
open PySem L2
/-! ### a fresh atom -/
def rhoV (ρ : Rho) (l : Nat) (v : MV) : Rho := ⟨ρ.at_, ρ.amb, fun k => if k = l then some v else ρ.sv k⟩
def bump (h : MH) : MH := ⟨h.nxt + 1, h.es⟩
theorem rhoV_at {ρ : Rho} {l : Nat} {v : MV} : (rhoV ρ l v).sv l = some v := if_pos rfl
section
variable {T : Tb} {K : PySem.W.Frag} {ρ : Rho} {h : MH} {H : Hp} {v : MV}
theorem own_V {a : Addr} : Own (rhoV ρ h.nxt v) (bump h) a ↔ Own ρ h a := Iff.rfl
theorem Le.atom (s : SimH T K ρ h H) : Le ρ h H (rhoV ρ h.nxt v) (bump h) H :=
  ⟨fun _ _ e => e, fun l u e => by
    have n : l ≠ h.nxt := Nat.ne_of_lt (s.ltv l u e)
    show (if l = h.nxt then some v else ρ.sv l) = some u
    rw [if_neg n]; exact e, Nat.le_succ _, fun _ m => m, fun _ m => .inl m, fun _ m => .inl m, fun _ _ e _ _ => e, fun _ o e => ⟨o, e⟩⟩
theorem SimH.atom (s : SimH T K ρ h H) : SimH T K (rhoV ρ h.nxt v) (bump h) H :=
  ⟨fun l a e => Nat.lt_succ_of_lt (s.lt l a e), fun l u e => by
    show l < h.nxt + 1
    have e : (if l = h.nxt then some v else ρ.sv l) = some u := e
    by_cases z : l = h.nxt
    · omega
    · rw [if_neg z] at e
      have := s.ltv l u e
      omega, s.tb.mv (fun _ _ e _ => e) (fun _ _ e => e) (fun _ _ _ m => m), s.inj, fun l o e => by
    obtain ⟨a, r, q⟩ := s.ob l o e
    exact ⟨a, r, q.le (Le.atom s) fun _ _ z => z⟩, s.am, s.dis⟩
/-! ### the bag hidden, the bag open -/
theorem denL_ints {M : Addr → Prop} : ∀ {ns : List Int} {vs : List V}, DenL T K ρ M H (ns.map MV.int) vs → vs = ns.map V.int
  | [], _, d => by cases d; rfl
  | i :: r, _, d => by
    have d : DenL T K ρ M H (.int i :: r.map MV.int) _ := d
    cases d with
    | cons d1 d2 => cases d1; rw [denL_ints d2]; rfl
theorem ints_denL {M : Addr → Prop} : ∀ ns : List Int, DenL T K ρ M H (ns.map MV.int) (ns.map V.int)
  | [] => .nil
  | i :: r => .cons (.int i) (ints_denL r)
theorem own_same {l : Nat} {o u : MO} (e : h.get l = some u) {a : Addr} : Mu ρ (h.put l o) a ↔ Mu ρ h a := or_congr Iff.rfl (own_put e)
theorem upd_self {H : Hp} {a : Addr} {o : HO} (e : H a = some o) : upd H a o = H := by
  funext b
  by_cases z : b = a
  · rw [z, upd_same, e]
  · rw [upd_ne z]
/-- the heap stays, what is told of the label's object changes -/
theorem SimH.view (s : SimH T K ρ h H) {l : Nat} {a : Addr} {o u : MO} (e : h.get l = some u) (r : ρ.at_ l = some a) (q : ObR T K ρ (Mu ρ (h.put l o)) H a o) : SimH T K ρ (h.put l o) H := by
  obtain ⟨b, hb⟩ := q.at
  have z := s.put (v := b) e r (by rw [upd_self hb]; exact q)
  rw [upd_self hb] at z; exact z
theorem Le.view {l : Nat} {o u : MO} (e : h.get l = some u) : Le ρ h H ρ (h.put l o) H :=
  ⟨fun _ _ e => e, fun _ _ e => e, Nat.le_refl _, fun _ m => m, fun _ m => .inl m, fun _ m => .inl ((own_put e).mp m), fun _ _ e _ _ => e, fun _ o e => ⟨o, e⟩⟩
theorem Le.view' {l : Nat} {o u : MO} (e : h.get l = some u) : Le ρ (h.put l o) H ρ h H :=
  ⟨fun _ _ e => e, fun _ _ e => e, Nat.le_refl _, fun _ m => m, fun _ m => .inl m, fun _ m => .inl ((own_put e).mpr m), fun _ _ e _ _ => e, fun _ o e => ⟨o, e⟩⟩
theorem ObR.open (s : SimH T K ρ h H) {l : Nat} (e : h.get l = some .bag) : ∃ (ns : List Int) (i z q : Int), 0 ≤ i ∧ 0 ≤ z ∧ 0 ≤ q ∧ q < 2147483563 ∧ SimH T K ρ (h.put l (bagL (ns.map .int) i z q)) H := by
  obtain ⟨a, r, b, i, z, q, ns, e1, n, e2, i0, z0, q0, q1⟩ := s.ob l _ e
  refine ⟨ns, i, z, q, i0, z0, q0, q1, s.view e r ⟨_, e1, .cons (.lst (fun m => n ((own_same e).mp m)) e2 (ints_denL ns)) (.cons (.int i) (.cons (.int z) (.cons (.int q) .nil)))⟩⟩
theorem ObR.close (s : SimH T K ρ h H) {l : Nat} {ns : List Int} {i z q : Int} (e : h.get l = some (bagL (ns.map .int) i z q)) (i0 : 0 ≤ i) (z0 : 0 ≤ z) (q0 : 0 ≤ q) (q1 : q < 2147483563) : SimH T K ρ (h.put l .bag) H := by
  obtain ⟨a, r, vs, e1, d⟩ := s.ob l _ e
  refine s.view e r ?_
  cases d with
  | cons d1 d =>
    cases d with
    | cons d2 d =>
      cases d with
      | cons d3 d =>
        cases d with
        | cons d4 d =>
          cases d
          cases d1 with
          | lst n e2 d1 =>
            cases d2; cases d3; cases d4
            rw [denL_ints d1] at e2
            exact ⟨_, i, z, q, ns, e1, fun m => n ((own_same e).mp m), e2, i0, z0, q0, q1⟩
end
/-- a draw: a small one is asked for, a big one is an atom -/
def drawT (n : Int) (h : MH) : Tr ER := match decide (n ≤ 1000) with
  | true => .ask n fun r => okE (.int r) h
  | false => okE (.ati h.nxt) (bump h)
def runPull (xs : List MV) (h : MH) : Tr ER := match xs with
  | [.ref l, .int n] => match h.get l with
    | some .bag => ifT (decide (0 < n) && Nat.ble n.natAbs (10 ^ 30)) (drawT n h)
    | _ => .bad
  | _ => .bad
section
variable {T : Tb} {K : PySem.W.Frag} {ρ : Rho} {h : MH} {H : Hp} {Q : VK} {E : XK}
theorem drawT_ok {n r : Int} (s : SimH T K ρ h H) (r0 : 0 ≤ r) (r1 : r < n) (w : (drawT n h).wp (postF T K ρ h H Q E)) {ρ' : Rho} {H' : Hp} (l : Le ρ h H ρ' h H') (s' : SimH T K ρ' h H') : Q (.int r) H' := by
  unfold drawT at w
  split at w
  · exact w r r0 r1 ρ' H' _ l s' (.int r)
  · exact w (rhoV ρ' h.nxt (.int r)) H' _ (l.trans (Le.atom s')) s'.atom (.ati rhoV_at)
theorem pull_ok {P : Program} {w : World} {mg : Str → Option Value} {base : Heap} {k : Nat} {f : Addr} {fd : FuncData} {ps : List Str} (F : FnOk P w K mg base (L2.CX P w) k f fd ps (spF T K 2 (runDef 3 rPull))) : FnOk P w K mg base (L2.CX P w) k f fd ps (spF T K 2 runPull) := by
  refine F.imp fun vs H Q E h => ?_
  obtain ⟨hl, ρ, xs, h, s, d, w⟩ := h
  refine ⟨hl, ?_⟩
  unfold runPull at w
  split at w
  · rename_i l n
    split at w
    · rename_i e
      obtain ⟨c, w⟩ := ifT_wp w
      obtain ⟨c1, c2⟩ := Bool.and_eq_true_iff.mp c
      have n0 : (0 : Int) < n := of_decide_eq_true c1
      have n1 : n.natAbs ≤ 10 ^ 30 := Nat.le_of_ble_eq_true c2
      obtain ⟨ns, i, z, q, i0, z0, q0, q1, s2⟩ := ObR.open s e
      have e2 : (h.put l (bagL (ns.map .int) i z q)).get l = some (bagL (ns.map .int) i z q) := by rw [put_get e, if_pos rfl]
      obtain ⟨r, i', z', q', r0, r1, i0', z0', q0', q1', hr⟩ := pull_run (n := n) (a := none) (b := none) (c := none) e2 i0 z0 q0 q1 n0 n1
      refine ⟨ρ, _, _, s2, d.le (Le.view e), ?_⟩
      show ((rPull _ _).bind _).wp _
      have hr' : rPull (appS [.ref l, .int n] (slots 3)) (h.put l (bagL (ns.map .int) i z q)) = _ := hr
      rw [hr']
      show postF T K ρ _ H Q E (.ok (.int r) _)
      intro ρ' H' v l' s' dv
      cases dv
      rw [put_put] at l' s'
      have e3 : (h.put l (bagL (ns.map .int) i' z' q')).get l = some (bagL (ns.map .int) i' z' q') := by rw [put_get e, if_pos rfl]
      have s3 := ObR.close s' e3 i0' z0' q0' q1'
      rw [put_put, put_self e] at s3
      exact drawT_ok s r0 r1 w ((Le.view e).trans (l'.trans (Le.view' e))) s3
    · exact w.elim
  · exact w.elim
end
end
end WK
set_option Elab.async false
set_option linter.all false
set_option maxRecDepth 100000
/-! new instances that may change -/
namespace WK
noncomputable section
open PySem L2
section
variable {T : Tb} {X : Cx} {E : XW}
def runNewM (c : Nat) (init : List MV → MH → Tr ER) (xs : List MV) (h : MH) : Tr ER := (init (.ref h.nxt :: xs) (h.new (.ins c []))).be (fun v h1 => match v with
  | .non => okE (.ref h.nxt) h1
  | _ => .bad) exE
theorem newM_ok {K : PySem.W.Frag} {n c : Nat} {init : List MV → MH → Tr ER} {ρ : Rho} {m : MS} {h : MH} {H : Hp} {σ : St} {xs : List MV} {vs : List V} {Q : VK} (s : SimH T K ρ h H) (s2 : SimS T K ρ (Mu ρ h) H m σ) (d : DenL T K ρ (Mu ρ h) H xs vs) (hn : vs.length + 1 = n)
    (w : (runNewM c init xs h).wp (postE T K E m ρ h H Q)) (x dx : Addr) (nx : H x = none) (nd : H dx = none) (ne : dx ≠ x) :
    spF T K n init (.ref x :: vs) (upd (upd H dx (.own x)) x (.ins (cAd T K c) dx [])) (fun v H2 => v = .non ∧ Q (.ref x) H2) (fun cls d H' => wx T K E cls d σ H') := by
  have n1 : upd H dx (HO.own x) x = none := by rw [upd_ne (Ne.symm ne)]; exact nx
  have s1 := s.neu (o := .own x) nd
  have l1 : Le ρ h H ρ h (upd H dx (.own x)) := Le.neu nd
  have l2 := s1.le_lab (o := .ins (cAd T K c) dx []) (u := .ins c []) n1
  have s0 := s1.lab (o := .ins (cAd T K c) dx []) (u := .ins c []) n1 ⟨dx, [], upd_same, .nil⟩
  have l0 := l1.trans l2
  refine ⟨hn, rhoN ρ h.nxt x, .ref h.nxt :: xs, h.new (.ins c []), s0, .cons (.ref rhoN_at) (d.le l0), Tr.wp_mono (Tr.wp_be w) fun r q => ?_⟩
  cases r with
  | ex y h1 => exact fun ρ' H' cls da l s' xd => ⟨ρ', m, h1, y, s', s2.le (l0.trans l), xd, q ρ' H' (l0.trans l) s'⟩
  | ok v h1 =>
    intro ρ' H' u l s' dv
    dsimp only at q
    split at q
    · cases dv
      exact ⟨rfl, q ρ' H' _ (l0.trans l) s' (.ref (l.ext _ _ rhoN_at))⟩
    · exact q.elim
theorem s_newM {d c : Nat} {f : Addr} {init : List MV → MH → Tr ER} {x : Str} {e : Expr} {es : List Expr} {p pos : Pos} {g : RunL} (tk : Takes X (wx T X.K E)) (hr : Room (d + 1) X.A) (M : Mk X.K (cAd T X.K c) f) (F : FI T X d f ((e :: es).length + 1) init) (hg : Gl X x) (hm : X.mg x = some (.ref (cAd T X.K c))) (ha : SA T X E (e :: es) g) (hx : (x == ("__debug__" : Str)) = false) :
    SE T X E (.Call (.Name x p) (e :: es) [] pos) (runArgs g (runNewM c init)) := by
  obtain ⟨fd, ps, hl, F1, hb⟩ := F.ex
  have hns : notStar e = true ∧ es.all notStar = true := Bool.and_eq_true_iff.mp ha.ns
  refine .ofV ⟨fun pins sh σ H Q I hw => ?_⟩ fun _ => rfl
  refine wpAny_Call_Name_kw (ld_glob I hg hm ?_ hx)
  refine PySem.W.callWith_K (h₀ := X.base) I.ok.mod.kin M.kp (thn (ha.a.run pos pins sh σ H (fun vs H1 => ∀ x dx, H1 x = none → H1 dx = none → dx ≠ x → spF T X.K ((e :: es).length + 1) init (.ref x :: vs) (upd (upd H1 dx (.own x)) x (.ins (cAd T X.K c) dx [])) (fun v H2 => v = .non ∧ Q (.ref x) H2) (fun cls d H' => wx T X.K E cls d σ H')) I ?_) fun us s1 ⟨vs, H1, I1, r, q⟩ => ⟨I1.kIn, run_makeS (sp := spF T X.K ((e :: es).length + 1) init) (W := fun cls d H' => wx T X.K E cls d σ H') M F1 hr hb (passes_wx tk σ) I1 r q⟩) (star_cons hns.1) (by rw [backTo_any]; exact star_all hns.2)
  obtain ⟨ρ, m, h, s1, s2, w⟩ := hw
  refine ⟨ρ, m, h, s1, s2, Tr.wp_mono (ha.n m h _ (Tr.wp_bl w)) fun r ⟨q, hn⟩ => ?_⟩
  cases r with
  | ex y h1 => exact q
  | ok ys h1 => exact fun ρ1 H1 vs l s dd => newM_ok s (s2.le l) dd (by rw [← dd.length, hn ys h1 rfl]) (Tr.wp_mono q (postE.le l))
theorem s_newM0 {d c : Nat} {f : Addr} {init : List MV → MH → Tr ER} {x : Str} {p pos : Pos} (tk : Takes X (wx T X.K E)) (hr : Room (d + 1) X.A) (M : Mk X.K (cAd T X.K c) f) (F : FI T X d f 1 init) (hg : Gl X x) (hm : X.mg x = some (.ref (cAd T X.K c))) (hx : (x == ("__debug__" : Str)) = false) :
    SE T X E (.Call (.Name x p) [] [] pos) (fun _ h => runNewM c init [] h) := by
  obtain ⟨fd, ps, hl, F1, hb⟩ := F.ex
  refine .ofV ⟨fun pins sh σ H Q I hw => ?_⟩ fun _ => rfl
  refine wpAny_Call_Name_kw (ld_glob I hg hm ?_ hx)
  obtain ⟨ρ, m, h, s1, s2, w⟩ := hw
  exact PySem.W.callWith_K0 I.kIn M.kp (run_makeS (us := []) (sp := spF T X.K 1 init) (W := fun cls d H' => wx T X.K E cls d σ H') M F1 hr hb (passes_wx tk σ) I .nil fun x dx nx nd ne => newM_ok s1 s2 .nil rfl w x dx nx nd ne)
end
end
end WK
set_option Elab.async false
set_option linter.all false
set_option maxRecDepth 100000
/-! a, b, *c = xs; match of texts -/
namespace WK
noncomputable section
open PySem PySem.Spec PyProof.Rows L2
section
variable {X : Cx}
theorem star_items {pins : List (Addr × Obj)} {σ : L2.St} {H : Hp} {s : Shared} {a : Addr} {xs : List V} {i : Nat} {Q : List Value → Shared → Prop} (I : Inv X pins σ H s) (hc : X.calm = true) (hq : SqL X.K H a xs ∨ SqT X.K H a xs) (hi : i ≤ xs.length)
    (h : ∀ (D : Addr) (us : List Value) (s' : Shared), H D = none → Inv X pins σ (upd H D (.lst (xs.drop i))) s' → Vals (xs.take i ++ [.ref D]) us → Q us s') : wpAny (model X.prog X.w) X.A (unpackItems (.ref a) (i + 1) (some i)) Q X.xe s := by
  have hh := I.ok.hd hc
  -- what follows from the iterator moved by i
  have rest : ∀ {its : List Value} {h₁ : Heap} {tk : Nat}, Vals xs its → xs.length ≤ sizeLine → (∀ b o, b ≠ s.heap.objs.size → s.heap.get? b = some o → h₁.get? b = some o) →
      wpAny (model X.prog X.w) X.A (newList ((its.toArray.toList.drop i).take ((its.toArray.toList.drop i).length - (i + 1 - 1 - i))) >>= fun d => pure (its.toArray.toList.take i ++ [d] ++ (its.toArray.toList.drop i).drop ((its.toArray.toList.drop i).length - (i + 1 - 1 - i)))) Q X.xe { s with heap := h₁, toks := tk } := fun {its h₁ tk} rv hz k => by
    have z0 : i + 1 - 1 - i = 0 := by omega
    rw [z0, Nat.sub_zero, List.take_length, List.drop_length, List.toList_toArray]
    simp only [List.append_nil]
    have I1 : Inv X pins σ H { s with heap := h₁, toks := tk } := I.kept fun b o e => k b o (Nat.ne_of_lt (Heap.lt_size e)) e
    have rd := rv.drop i
    have hl : (its.drop i).length ≤ sizeLine := by
      rw [List.length_drop, ← rv.length]; omega
    refine wpAny_bind (wpAny_newList (wpAny_pure ?_) hl)
    have nf : H h₁.objs.size = none := I1.hok.fresh (Nat.le_refl _)
    have I2 : Inv X pins σ (upd H h₁.objs.size (.lst (xs.drop i))) { s with heap := h₁.push { cls := .type "list", data := .seq (its.drop i).toArray }, toks := tk } :=
      I1.laid (fun b u e => Heap.get?_push_of_some _ e) (Nat.le_refl _) ⟨by rw [List.length_drop]; omega, _, 0, rd, Heap.get?_push_size _ rfl⟩
    exact h _ _ _ nf I2 ((rv.take i).append (.cons rfl .nil))
  unfold unpackItems
  rcases hq with hq | hq
  · obtain ⟨its, rv, hl, hz⟩ := I.list hq
    have hl : s.heap.IsList a its.toArray := hl.isList
    have lz : its.length = xs.length := rv.length.symm
    have hlt : a ≠ s.heap.objs.size := by obtain ⟨o, ho, _⟩ := hl; exact Nat.ne_of_lt (Heap.lt_size ho)
    refine wpAny_bind ?_
    unfold notIterableAtAll
    refine wpAny_bind (wpAny_specialOf hl.typeIs slot_list_iter.lookup (wpAny_pure ?_))
    simp only [Bool.false_eq_true, if_false]
    refine wpAny_bind (wpAny_holding (wpAny_pyIter_list hl ?_))
    refine wpAny_bind (wpAny_holding (PySem.W.kun_draw hlt i 0 _ _ ⟨_, Heap.get?_push_size _ rfl, rfl, rfl⟩ (hl.push _) (by rw [List.size_toArray]; omega) fun h₁ hit₁ hs₁ => ?_))
    have hl₁ : h₁.IsList a its.toArray := (hl.push _).extBut hs₁.extBut hlt
    rw [Nat.zero_add] at hit₁
    have hit2 := hit₁
    obtain ⟨oi, hoi, _⟩ := hit2
    have hl2 := hl₁
    obtain ⟨ol, hol, _⟩ := hl2
    rw [List.drop_zero, if_neg (by rw [List.length_take, List.toList_toArray]; omega)]
    exact wpAny_bind (wpAny_holding (PySem.W.kun_collect (s := { s with heap := h₁ }) (T := "list_iterator") (.inr (.inr (.inl rfl))) (Walks.list (A := X.A.in1) hh s.heap.objs.size a hlt its.toArray) (fun j u st => st.1.typeIs) (k := i) (by rw [List.size_toArray]; omega) ⟨hit₁, hl₁⟩ (Heap.lt_size hoi) (Heap.lt_size hol)
      (fun h₂ tk hk => by
        show wpAny _ _ (if (its.toArray.toList.drop i).length < i + 1 - 1 - i then _ else _) _ _ _
        rw [if_neg (by omega)]
        exact rest rv hz fun b o hb e => hk b o hb (hs₁.extBut b o hb (Heap.get?_push_of_some _ e))) (by rw [List.size_toArray]; omega)))
  · obtain ⟨its, rv, hl, hz⟩ := I.tuple hq
    have lz : its.length = xs.length := rv.length.symm
    have hlt : a ≠ s.heap.objs.size := by obtain ⟨o, ho, _⟩ := hl; exact Nat.ne_of_lt (Heap.lt_size ho)
    refine wpAny_bind ?_
    unfold notIterableAtAll
    refine wpAny_bind (wpAny_specialOf hl.typeIs slot_tuple_iter.lookup (wpAny_pure ?_))
    simp only [Bool.false_eq_true, if_false]
    refine wpAny_bind (wpAny_holding (iter_tuple hl ?_))
    refine wpAny_bind (wpAny_holding (draw_tuple hlt i 0 _ _ ⟨_, Heap.get?_push_size _ rfl, rfl, rfl⟩ (hl.push _) (by rw [List.size_toArray]; omega) fun h₁ hit₁ hs₁ => ?_))
    have hl₁ : IsTup h₁ a its.toArray := (hl.push _).extBut hs₁.extBut hlt
    rw [Nat.zero_add] at hit₁
    have hit2 := hit₁
    obtain ⟨oi, hoi, _⟩ := hit2
    have hl2 := hl₁
    obtain ⟨ol, hol, _⟩ := hl2
    rw [List.drop_zero, if_neg (by rw [List.length_take, List.toList_toArray]; omega)]
    exact wpAny_bind (wpAny_holding (PySem.W.kun_collect (s := { s with heap := h₁ }) (T := "tuple_iterator") (.inr (.inr (.inr rfl))) (Walks.tuple (A := X.A.in1) hh s.heap.objs.size a hlt its.toArray) (fun j u st => st.1.typeIs) (k := i) (by rw [List.size_toArray]; omega) ⟨hit₁, hl₁⟩ (Heap.lt_size hoi) (Heap.lt_size hol)
      (fun h₂ tk hk => by
        show wpAny _ _ (if (its.toArray.toList.drop i).length < i + 1 - 1 - i then _ else _) _ _ _
        rw [if_neg (by omega)]
        exact rest rv hz fun b o hb e => hk b o hb (hs₁.extBut b o hb (Heap.get?_push_of_some _ e))) (by rw [List.size_toArray]; omega)))
/-- the reading -/
def gStar (K : PySem.W.Frag) (i : Nat) (t : TGs) : TG := fun v σ H Q => ∃ a xs, v = .ref a ∧ (SqL K H a xs ∨ SqT K H a xs) ∧ i ≤ xs.length ∧ ∀ p, H p = none → t (xs.take i ++ [.ref p]) σ (upd H p (.lst (xs.drop i))) Q
theorem pg_star {es : List Expr} {k i : Nat} {pos : Pos} {t : TGs} (hc : X.calm = true) (h : PGs X es t) (hn : (assignEach es X.env).length = i + 1) (hst : (assignEach es X.env).findIdx? (·.1) = some i) : PG X (.Tuple es k pos) (gStar X.K i t) := by
  refine ⟨fun pins s σ H v u Q I r ⟨a, xs, e1, hq, hl, hw⟩ => ?_⟩
  subst e1
  obtain rfl : u = Value.ref a := r
  rw [assign_Tuple]
  refine wpAny_bind (wpAny_standAt ?_)
  unfold unpack
  rw [hn, hst]
  exact wpAny_bind (wpAny_holding (star_items I hc hq hl fun D us s' nD I' rv => h.run pins s' σ _ _ us Q I' rv (hw D nD)))
theorem pgs_last {e : Expr} {p : Pos} {t : TG} (h1 : PG X e t) : PGs X [.Starred e p] (gCons t gNil) := by
  refine ⟨fun pins s σ H vs us Q I r h => ?_⟩
  obtain ⟨v, vr, e1, h⟩ := h
  subst e1
  cases r with
  | cons r1 r2 =>
    show wpAny _ _ (assignInOrder [assign e X.env] _) _ _ _
    exact PyProof.Rows.assignInOrder_cons (thn (h1.run pins s σ H v _ _ I r1 h) fun _ s1 ⟨σ1, H1, I1, q1⟩ => (pgs_nil (X := X)).run pins s1 σ1 H1 vr _ Q I1 r2 q1)
end
section
variable {T : Tb} {X : Cx} {E : XW}
def gSt (i : Nat) (g : RunGs) : RunG := fun x m h => match asQ h x with
  | some xs => ifT (leB i xs.length) (g (xs.take i ++ [.lst (xs.drop i)]) m h)
  | none => .bad
theorem g_star {es : List Expr} {k i : Nat} {pos : Pos} {g : RunGs} (hc : X.calm = true) (h : SGs T X E es g) (hn : (assignEach es X.env).length = i + 1) (hst : (assignEach es X.env).findIdx? (·.1) = some i) : SG T X E (.Tuple es k pos) (gSt i g) :=
  pgI (pg_star hc h hn hst) fun v σ H Q ⟨ρ, m, h, x, s1, s2, d, w⟩ => by
    unfold gSt at w
    split at w
    · rename_i xs e1
      obtain ⟨c, w⟩ := ifT_wp w
      obtain ⟨a, vs, rfl, r, d1⟩ := den_asQ s1 e1 d
      refine ⟨a, vs, rfl, r, by rw [← d1.length]; exact leB_ok c, fun p np => ?_⟩
      have L : Le ρ h H ρ h (upd H p (.lst (vs.drop i))) := Le.neu np
      have S := s1.neu (o := .lst (vs.drop i)) np
      exact ⟨ρ, m, h, _, S, s2.le L, ((d1.take i).le L).app (.cons (.lst (s1.nomu np) upd_same ((d1.drop i).le L)) .nil), Tr.wp_mono w (postG.le L)⟩
    · exact w.elim
theorem gs_last {e : Expr} {p : Pos} {f : RunG} (h1 : SG T X E e f) : SGs T X E [.Starred e p] (gsCons f gsNil) := by
  refine pgsI (pgs_last h1) fun v σ H Q hw => ?_
  obtain ⟨ρ, m, h, xs, s1, s2, d, w⟩ := hw
  cases d with
  | nil => exact w.elim
  | cons d1 d2 =>
    refine ⟨_, _, rfl, ρ, m, h, _, s1, s2, d1, Tr.wp_mono (Tr.wp_bg w) fun r q => ?_⟩
    cases r with
    | ex x m1 h1 => exact q
    | ok m1 h1 =>
      cases d2 with
      | nil => exact fun ρ1 H1 σ1 l s t => ⟨rfl, (q : postG T X.K E ρ h H Q (.ok m1 h1)) ρ1 H1 σ1 l s t⟩
      | cons _ _ => exact (q : False).elim
end
end
end WK
set_option Elab.async false
set_option linter.all false
set_option maxRecDepth 100000
/-! match of texts -/
namespace WK
noncomputable section
open PySem PySem.Spec PyProof.Rows L2
section
variable {T : Tb} {X : Cx} {E : XW}
/-- the cases of a match -/
structure SMs (T : Tb) (X : Cx) (E : XW) (cases : List MatchCase) (f : MV → RunS) : Prop where
  run : ∀ (first : Bool) (pins : List (Addr × Obj)) (s : Shared) (σ : L2.St) (H : Hp) (D : Ends) (x : MV) (v : V) (u : Value) (ρ : Rho) (m : MS) (h : MH), Inv X pins σ H s → RelV v u → SimH T X.K ρ h H → SimS T X.K ρ (Mu ρ h) H m σ → Den T X.K ρ (Mu ρ h) H x v →
    (f x m h).wp (postS T X.K E ρ h H D) → wpAny (model X.prog X.w) X.A (matchCases cases X.env u first) (SP X pins D) X.xe s
def runMat (f : RunE) (c : MV → RunS) : RunS := fun m h => (f m h).be (fun x h1 => c x m h1) (exS m)
theorem s_match {e : Expr} {cases : List MatchCase} {pos : Pos} {f : RunE} {c : MV → RunS} (he : SE T X E e f) (hc : SMs T X E cases c) : SS T X E (.Match e cases pos) (runMat f c) :=
  ⟨fun pins s σ H D I ⟨ρ, m, h, s1, s2, w⟩ => by
    refine wpAny_Match (thn (he.v.run pins s σ H (fun v H1 => ∃ ρ1 h1 x, Le ρ h H ρ1 h1 H1 ∧ SimH T X.K ρ1 h1 H1 ∧ Den T X.K ρ1 (Mu ρ1 h1) H1 x v ∧ (c x m h1).wp (postS T X.K E ρ1 h1 H1 D)) I ⟨ρ, m, h, s1, s2, Tr.wp_mono (Tr.wp_be w) fun r q => ?_⟩) fun u s' ⟨v, H1, I1, r1, ρ1, h1, x, l1, t1, d1, w1⟩ => hc.run true pins s' σ H1 D x v u ρ1 m h1 I1 r1 t1 (s2.le l1) d1 w1)
    cases r with
    | ex x h1 => exact q
    | ok x h1 => exact fun ρ1 H1 v l s d => ⟨ρ1, h1, x, l, s, d, Tr.wp_mono q (postS.le l)⟩⟩
theorem m_nil : SMs T X E [] fun _ => nxS := ⟨fun first pins s σ H D x v u ρ m h I r s1 s2 d w => wpAny_matchCases_nil ⟨σ, H, I, w ρ H σ Le.refl s1 s2⟩⟩
def runMv (w : Str) (b : RunS) (r : MV → RunS) : MV → RunS := fun x => match x with
  | .str z => match decide (z = w) with
    | true => b
    | false => r (.str z)
  | _ => fun _ _ => .bad
/-- a written text is compared -/
theorem mat_str {pins : List (Addr × Obj)} {s : Shared} {σ : L2.St} {H : Hp} {z w : Str} {u : Value} {j : Nat} {p pos : Pos} {Q : Option (List (Str × Value)) → Shared → Prop} (I : Inv X pins σ H s) (r : RelV (.str z) u) (k : ∀ s', Inv X pins σ H s' → Q (if z = w then some [] else none) s') :
    wpAny (model X.prog X.w) X.A (matchPattern (.MatchValue (.Constant (.str w) j p) pos) X.env u) Q X.xe s := by
  refine wpAny_matchPattern_Value (thn ((pe_str (X := X)).run pins s σ H (fun v H1 => v = .str w ∧ H1 = H) I ⟨rfl, rfl⟩) fun u2 s1 ⟨v2, H1, I1, r2, e2, eH⟩ => ?_)
  subst e2 eH
  refine thn (op_eq (X := X) pins s1 σ H1 (.str z) (.str w) u u2 (fun v H2 => v = .bl (decide (z = w)) ∧ H2 = H1) I1 r r2 ⟨rfl, by rw [show decide (V.str z = V.str w) = decide (z = w) from by by_cases q : z = w <;> simp [q]], rfl⟩) fun c s2 ⟨v3, H3, I3, r3, e3, eH3⟩ => ?_
  subst e3 eH3
  obtain rfl : c = Value.bool (decide (z = w)) := r3
  refine wpAny_pure ?_
  have q := k s2 I3
  by_cases hz : z = w
  · rw [if_pos hz] at q
    rw [if_pos (decide_eq_true hz)]; exact q
  · rw [if_neg hz] at q
    rw [if_neg (by rw [decide_eq_false hz]; exact Bool.false_ne_true)]; exact q
theorem m_val {w : Str} {j : Nat} {p pos : Pos} {body : List Stmt} {rest : List MatchCase} {b : RunS} {r : MV → RunS} (hb : SSs T X E body b) (hr : SMs T X E rest r) : SMs T X E (⟨.MatchValue (.Constant (.str w) j p) pos, none, body⟩ :: rest) (runMv w b r) :=
  ⟨fun first pins s σ H D x v u ρ m h I ru s1 s2 d wq => by
    refine wpAny_matchCases_cons ?_
    unfold runMv at wq
    split at wq
    · rename_i z
      cases d
      refine mat_str I ru fun s' I' => ?_
      by_cases hz : z = w
      · rw [decide_eq_true hz] at wq
        rw [if_pos hz]
        refine wpAny_assignInOrder_none ?_
        exact hb.run pins s' σ H D I' ⟨ρ, m, h, s1, s2, wq⟩
      · rw [decide_eq_false hz] at wq
        rw [if_neg hz]
        exact hr.run false pins s' σ H D (.str z) (.str z) u ρ m h I' ru s1 s2 (.str z) wq
    · exact wq.elim⟩
def runMv2 (w w' : Str) (b : RunS) (r : MV → RunS) : MV → RunS := fun x => match x with
  | .str z => match decide (z = w) || decide (z = w') with
    | true => b
    | false => r (.str z)
  | _ => fun _ _ => .bad
theorem m_val2 {w w' : Str} {j j' : Nat} {p pos p' pos' po : Pos} {body : List Stmt} {rest : List MatchCase} {b : RunS} {r : MV → RunS} (hb : SSs T X E body b) (hr : SMs T X E rest r) : SMs T X E (⟨.MatchOr [.MatchValue (.Constant (.str w) j p) pos, .MatchValue (.Constant (.str w') j' p') pos'] po, none, body⟩ :: rest) (runMv2 w w' b r) :=
  ⟨fun first pins s σ H D x v u ρ m h I ru s1 s2 d wq => by
    refine wpAny_matchCases_cons (wpAny_matchPattern_Or (wpAny_matchFirst_cons ?_))
    unfold runMv2 at wq
    split at wq
    · rename_i z
      cases d
      refine mat_str I ru fun s' I' => ?_
      by_cases hz : z = w
      · rw [decide_eq_true hz, Bool.true_or] at wq
        rw [if_pos hz]
        refine wpAny_assignInOrder_none ?_
        exact hb.run pins s' σ H D I' ⟨ρ, m, h, s1, s2, wq⟩
      · rw [decide_eq_false hz, Bool.false_or] at wq
        rw [if_neg hz]
        refine wpAny_matchFirst_cons (mat_str I' ru fun s'' I'' => ?_)
        by_cases hz2 : z = w'
        · rw [decide_eq_true hz2] at wq
          rw [if_pos hz2]
          refine wpAny_assignInOrder_none ?_
          exact hb.run pins s'' σ H D I'' ⟨ρ, m, h, s1, s2, wq⟩
        · rw [decide_eq_false hz2] at wq
          rw [if_neg hz2]
          exact wpAny_matchFirst_nil (hr.run false pins s'' σ H D (.str z) (.str z) u ρ m h I'' ru s1 s2 (.str z) wq)
    · exact wq.elim⟩
theorem m_any {pos : Pos} {body : List Stmt} {rest : List MatchCase} {b : RunS} (hb : SSs T X E body b) : SMs T X E (⟨.MatchAs none none pos, none, body⟩ :: rest) fun _ => b :=
  ⟨fun first pins s σ H D x v u ρ m h I ru s1 s2 d wq => wpAny_matchCases_cons (wpAny_matchPattern_Capture (wpAny_assignInOrder_none (hb.run pins s σ H D I ⟨ρ, m, h, s1, s2, wq⟩)))⟩
end
end
end WK
set_option Elab.async false
set_option linter.all false
set_option maxRecDepth 100000
/-! calls with starred arguments -/
namespace WK
noncomputable section
open PySem PySem.Spec PyProof.Rows L2
section
variable {T : Tb} {X : Cx} {E : XW}
/-- C(*e) -/
def kNewSt (n c : Nat) (init : List MV → MH → Tr ER) (x : MV) (h : MH) : Tr ER := match asQ h x with
  | some xs => ifT (Nat.beq (xs.length + 1) n) (runNew c init xs h)
  | none => .bad
theorem s_newSt {d n c : Nat} {f : Addr} {init : List MV → MH → Tr ER} {x : Str} {e : Expr} {sp_ p pos : Pos} {g : RunE} (tk : Takes X (wx T X.K E)) (hr : Room (d + 1) X.A) (M : Mk X.K (cAd T X.K c) f) (F : FI T X d f n init) (hg : Gl X x) (hm : X.mg x = some (.ref (cAd T X.K c))) (he : SE T X E e g) (hx : (x == ("__debug__" : Str)) = false)
    (hst : starEach [.Starred e sp_] X.env = [(true, eval e X.env)]) :
    SE T X E (.Call (.Name x p) [.Starred e sp_] [] pos) (run1 g (kNewSt n c init)) := by
  obtain ⟨fd, ps, hl, F1, hb⟩ := F.ex
  refine .ofV ⟨fun pins sh σ H Q I hw => ?_⟩ fun _ => rfl
  refine wpAny_Call_Name_kw (ld_glob I hg hm ?_ hx)
  refine PySem.W.callWith_S (h₀ := X.base) I.ok.mod.kin M.kp (thn (he.v.run pins sh σ H (fun y H1 => ∃ a vs, y = .ref a ∧ (SqT X.K H1 a vs ∨ SqL X.K H1 a vs) ∧ ∀ x dx, H1 x = none → H1 dx = none → dx ≠ x → spF T X.K n init (.ref x :: vs) (upd (upd H1 dx (.own x)) x (.ins (cAd T X.K c) dx [])) (fun v H2 => v = .non ∧ Q (.ref x) H2) (fun cls d H' => wx T X.K E cls d σ H')) I ?_) fun u s1 ⟨y, H1, I1, ry, a, vs, ey, hq, q⟩ => ?_) hst
  · obtain ⟨ρ, m, h, s1, s2, w⟩ := hw
    refine ⟨ρ, m, h, s1, s2, Tr.wp_mono (Tr.wp_be w) fun r q => ?_⟩
    cases r with
    | ex y h1 => exact q
    | ok y h1 =>
      intro ρ1 H1 v l s dd
      have q : (kNewSt n c init y h1).wp (postE T X.K E m ρ h H Q) := q
      unfold kNewSt at q
      split at q
      · rename_i xs e1
        obtain ⟨cc, q⟩ := ifT_wp q
        have cc := Nat.eq_of_beq_eq_true cc
        obtain ⟨a, vs, rfl, r, d1⟩ := den_asQ s e1 dd
        refine ⟨a, vs, rfl, r.symm, ?_⟩
        exact new_ok s (s2.le l) d1 (by rw [← d1.length]; exact cc) (Tr.wp_mono q (postE.le l))
      · exact q.elim
  · subst ey
    obtain rfl : u = Value.ref a := ry
    exact StX.star_any I1 hq fun us s2 I2 rv => ⟨I2.kIn, run_makeS (sp := spF T X.K n init) (W := fun cls d H' => wx T X.K E cls d σ H') M F1 hr hb (passes_wx tk σ) I2 rv q⟩
/-! ### o.m(e, *es) -/
def runMthSt (n : Nat) (tbl : List (Nat × (List MV → MH → Tr ER))) (m : Nat) (f g1 g2 : RunE) : RunE := fun ms h => (f ms h).be (fun x h1 => recvM tbl m (fun run => (g1 ms h1).be (fun y1 h2 => (g2 ms h2).be (fun y2 h3 => match asQ h3 y2 with
  | some ys => ifT (Nat.beq (ys.length + 2) n) (run (x :: y1 :: ys) h3)
  | none => .bad) exE) exE) x h1) exE
/-- the classes' method as a value -/
def BmhOk (T : Tb) (X : Cx) (m : Nat) (tbl : List (Nat × (List MV → MH → Tr ER))) : Prop := ∀ c run, (c, run) ∈ tbl → ∀ g, Meth X.K (cAd T X.K c) (nmS T m) g → BMeth X.K (cAd T X.K c) (nmS T m) g
theorem s_methSt {d : Nat} {o e1 e2 : Expr} {m nn : Nat} {n : Str} {apos pos p : Pos} {f g1 g2 : RunE} {tbl : List (Nat × (List MV → MH → Tr ER))} (tk : Takes X (wx T X.K E)) (hr : Room d X.A) (ho : SE T X E o f) (h1 : SE T X E e1 g1) (h2 : SE T X E e2 g2) (hn : nmS T m = n) (hm : MthOk T X d nn m tbl) (hbm : BmhOk T X m tbl)
    (hbase : attributeBase o n X.env (eval o X.env) = eval o X.env) (hst : starEach [e1, .Starred e2 p] X.env = [(false, eval e1 X.env), (true, eval e2 X.env)]) :
    SE T X E (.Call (.Attribute o n apos) [e1, .Starred e2 p] [] pos) (runMthSt nn tbl m f g1 g2) := by
  refine .ofV ⟨fun pins sh σ H Q I hw => ?_⟩ fun _ => rfl
  obtain ⟨ρ, ms, h, s1, s2, w⟩ := hw
  obtain ⟨hml, hm⟩ := hm
  refine starcall2_of hbase hst (thn (ho.v.run pins sh σ H (fun v H1 => ∃ ρ1 h1 x, Le ρ h H ρ1 h1 H1 ∧ SimH T X.K ρ1 h1 H1 ∧ Den T X.K ρ1 (Mu ρ1 h1) H1 x v ∧ (recvM tbl m (fun run => (g1 ms h1).be (fun y1 h2 => (g2 ms h2).be (fun y2 h3 => match asQ h3 y2 with
    | some ys => ifT (Nat.beq (ys.length + 2) nn) (run (x :: y1 :: ys) h3)
    | none => .bad) exE) exE) x h1).wp (postE T X.K E ms ρ1 h1 H1 Q)) I ⟨ρ, ms, h, s1, s2, Tr.wp_mono (Tr.wp_be w) fun r q => ?_⟩) fun u sh1 ⟨v, H1, I1, rv, ρ1, hh1, x, l1, t1, dx, w1⟩ => ?_)
  · cases r with
    | ex x h1 => exact q
    | ok x h1 => exact fun ρ1 H1 v l s dd => ⟨ρ1, h1, x, l, s, dd, Tr.wp_mono q (postE.le l)⟩
  · obtain ⟨c, fs, run, ee1, e3, ee2, w1⟩ := recvM_wp w1
    obtain ⟨a, dxa, gs, rfl, r, df⟩ := den_asI t1 ee1 dx
    obtain rfl : u = Value.ref a := rv
    obtain ⟨gA, c1, c2, F⟩ := hm c run ee2
    obtain ⟨fd, ps, hl, F1, hb⟩ := F.ex
    have b := hbm c run ee2 gA c2
    rw [hn] at c2 b
    refine getbound_ok I1 r c1 b (by rw [← hn]; exact den_lkN hml df e3) fun q1 sh2 hq1 I2 => ?_
    have L1 : Le ρ1 hh1 H1 ρ1 hh1 (upd H1 q1 (.met gA a)) := Le.neu hq1
    have T2 := t1.neu (o := .met gA a) hq1
    have S2 := (s2.le l1).le L1
    have nm1 : ¬ Mu ρ1 hh1 q1 := t1.nomu hq1
    refine PySem.W.ks_call (P := PySem.W.MethP X.K q1 gA (.ref a)) rfl (PySem.W.keeps_M b.fi) (Calls.evalArgs_plain (Calls.spliced_cons (thn (h1.v.run pins sh2 σ _ (fun v1 H2 => ∃ ρ2 h2 y1, Le ρ1 hh1 (upd H1 q1 (.met gA a)) ρ2 h2 H2 ∧ SimH T X.K ρ2 h2 H2 ∧ Den T X.K ρ2 (Mu ρ2 h2) H2 y1 v1 ∧ ((g2 ms h2).be (fun y2 h3 => match asQ h3 y2 with
      | some ys => ifT (Nat.beq (ys.length + 2) nn) (run (x :: y1 :: ys) h3)
      | none => .bad) exE).wp (postE T X.K E ms ρ2 h2 H2 Q)) I2 ⟨ρ1, ms, hh1, T2, S2, Tr.wp_mono (Tr.wp_be w1) fun r q => ?_⟩) fun v1 s3 ⟨y1, H2, I3, ry1, ρ2, h2', z1, l2, t2, dz1, w2⟩ =>
      PySem.W.ks_spliced (thn (h2.v.run pins s3 σ H2 (fun v2 H3 => ∃ ρ3 h3 y2, Le ρ2 h2' H2 ρ3 h3 H3 ∧ SimH T X.K ρ3 h3 H3 ∧ Den T X.K ρ3 (Mu ρ3 h3) H3 y2 v2 ∧ (match asQ h3 y2 with
        | some ys => ifT (Nat.beq (ys.length + 2) nn) (run (x :: z1 :: ys) h3)
        | none => (.bad : Tr ER)).wp (postE T X.K E ms ρ3 h3 H3 Q)) I3 ⟨ρ2, ms, h2', t2, S2.le l2, Tr.wp_mono (Tr.wp_be w2) fun r q => ?_⟩) fun v2 s4 ⟨y2, H3, I4, ry2, ρ3, h3', z2, l3, t3, dz2, w3⟩ => ?_))))
    · cases r with
      | ex y hy => exact exP.le L1 q
      | ok y hy => exact fun ρ2 H2 v l s dd => ⟨ρ2, hy, y, l, s, dd, Tr.wp_mono q (postE.le (L1.trans l))⟩
    · cases r with
      | ex y hy => exact q
      | ok y hy => exact fun ρ3 H3 v l s dd => ⟨ρ3, hy, y, l, s, dd, Tr.wp_mono q (postE.le l)⟩
    · split at w3
      · rename_i ys e4
        obtain ⟨cc, w3⟩ := ifT_wp w3
        have cc := Nat.eq_of_beq_eq_true cc
        obtain ⟨t, vs, rfl, ht, d4⟩ := den_asQ t3 e4 dz2
        obtain rfl : v2 = Value.ref t := ry2
        have L23 := l2.trans l3
        have hmt : H3 q1 = some (.met gA a) := L23.kp upd_same nm1 rfl
        refine StX.star_any I4 ht.symm fun us s5 I5 rv => Calls.spliced_nil ?_
        show PySem.W.MethP X.K q1 gA (.ref a) s5.heap ∧ wpAny (model X.prog X.w) X.A (call (.ref q1) (v1 :: (us ++ [])) []) (EP X pins σ Q) X.xe s5
        rw [List.append_nil]
        refine ⟨met_P I5 hmt, wpAny_call (PySem.W.method_call (met_P I5 hmt).1 ?_)⟩
        refine codeAny_mono (F1.run X.A X.stack s5 H3 ⟨Value.ref a :: v1 :: us, []⟩ (Value.ref a :: v1 :: us) (V.ref a :: y1 :: vs) Q (fun cls d H' => wx T X.K E cls d σ H') hr I5.env0 (by have z := hb s5 (Value.ref a :: v1 :: us) I5.kIn (by rw [List.append_nil, hl, List.length_cons, List.length_cons, ← rv.length, ← d4.length]; exact cc.symm ▸ rfl); rw [List.append_nil] at z; exact z) (.cons rfl (.cons ry1 rv)) ?_) fun r s' hq => ?_
        · exact spF_of (pur := false) t3 (S2.le L23) (.cons (((dx.le L1).le L23)) (.cons (dz1.le l3) d4)) (by rw [List.length_cons, List.length_cons, ← d4.length]; exact cc) w3
        · cases r with
          | error e => exact passes_wx tk σ pins H3 s5 e s' I5 hq
          | ok fl =>
            cases fl with
            | ret u =>
              obtain ⟨v, H', I3, rv, q3⟩ := I5.after hq
              exact ⟨v, H', I3, rv, q3⟩
            | next => exact False.elim hq
            | brk => exact False.elim hq
            | cont => exact False.elim hq
      · exact w3.elim
end
end
end WK
set_option Elab.async false
set_option linter.all false
set_option maxRecDepth 100000
/-! try .. finally, a = b = e, dict(d), enumerate, keywords, written dicts -/
namespace WK
noncomputable section
open PySem PySem.Spec PyProof.Rows L2
/-! ### try: .. finally: .., nothing raised -/
section
variable {X : Cx} {body : List Stmt} {f₀ : Stmt} {fs : List Stmt} {pos : Pos} {tb tf : TS}
theorem ps_tryFin (hb : PSs X.nox body tb) (hf : PSs X.nox (f₀ :: fs) tf) : PS X (.Try body [] [] (f₀ :: fs) pos) (fun D σ H => tb { nx := fun σ1 H1 => tf D σ1 H1, rt := fun _ _ => False, bk := fun _ _ => False, ct := fun _ _ => False } σ H) := by
  refine ⟨fun pins s σ H D I h => ?_⟩
  refine wpAny_Try_finally (wpAny_mono (hb.run pins s σ H _ (I.wish _) h) (fun f s1 q => ?_) fun _ _ z => False.elim z)
  have q' := q.unwish
  cases f with
  | next =>
    obtain ⟨σ1, H1, I1, q1⟩ := q'
    refine wpAny_execs_nil (wpAny_mono (hf.run pins s1 σ1 H1 D (I1.wish _) q1) (fun g s2 q2 => ?_) fun _ _ z => False.elim z)
    have q3 := q2.unwish
    cases g with
    | next => exact q3
    | ret w2 => exact q3
    | brk => exact q3
    | cont => exact q3
  | ret v => obtain ⟨_, _, _, _, _, q2⟩ := q'; exact False.elim q2
  | brk => obtain ⟨_, _, _, q2⟩ := q'; exact False.elim q2
  | cont => obtain ⟨_, _, _, q2⟩ := q'; exact False.elim q2
end
section
variable {T : Tb} {X : Cx} {E : XW}
def runFin (f g : RunS) : RunS := fun m h => (f m h).bind fun r => SR.rec (motive := fun _ => Tr SR) (fun m1 h1 => g m1 h1) (fun _ _ => .bad) (fun _ _ => .bad) (fun _ _ => .bad) (fun _ _ _ => .bad) r
/-- the finally suite's run without exceptions -/
def noExS (f : RunS) : RunS := fun m h => (f m h).bind fun r => SR.rec (motive := fun _ => Tr SR) nxS (fun m2 h2 => .ret (.bk m2 h2)) (fun m2 h2 => .ret (.ct m2 h2)) (fun v h2 => .ret (.rt v h2)) (fun _ _ _ => .bad) r
theorem s_tryFin {body : List Stmt} {f₀ : Stmt} {fs : List Stmt} {pos : Pos} {f g : RunS} (hb : SSs T X.nox EF body f) (hf : SSs T X.nox EF (f₀ :: fs) g) : SS T X E (.Try body [] [] (f₀ :: fs) pos) (runFin f (noExS g)) :=
  psI (ps_tryFin hb hf) fun D σ H ⟨ρ, m, h, s1, s2, w⟩ => ⟨ρ, m, h, s1, s2, Tr.wp_mono ((Tr.wp_bind _ _ _).mp w) fun r q => by
    cases r with
    | nx m1 h1 =>
      intro ρ1 H1 σ1 l s t
      have q : (noExS g m1 h1).wp (postS T X.K E ρ h H D) := q
      refine ⟨ρ1, m1, h1, s, t, Tr.wp_mono ((Tr.wp_bind _ _ _).mp q) fun r q => ?_⟩
      cases r with
      | nx m2 h2 => exact postS.le (E := EF) l (.nx m2 h2) q
      | bk m2 h2 => exact postS.le (E := EF) l (.bk m2 h2) q
      | ct m2 h2 => exact postS.le (E := EF) l (.ct m2 h2) q
      | rt v h2 => exact postS.le (E := EF) l (.rt v h2) q
      | ex x m2 h2 => exact (q : False).elim
    | bk m1 h1 => exact (q : False).elim
    | ct m1 h1 => exact (q : False).elim
    | rt v h1 => exact (q : False).elim
    | ex x m1 h1 => exact (q : False).elim⟩
/-! ### a = b = e -/
def runAsg2 (f : RunE) (g1 g2 : RunG) : RunS := fun m h => (f m h).be (fun x h1 => Tr.bg (g1 x m h1) (fun m2 h2 => toS (g2 x m2 h2)) (fun y m2 h2 => .ret (.ex y m2 h2))) (exS m)
theorem s_asg2 {t1 t2 e : Expr} {pos : Pos} {f : RunE} {g1 g2 : RunG} (he : SE T X E e f) (h1 : SG T X E t1 g1) (h2 : SG T X E t2 g2) (ha : (assignEach [t1, t2] X.env).map (·.2) = [assign t1 X.env, assign t2 X.env]) (hw : swappedStores [t1, t2] e X.env = pure none) :
    SS T X E (.Assign [t1, t2] e pos) (runAsg2 f g1 g2) := psI (ps_asg2 he.v h1 h2 ha hw) fun D σ H ⟨ρ, m, h, s1, s2, w⟩ => ⟨ρ, m, h, s1, s2, Tr.wp_mono (Tr.wp_be w) fun r q => by
    cases r with
    | ex x h1 => exact q
    | ok x h1 =>
      intro ρ1 H1 v l s d
      refine ⟨ρ1, m, h1, x, s, s2.le l, d, Tr.wp_mono (Tr.wp_bg q) fun r q => ?_⟩
      cases r with
      | ex y m2 h2 => exact exP.le l q
      | ok m2 h2 =>
        intro ρ2 H2 σ2 l2 t t2
        exact ⟨ρ2, m2, h2, x, t, t2, d.le l2, toS_wp (Tr.wp_mono q (postS.le (l.trans l2)))⟩⟩
/-! ### dict(d) -/
def kDictC : List MV → MH → Tr ER := fun xs h => match xs with
  | [x] => match asD h x with
    | some (true, kvs) => okE (.ref h.nxt) (h.new (.dct true kvs))
    | _ => .bad
  | _ => .bad
theorem kDictC_ok : CallS T X (fun xs H Q => ∃ (a : Addr) (kvs : List (Key × V)), xs = [.ref a] ∧ Rd H a (.dK kvs) ∧ ∀ p, H p = none → Q (.ref p) (upd H p (.dK kvs))) kDictC := fun ρ h H xs vs m E Q s d w => by
  unfold kDictC at w
  split at w
  · split at w
    · rename_i kvs e1
      cases d with
      | cons d1 d2 =>
        cases d2
        obtain ⟨a, rfl, ps, ea, dk⟩ := den_asD s e1 d1
        exact ⟨a, ps, rfl, Rd.of ea, fun p n => w _ _ _ (s.le_lab n) (s.lab n ⟨ps, upd_same, dk.le (s.le_lab n)⟩) (.ref rhoN_at)⟩
    · exact w.elim
  · exact w.elim
/-! ### enumerate of a list -/
def enumM : Nat → List MV → List MV
  | _, [] => []
  | i, x :: xs => .tup [.int i, x] :: enumM (i + 1) xs
theorem enumM_at : ∀ {xs : List MV} {k i : Nat} {z : MV}, (enumM k xs)[i]? = some z → ∃ x, xs[i]? = some x ∧ z = .tup [.int ((k + i : Nat) : Int), x]
  | [], _, _, _, e => by simp [enumM] at e
  | x :: xs, k, 0, z, e => by
    have e' : some (MV.tup [.int (k : Int), x]) = some z := e
    cases e'; exact ⟨x, rfl, rfl⟩
  | x :: xs, k, i + 1, z, e => by
    have e' : (enumM (k + 1) xs)[i]? = some z := e
    obtain ⟨a, h1, h3⟩ := enumM_at e'
    exact ⟨a, h1, by rw [h3, show k + 1 + i = k + (i + 1) from by omega]⟩
theorem enumM_len : ∀ (xs : List MV) (k : Nat), (enumM k xs).length = xs.length
  | [], k => rfl
  | _ :: xs, k => congrArg (· + 1) (enumM_len xs (k + 1))
theorem wsim_e {K : PySem.W.Frag} {ρ : Rho} {h : MH} {H : Hp} {xs : List MV} {vs : List V} {a : Addr} (n : ¬ Mu ρ h a) (e : H a = some (.lst vs)) (d : DenL T K ρ (Mu ρ h) H xs vs) : WSim T K ρ h H (Ite K a) (enumM 0 xs) := fun ρ' h' H' l s =>
  have e' := SqL.of (K := K) (l.kp e n rfl)
  ⟨⟨vs, e', by rw [enumM_len, d.length]; exact Nat.le_refl _⟩, fun i z q => by
    obtain ⟨x, h1, rfl⟩ := enumM_at q
    obtain ⟨v, q1, q2⟩ := (d.le l).nthE h1
    refine ⟨⟨vs, v, e', q1⟩, fun v' H'' yy => ?_⟩
    obtain ⟨T', x', rfl, hn, rfl, k1⟩ := yy
    have z1 := k1 vs e'
    rw [q1] at z1; cases z1
    rw [Nat.zero_add]
    exact den_pair s hn (.int _) q2⟩
def runEnum (f : RunE) : RunI := fun m h => (f m h).be (fun x h1 => match x with
  | .lst xs => .ret (.ok (enumM 0 xs) h1)
  | _ => .bad) exL
theorem i_enum {e : Expr} {f : RunE} {p pos tpos : Pos} {elts : List Expr} {kk : Nat} (hg : Gl X "enumerate") (hm : X.mg "enumerate" = none) (he : SE T X E e f) (hs : notStar e = true) : SI T X E (.Tuple elts kk tpos) (.Call (.Name "enumerate" p) [e] [] pos) (runEnum f) :=
  piI (pi_enum hg hm (pa_cons he.v pa_nil (star_cons hs)) (star_cons hs)) fun σ H R ⟨ρ, m, h, s1, s2, w⟩ => ⟨ρ, m, h, s1, s2, Tr.wp_mono (Tr.wp_be w) fun r q => by
    cases r with
    | ex x h1 => exact q
    | ok x h1 =>
      intro ρ1 H1 v l s d
      cases x <;> first | exact (q : False).elim | skip
      cases d with
      | lst n r d1 => exact ⟨_, _, rfl, SqL.of r, q ρ1 H1 _ l s (wsim_e n r d1)⟩⟩
/-! ### f(e, k = e') -/
def runCallK (run : List MV → MH → Tr ER) (g k : RunE) : RunE := fun m h => (g m h).be (fun x h1 => (k m h1).be (fun y h2 => noEx (run [x, y] h2)) exE) exE
theorem s_callK {d : Nat} {f : Addr} {fd : FuncData} {ps : List Str} {run : List MV → MH → Tr ER} {x kn : Str} {e e2 : Expr} {p pos kpos : Pos} {g k : RunE} {gg : List Value → List Value → List Value} (tk : Takes X (wx T X.K E)) (F : FnOk X.prog X.w X.K X.mg X.base (L2.CX X.prog X.w) d f fd ps (spF T X.K 2 run)) (hr : Room d X.A)
    (hg : Gl X x) (hm : X.mg x = some (.ref f)) (hk : PySem.W.keepIn X.K (.ref f) = true) (hb : KBn X.K fd ps 1 [kn] gg (fun vs zs => vs ++ zs)) (he : SE T X E e g) (he2 : SE T X E e2 k) (hn : notStar e = true) (hx : (x == ("__debug__" : Str)) = false)
    (hall : (backToKw pos (keywordEach [⟨some kn, e2, kpos⟩] X.env)).all (·.1.isSome) = true) (hks : (backToKw pos (keywordEach [⟨some kn, e2, kpos⟩] X.env)).filterMap (·.1) = [kn])
    (hpl : ((backTo pos (starEach [e] X.env)).any (·.1) || (backToKw pos (keywordEach [⟨some kn, e2, kpos⟩] X.env)).any (·.1.isNone)) = false) :
    SE T X E (.Call (.Name x p) [e] [⟨some kn, e2, kpos⟩] pos) (runCallK run g k) := by
  refine .ofV (peI (pe_callN (E := fun _ _ _ => False) F hr hg hm hk hb (pass_wx tk) (pa_cons he.v pa_nil (star_cons hn)) (pk_cons he2.v pk_nil) hall hks hx (star_cons hn) hpl) fun σ H Q ⟨ρ, m, h, s1, s2, w⟩ => ⟨ρ, m, h, s1, s2, Tr.wp_mono (Tr.wp_be w) fun r q => ?_⟩) fun _ => rfl
  cases r with
  | ex x h1 => exact q
  | ok y h1 =>
    intro ρ1 H1 v l s d
    refine ⟨ρ1, m, h1, s, s2.le l, Tr.wp_mono (Tr.wp_be q) fun r q => ?_⟩
    cases r with
    | ex x h2 => exact exP.le l q
    | ok z h2 =>
      intro ρ2 H2 u l2 s' d2
      have q : (noEx (run [y, z] h2)).wp _ := q
      refine ⟨rfl, rfl, rfl, ρ2, [y, z], h2, s', .cons (d.le l2) (.cons d2 .nil), Tr.wp_mono ((Tr.wp_bind _ _ _).mp q) fun r q => ?_⟩
      cases r with
      | ex x h3 => exact (q : False).elim
      | ok t h3 => exact fun ρ3 H3 v3 l3 s3 d3 => (q : postE T X.K E m ρ h H Q (.ok t h3)) ρ3 H3 v3 ((l.trans l2).trans l3) s3 d3
/-! ### D.get(k, e), D a dict of the module -/
structure KTab (K : PySem.W.Frag) (w : World) (a : Addr) (tbl : List (Str × Int)) : Prop where
  ex : ∃ es n, K.lookup a = some ⟨.type "dict", none, .dict es n, #[]⟩ ∧ PySem.W.KeysLit w.params es.toList ∧ (a == sysModules) = false
  at_ : ∀ q ∈ tbl, ∃ u, PySem.W.nsIn K a q.1 = some (some u) ∧ RelV (.int q.2) u
def lkT (z : Str) : List (Str × Int) → Option Int
  | [] => none
  | (x, i) :: r => match decide (z = x) with
    | true => some i
    | false => lkT z r
theorem lkT_mem {z : Str} {i : Int} : ∀ {tbl : List (Str × Int)}, lkT z tbl = some i → (z, i) ∈ tbl
  | (x, j) :: r, e => by
    have e : (match decide (z = x) with | true => some j | false => lkT z r) = some i := e
    cases c : decide (z = x) with
    | true =>
      rw [c] at e
      cases e
      rw [of_decide_eq_true c]; exact List.mem_cons_self
    | false => rw [c] at e; exact List.mem_cons_of_mem _ (lkT_mem e)
def runKGet (tbl : List (Str × Int)) (f g : RunE) : RunE := fun m h => (f m h).be (fun x h1 => (g m h1).be (fun _ h2 => match x with
  | .str z => match lkT z tbl with
    | some i => okE (.int i) h2
    | none => .bad
  | _ => .bad) exE) exE
theorem s_kget {a : Addr} {tbl : List (Str × Int)} {x : Str} {e f : Expr} {p apos cpos : Pos} {ge gf : RunE} (hg : Gl X x) (hm : X.mg x = some (.ref a)) (hd : KTab X.K X.w a tbl) (he : SE T X E e ge) (hf : SE T X E f gf) (hx : (x == ("__debug__" : Str)) = false) (m : M2 X (.Name x p) "get" apos e f cpos) :
    SE T X E (.Call (.Attribute (.Name x p) "get" apos) [e, f] [] cpos) (runKGet tbl ge gf) := by
  refine .ofV ⟨fun pins s σ H Q I hw => ?_⟩ fun _ => rfl
  obtain ⟨es, n, hl, hk, low⟩ := hd.ex
  have mp : ∀ {s' : Shared} {H' : Hp}, Inv X pins σ H' s' → s'.heap.MapOf (strKind X.prog X.w) a (fun k => findBy Value.isStrOf es k) := fun I' => PySem.W.mapOf_K (prog := X.prog) (w := X.w) I'.kIn hl hk
  refine wpAny_Call_method m.base m.few m.line PySem.F.plainAttrs_dict PySem.F.slot_dict_get PySem.F.type_dict_get (ld_glob I hg hm ?_ hx)
  refine ⟨(mp (I.tok _)).typeIs, fun b q => ?_, ?_⟩
  · cases q
    exact ⟨_, I.kIn _ _ hl, rfl⟩
  · rw [m.trees]
    obtain ⟨ρ, ms, h, s1, s2, w⟩ := hw
    refine Calls.callWith_builtin rfl (Calls.evalArgs_plain (Calls.spliced_cons (thn (he.v.run pins _ σ H (fun y H2 => ∃ ρ2 h2 zy, Le ρ h H ρ2 h2 H2 ∧ SimH T X.K ρ2 h2 H2 ∧ Den T X.K ρ2 (Mu ρ2 h2) H2 zy y ∧ ((gf ms h2).be (fun _ h2 => match zy with
      | .str z => match lkT z tbl with
        | some i => okE (.int i) h2
        | none => .bad
      | _ => .bad) exE).wp (postE T X.K E ms ρ2 h2 H2 Q)) (I.tok _) ⟨ρ, ms, h, s1, s2, Tr.wp_mono (Tr.wp_be w) fun r q => ?_⟩) fun iv s2' ⟨y, H2, I2, ry, ρ2, h2, zy, l2, t2, dzy, w2⟩ =>
      Calls.spliced_cons (thn (hf.v.run pins s2' σ H2 (fun z H3 => ∃ ρ3 h3, Le ρ2 h2 H2 ρ3 h3 H3 ∧ SimH T X.K ρ3 h3 H3 ∧ (match zy with
        | .str z => match lkT z tbl with
          | some i => okE (.int i) h3
          | none => .bad
        | _ => (.bad : Tr ER)).wp (postE T X.K E ms ρ3 h3 H3 Q)) I2 ⟨ρ2, ms, h2, t2, s2.le l2, Tr.wp_mono (Tr.wp_be w2) fun r q => ?_⟩) fun fv s3 ⟨z, H3, I3, rz, ρ3, h3, l3, t3, w3⟩ => Calls.spliced_nil ?_))))
    · cases r with
      | ex y hy => exact q
      | ok y hy => exact fun ρ2 H2 v l s dd => ⟨ρ2, hy, y, l, s, dd, Tr.wp_mono q (postE.le l)⟩
    · cases r with
      | ex y hy => exact q
      | ok y hy => exact fun ρ3 H3 v l s dd => ⟨ρ3, hy, l, s, Tr.wp_mono q (postE.le l)⟩
    · cases zy with
      | str zz =>
        dsimp only at w3
        cases e1 : lkT zz tbl with
        | some i =>
          rw [e1] at w3
          cases dzy
          obtain ⟨t, rfl⟩ := (show ∃ t, iv = Value.str zz t from ry)
          obtain ⟨u, hu, ru⟩ := hd.at_ _ (lkT_mem e1)
          refine call_meetsIn PySem.F.slot_dict_get (mp I3).typeIs PySem.F.entry_dict_get (PySem.F.args_dict_get_3 _ _ _) (meets_dict_get_default (strKind X.prog X.w) a (strKind_is X.prog X.w zz t) low fv) ⟨_, mp I3, ?_⟩
          rw [PySem.W.find_K hl hu]
          exact ⟨.int i, H3, I3.tok _, ru, w3 ρ3 H3 _ Le.refl t3 (.int i)⟩
        | none => rw [e1] at w3; exact w3.elim
      | _ => exact w3.elim
end
end
end WK
set_option Elab.async false
set_option linter.all false
set_option maxRecDepth 100000
/-! try: .. except C1: .. except (C2, C3) as n: return 'lit' + n.word -/
namespace WK
noncomputable section
open PySem PySem.Spec PyProof.Rows L2
theorem flying_keeps {B : Heap} {l : List Env} {e : Addr} {Z : Obj → Prop} {h h' : Heap} (f : HandSPX.FlyingZ B l e Z h) (k : ∀ q o, h.get? q = some o → h'.get? q = some o) : HandSPX.FlyingZ B l e Z h' := by
  obtain ⟨k1, k2, k3, oe, vs, T, oT, ts, he, hz, hd, hv1, hnT, hTe, hT, hdT, ht3⟩ := f
  exact ⟨fun b o q => k _ _ (k1 b o q), k2, k3.of_keeps fun b o q _ => ⟨o, k _ _ q, rfl⟩, oe, vs, T, oT, ts, k _ _ he, hz, hd, hv1, hnT, hTe, k _ _ hT, hdT, ht3⟩
/-- what the second clause wishes -/
def wSec (K : PySem.W.Frag) (c1 c2 c3 : Value) (i : Nat) (ts : Addr → Value → Option Addr → TS) (D : Ends) : WX := fun cls d σ H =>
  PySem.W.exmOne K cls c1 = some false ∧ PySem.W.exmAny K cls [c2, c3] = some true ∧ ∀ a, H a = none → ts a cls d { nx := fun σ' H' => D.nx (σ'.set i none) H', rt := D.rt, bk := fun σ' H' => D.bk (σ'.set i none) H', ct := fun σ' H' => D.ct (σ'.set i none) H' } (σ.set i (some (.ref a))) H
section
variable {X : Cx} {x1 x2 x3 n : Str} {c1 c2 c3 : Value} {i kk : Nat} {body suite s1 : List Stmt} {b₀ b₁ : Stmt} {np np2 np3 pos p1 tpos pos' : Pos} {tb : Ends → TS} {ts : Addr → Value → Option Addr → TS}
theorem ps_try2 (hs : X.stack = X.env :: X.outer) (hf : X.env.frame = some X.env.locals) (hN : X.N.Nodup) (hi : X.N[i]? = some n) (hln : X.env.kindOf n = some .local) (hc1 : Names X x1 c1) (hc2 : Names X x2 c2) (hc3 : Names X x3 c3)
    (hb : ∀ (D : Ends) (pn : List (Addr × Obj)) (xe : Value → Shared → Prop), Takes (X.tr pn xe) (wSec X.K c1 c2 c3 i ts D) → PassesOwn (model X.prog X.w) X.A X.env xe → PSs (X.tr pn xe) body (tb D))
    (hsu : ∀ (a : Addr) (oe : Obj) (cls : Value) (d : Option Addr) (pn : List (Addr × Obj)), Zc cls d oe → (∃ vs, oe.data = .fields vs) → PSs (X.suite a ((a, oe) :: pn)) (b₀ :: suite) (ts a cls d)) :
    PS X (.Try body [.ExceptHandler (some (.Name x1 np)) none (b₁ :: s1) p1, .ExceptHandler (some (.Tuple [.Name x2 np2, .Name x3 np3] kk tpos)) (some n) (b₀ :: suite) pos'] [] [] pos) (fun D σ H => tb D D σ H) := by
  refine ⟨fun pins s σ H D I h => ?_⟩
  have ok := I.ok
  have hfr : X.A.frames = some (X.env :: X.outer) := by rw [ok.frames, hs]
  have hloc : Loc X.env.scope n := .inl hln
  refine wpAny_Try_except ?_
  refine wpAny_mono ((hb D (X.pn ++ pins) (fun e s₁ => wpAny (model X.prog X.w) X.A (noteFrame e X.env) (fun _ s₂ => wpAny (model X.prog X.w) X.A (setFlight e none) (fun _ s₃ =>
    wpAny (model X.prog X.w) X.A (handleBy e X.env [.ExceptHandler (some (.Name x1 np)) none (b₁ :: s1) p1, .ExceptHandler (some (.Tuple [.Name x2 np2, .Name x3 np3] kk tpos)) (some n) (b₀ :: suite) pos']) (SP X pins D) X.xe s₃) X.xe s₂) X.xe s₁) (fun u s' xx => ?_) PassesOwn.looking).run [] s σ H D (I.toTry _) h) (fun f s1 hsp => ?_) (fun e s1 he => he)
  · obtain ⟨a, B, sI, pins', σ', H', cls, d, rfl, J', nb, up, sky, na, os, ag, hb1, hb2, hyes⟩ := xx
    have J : Inv X pins σ' H' sI := J'.ofTry ok
    have sky' : Sky B (X.env :: X.outer) a (Zc cls d) X.env.locals s'.heap := by rw [← hs]; exact sky
    show wpAny (model X.prog X.w) X.A (noteFrame (.ref a) X.env) _ _ _
    refine Sky.land Zc.steady hfr hf sky' fun h3 fl3 up3 => ?_
    have J3 : Inv X pins σ' H' { s' with heap := h3 } := J.landed nb fl3.1 (up.trans up3) os ag
    obtain ⟨oe3, vs3, he3, hz3, hd3⟩ := fl3.there
    have notFr : ∀ {h : Heap} {o : Obj} {vs : Array Value}, h.FunFrames B (X.env :: X.outer) → h.get? a = some o → o.data = .fields vs → a ∉ frs (X.env :: X.outer) := fun {h o vs} ff e dd hm => by
      obtain ⟨_, o', e', hnf⟩ := ff.mem hm
      rw [e] at e'; cases e'
      exact hnf _ dd
    have nfr := notFr fl3.2.2.1 he3 hd3
    have nL : a ≠ X.env.locals := fun z => nfr (List.mem_filterMap.mpr ⟨X.env, List.mem_cons_self, by rw [hf, z]⟩)
    have nF : a ∉ X.fs := fun hm => by
      obtain ⟨e, he, q⟩ := List.mem_filterMap.mp hm
      exact nfr (List.mem_filterMap.mpr ⟨e, List.mem_cons_of_mem _ he, q⟩)
    have S3 := J3.suite he3 hd3 na nL nF
    have test : ∀ {x : Str} {c : Value} {q : Pos} {Q : Value → Shared → Prop} {E : Value → Shared → Prop}, Names X x c → Q c { s' with heap := h3 } → wpAny (model X.prog X.w) (X.A.mark (some (.ref a))) (eval (.Name x q) X.env) Q E { s' with heap := h3 } := fun {x c q0 Q E} hc q => by
      obtain ⟨hg, hdbg, hm | ⟨hm, hv, hnn⟩⟩ := hc
      · exact ld_glob (X := X.suite a ((a, oe3) :: (X.pn ++ pins))) S3 hg hm q hdbg
      · exact ld_blt (X := X.suite a ((a, oe3) :: (X.pn ++ pins))) S3 hg hm hv q hnn hdbg
    have LT : PySem.W.Looks (model X.prog X.w) h3 (typeOf (.ref a)) cls := fun A Q E s k q => wpAny_typeOf_ref (k _ _ he3) (by rw [hz3.1]; exact q)
    refine wpAny_handleBy_cons (codeAny_handlers_test ?_) (by intro q; cases q)
    refine test hc1 ((PySem.W.exm_one (M := model X.prog X.w) (J3.kIn) LT hb1).here ?_)
    show wpAny _ X.A (handleBy (.ref a) X.env [.ExceptHandler (some (.Tuple [.Name x2 np2, .Name x3 np3] kk tpos)) (some n) (b₀ :: suite) pos']) _ _ _
    refine wpAny_handleBy_cons (codeAny_handlers_test ?_) (by intro q; cases q)
    refine wpAny_Tuple (wpAny_items_cons (test hc2 (wpAny_items_cons (test hc3 (wpAny_items_nil ⟨(by rw [sizeLine_eq]; show 2 ≤ 16777216; omega), ?_⟩)))))
    have kp : ∀ q o, h3.get? q = some o → (h3.push { cls := .type "tuple", data := .seq [c2, c3].toArray }).get? q = some o := fun _ _ z => Heap.get?_push_of_some _ z
    have fl3' := flying_keeps fl3 kp
    refine (PySem.W.exm_tup2 (M := model X.prog X.w) (J3.kIn.keeps kp) (LT.keeps kp) (Heap.get?_push_size h3 rfl) hb2).here ?_
    refine codeAny_handlers_suite_as ?_
    refine HandSPX.lands_againZ fl3' fun h4 fl4 up4 => ?_
    have J4 : Inv X pins σ' H' { s' with heap := h4 } := J.landed nb fl4.1 (((up.trans up3).trans (Heap.UpToSlots.of_keeps kp)).trans up4) os ag
    obtain ⟨oe4, vs4, he4, hz4, hd4⟩ := fl4.there
    have S4 := J4.suite he4 hd4 na nL nF
    refine store_ok (X := X.suite a ((a, oe4) :: (X.pn ++ pins))) (v := .ref a) S4 hN hi hloc rfl (fun s5 S5 => ?_) (.inr hln)
    refine wpAny_mono ((hsu a oe4 cls d (X.pn ++ pins) hz4 ⟨_, hd4⟩).run [] s5 _ H' _ S5 (hyes a na)) (fun f s6 hsp => ?_) (fun _ _ z => False.elim z)
    have end_ : ∀ {σ6 : L2.St} {H6 : Hp} {Q : Shared → Prop}, Inv (X.suite a ((a, oe4) :: (X.pn ++ pins))) [] σ6 H6 s6 → (∀ s7, Inv X pins (σ6.set i none) H6 s7 → Q s7) →
        wpAny (model X.prog X.w) X.A (do bindName X.env n .none; unbindBehindTheSuite X.env n pos') (fun _ s7 => Q s7) X.xe s6 := fun {σ6 H6 Q} S6 hq => gone_ok (S6.unsuite ok) hN hi hln hq
    cases f with
    | next =>
      obtain ⟨σ6, H6, S6, q6⟩ := hsp
      exact end_ S6 fun s7 J7 => ⟨_, _, J7, q6⟩
    | brk =>
      obtain ⟨σ6, H6, S6, q6⟩ := hsp
      exact end_ S6 fun s7 J7 => ⟨_, _, J7, q6⟩
    | cont =>
      obtain ⟨σ6, H6, S6, q6⟩ := hsp
      exact end_ S6 fun s7 J7 => ⟨_, _, J7, q6⟩
    | ret u =>
      obtain ⟨v6, σ6, H6, S6, r6, q6⟩ := hsp
      exact end_ S6 fun s7 J7 => ⟨_, _, _, J7, r6, q6⟩
  · cases f with
    | next =>
      obtain ⟨σ', H', J', q⟩ := hsp
      exact wpAny_execs_nil ⟨σ', H', J'.ofTry ok, q⟩
    | brk =>
      obtain ⟨σ', H', J', q⟩ := hsp
      exact ⟨σ', H', J'.ofTry ok, q⟩
    | cont =>
      obtain ⟨σ', H', J', q⟩ := hsp
      exact ⟨σ', H', J'.ofTry ok, q⟩
    | ret u =>
      obtain ⟨v, σ', H', J', r, q⟩ := hsp
      exact ⟨v, σ', H', J'.ofTry ok, r, q⟩
end
section
variable {T : Tb} {X : Cx} {E : XW}
/-- the caught exception's end -/
def catchR (lit : Str) (i : Nat) (cs : List Nat) (fw : Nat) (x : MV) (m : MS) (h : MH) : Tr SR := match x with
  | .exc c fs => ifT (memN c cs && leB (i + 1) (lenN m)) (match lk fw fs with
    | some (.str z) => ifT (leB (lit.length + z.length) sizeLine) (.ret (.rt (.str (lit ++ z)) h))
    | _ => .bad)
  | _ => .bad
theorem catchR_wp {lit : Str} {i : Nat} {cs : List Nat} {fw : Nat} {x : MV} {m : MS} {h : MH} {P P' : SR → Prop} (k : ∀ v h, P (.rt v h) → P' (.rt v h)) (w : (catchR lit i cs fw x m h).wp P) : (catchR lit i cs fw x m h).wp P' := by
  unfold catchR at w ⊢
  split at w
  · obtain ⟨c, w⟩ := ifT_wp w
    rw [c]
    dsimp only [ifT]
    split at w
    · obtain ⟨c, w⟩ := ifT_wp w
      rw [c]
      exact k _ _ w
    · exact w.elim
  · exact w.elim
structure CatOk (T : Tb) (K : PySem.W.Frag) (c1 c2 c3 : Value) (cs : List Nat) : Prop where
  at_ : ∀ c ∈ cs, PySem.W.exmOne K (.ref (cAd T K c)) c1 = some false ∧ PySem.W.exmAny K (.ref (cAd T K c)) [c2, c3] = some true ∧ XfC K (cAd T K c) ∧ PySem.W.findIn K (.ref (cAd T K c)) "word" = some none
def tsCat (K : PySem.W.Frag) (lit : Str) (i : Nat) (a : Addr) (cls : Value) (d : Option Addr) : TS := tRet (fun σ H Q => ∃ C, XfC K C ∧ PySem.W.findIn K (.ref C) "word" = some none ∧ tOp (fun x y H Q => ∃ i j, x = .str i ∧ y = .str j ∧ i.length + j.length ≤ sizeLine ∧ Q (.str (i ++ j)) H) (tC (.str lit)) (tXf a cls d C "word" (tVar i)) σ H Q)
def runTry2 (f : RunS) (lit : Str) (i : Nat) (cs : List Nat) (fw : Nat) : RunS := fun m h => (f m h).bind fun r => SR.rec (motive := fun _ => Tr SR) nxS (fun m2 h2 => .ret (.bk m2 h2)) (fun m2 h2 => .ret (.ct m2 h2)) (fun v h2 => .ret (.rt v h2)) (fun x m2 h2 => catchR lit i cs fw x m2 h2) r
def E2 (T : Tb) (K : PySem.W.Frag) (lit : Str) (i : Nat) (cs : List Nat) (fw : Nat) (D : Ends) : XW := fun x m ρ h H => (catchR lit i cs fw x m h).wp (postS T K EF ρ h H D)
theorem s_try2 {x1 x2 x3 n lit : Str} {c1 c2 c3 : Value} {i kk j fw : Nat} {cs : List Nat} {body s1 : List Stmt} {b₁ : Stmt} {np np2 np3 pos p1 tpos pos' q1 q2 q3 q4 q5 : Pos} {f : RunS} (hs : X.stack = X.env :: X.outer) (hf : X.env.frame = some X.env.locals) (hN : X.N.Nodup) (hi : X.N[i]? = some n) (hln : X.env.kindOf n = some .local) (hc1 : Names X x1 c1) (hc2 : Names X x2 c2) (hc3 : Names X x3 c3)
    (hcat : CatOk T X.K c1 c2 c3 cs) (nw : nmS T fw = "word") (hd : (n == ("__debug__" : Str)) = false) (hcd : (n == ("__classdict__" : Str)) = false)
    (hb : ∀ (E' : XW) (pn : List (Addr × Obj)) (xe : Value → Shared → Prop), Takes (X.tr pn xe) (wx T X.K E') → PassesOwn (model X.prog X.w) X.A X.env xe → SSs T (X.tr pn xe) E' body f) :
    SS T X E (.Try body [.ExceptHandler (some (.Name x1 np)) none (b₁ :: s1) p1, .ExceptHandler (some (.Tuple [.Name x2 np2, .Name x3 np3] kk tpos)) (some n) [.Return (some (.BinOp (.Constant (.str lit) j q1) .Add (.Attribute (.Name n q2) "word" q3) q4)) q5] pos'] [] [] pos) (runTry2 f lit i cs fw) := by
  have hv : Vis X.env.scope n := .inl hln
  refine psI (ps_try2 (tb := fun D => tS T X.K (E2 T X.K lit i cs fw D) f) (ts := tsCat X.K lit i) hs hf hN hi hln hc1 hc2 hc3 (fun D pn xe tk hp => hb _ pn xe (Takes.imp tk fun cls d σ H hw => ?_) hp) fun a oe cls d pn hz hfl => pss_one (ps_ret ?_)) fun D σ H ⟨ρ, m, h, s1, s2, w⟩ => ⟨ρ, m, h, s1, s2, Tr.wp_mono ((Tr.wp_bind _ _ _).mp w) fun r q => ?_⟩
  · obtain ⟨ρ, m, h, x, s1, s2, xd, e⟩ := hw
    obtain ⟨c, fs, da, gs, rfl, rfl, rfl, nm, ed, df⟩ := xd
    unfold E2 catchR at e
    obtain ⟨cm, e⟩ := ifT_wp e
    obtain ⟨cm, ci⟩ := Bool.and_eq_true_iff.mp cm
    obtain ⟨k1, k2, k3, k4⟩ := hcat.at_ c (memN_ok cm)
    split at e
    · rename_i z e1
      obtain ⟨cl, e⟩ := ifT_wp e
      obtain ⟨v, l1, dv, _⟩ := den_lk df e1
      cases dv
      rw [nw] at l1
      refine ⟨k1, k2, fun a na => ⟨cAd T X.K c, k3, k4, ?_⟩⟩
      refine ⟨.ref a, ?_, rfl, rfl, da, gs, .str z, rfl, ed, l1, lit, z, rfl, rfl, leB_ok cl, e ρ H _ Le.refl s1 (.str _)⟩
      have hlt : i < σ.length := by
        have := leB_ok ci
        rw [lenN_eq, s2.len] at this
        omega
      rw [List.getElem?_set_self hlt]
    · exact e.elim
  · exact ⟨fun pins s σ H Q I ⟨C, t1, t2, t3⟩ => (pe_op op_add_str pe_str (pe_xf t1 t2 hz hfl (pe_var hi hv hd hcd))).run pins s σ H Q I t3⟩
  · cases r with
    | nx m1 h1 => exact q
    | bk m1 h1 => exact q
    | ct m1 h1 => exact q
    | rt v h1 => exact q
    | ex x m1 h1 => exact fun ρ' H' l s => catchR_wp (P := postS T X.K E ρ h H D) (fun v h2 z => (postS.le (E := E) l (.rt v h2) z : postS T X.K E ρ' h1 H' D (.rt v h2))) (show (catchR lit i cs fw x m1 h1).wp (postS T X.K E ρ h H D) from q)
end
end
end WK
set_option Elab.async false
set_option linter.all false
set_option maxRecDepth 100000
/-! texts that end in a number's digits -/
namespace WK
noncomputable section
open PySem PySem.Spec PyProof.Rows L2
abbrev emS : Str := ⟨#[]⟩
theorem em_app (x : Str) : emS ++ x = x := by
  have := SX.S_cat [] (TL.tl x)
  rw [List.nil_append] at this
  rw [show emS = SX.S [] from rfl]
  conv => lhs; rw [← SX.S_tl x]
  exact this.trans (SX.S_tl x)
theorem digs {n : Int} (h0 : 0 ≤ n) (h1 : n < 1000000000) : ∃ k : Nat, n = (k : Int) ∧ Str.ofString (toString n) = SX.S (TL.numL k) ∧ TL.numL k ≠ [] ∧ (TL.numL k).length ≤ 9 := by
  obtain ⟨k, rfl⟩ := Int.eq_ofNat_of_zero_le h0
  exact ⟨k, rfl, SX.num_S k, TL.numL_ne k, TL.numL_len (by decide) (by omega)⟩
theorem digs_len {n : Int} (h0 : 0 ≤ n) (h1 : n < 1000000000) : (Str.ofString (toString n)).length ≤ 9 := by
  obtain ⟨k, _, e, _, l⟩ := digs h0 h1
  rw [e, SX.S_len]; exact l
section
variable {T : Tb} {X : Cx} {E : XW}
theorem post_nst {K : PySem.W.Frag} {ρ : Rho} {h : MH} {H : Hp} {m : MS} {Q : VK} {p : Str} {l : Nat} {n : Int} (s : SimH T K ρ h H) (e : ρ.sv l = some (.int n)) (h0 : 0 ≤ n) (h1 : n < 1000000000) (w : postE T K E m ρ h H Q (.ok (.nst p l) h)) : Q (.str (p ++ Str.ofString (toString n))) H :=
  w ρ H _ Le.refl s (.nst e h0 h1)
/-! ### + -/
def opAddT (x y : MV) (h : MH) : Tr ER := match x, y with
  | .str p, .nst q l => ifT (leB (p.length + q.length + 9) sizeLine) (okE (.nst (p ++ q) l) h)
  | x, y => opAdd false x y h
theorem str_assoc (p q r : Str) : p ++ (q ++ r) = p ++ q ++ r := by
  have z := SX.S_cat (TL.tl p) (TL.tl q ++ TL.tl r)
  rw [← SX.S_cat, ← List.append_assoc, ← SX.S_cat, ← SX.S_cat] at z
  have a : ∀ x : Str, SX.S (TL.tl x) = x := SX.S_tl
  rw [a, a, a] at z
  exact z
theorem opAddT_ok : OpS T X (rAddA X.K) opAddT := fun ρ h H x y v u E ms Q s dx dy w => by
  unfold opAddT at w
  split at w
  · obtain ⟨c, w⟩ := ifT_wp w
    have c := leB_ok c
    cases dx
    cases dy with
    | nst e h0 h1 =>
      have hd := digs_len h0 h1
      refine .inr (.inl ⟨_, _, rfl, rfl, ?_, ?_⟩)
      · rw [Str.length_append]; omega
      · rw [str_assoc]
        exact post_nst s e h0 h1 w
  · exact opAdd_ok false ρ h H _ _ v u E ms Q s dx dy w
/-! ### str(n), int(t) -/
def kStrT : List MV → MH → Tr ER := fun xs h => match xs with
  | [.num l] => okE (.nst emS l) h
  | _ => .bad
theorem log_small {n : Int} (h0 : 0 ≤ n) (h1 : n < 1000000000) : n.natAbs.log2 < 1920 := by
  have h : n.natAbs < 2 ^ 1920 := by
    have : n.natAbs < 2 ^ 30 := by omega
    exact Nat.lt_of_lt_of_le this (Nat.pow_le_pow_right (by decide) (by decide))
  by_cases z : n.natAbs = 0
  · rw [z]; decide
  · exact (Nat.log2_lt z).mpr h
theorem kStrT_ok : CallS T X (fun xs H Q => ∃ i : Int, xs = [.int i] ∧ i.natAbs.log2 < 1920 ∧ Q (.str (Str.ofString (toString i))) H) kStrT := fun ρ h H xs vs m E Q s d w => by
  unfold kStrT at w
  split at w
  · cases d with
    | cons d1 d2 =>
      cases d2
      cases d1 with
      | num e h0 h1 =>
        refine ⟨_, rfl, log_small h0 h1, ?_⟩
        have z := post_nst (p := emS) s e h0 h1 w
        rw [em_app] at z
        exact z
  · exact w.elim
def kIntT : List MV → MH → Tr ER := fun xs h => match xs with
  | [.nst p l] => ifT (Nat.beq p.length 0) (okE (.num l) h)
  | [.str z] => ifT (leB z.length 640) (match intText? z with
    | some n => okE (.int n) h
    | none => .bad)
  | _ => .bad
theorem len0 {p : Str} (h : p.length = 0) : p = emS := TL.ext_tl (by
  have := TL.len_tl p
  rw [h] at this
  exact List.eq_nil_of_length_eq_zero this.symm)
theorem kIntT_ok : CallS T X (fun xs H Q => ∃ a n, xs = [.str a] ∧ PySem.intText? a = some n ∧ a.length ≤ 640 ∧ Q (.int n) H) kIntT := fun ρ h H xs vs m E Q s d w => by
  unfold kIntT at w
  split at w
  · obtain ⟨c, w⟩ := ifT_wp w
    have c := len0 (Nat.eq_of_beq_eq_true c)
    subst c
    cases d with
    | cons d1 d2 =>
      cases d2
      cases d1 with
      | nst e h0 h1 =>
        refine ⟨_, _, rfl, ?_, ?_, w ρ H _ Le.refl s (.num e h0 h1)⟩
        · rw [em_app]; exact PySem.W.KIN.num_reads h0 (by omega)
        · rw [em_app]; have := digs_len h0 h1; omega
  · obtain ⟨c, w⟩ := ifT_wp w
    split at w
    · rename_i n e1
      cases d with
      | cons d1 d2 =>
        cases d2
        cases d1
        exact ⟨_, n, rfl, e1, leB_ok c, post_int s w⟩
    · exact w.elim
  · exact w.elim
/-! ### t.split(' ') -/
def splP (l : List Nat) : List Nat → List (List Nat) × List Nat := List.rec (motive := fun _ => List Nat → List (List Nat) × List Nat) (fun acc => ([], acc)) (fun c _ ih acc => match Nat.beq c 32 with
  | true => (acc :: (ih []).1, (ih []).2)
  | false => ih (acc ++ [c])) l
theorem spl_splP (d : List Nat) (hd : 32 ∉ d) : ∀ (l acc : List Nat), TL.spl [32] 0 acc (l ++ d) = (splP l acc).1 ++ [(splP l acc).2 ++ d]
  | [], acc => by
    show TL.spl [32] 0 acc d = _
    rw [TL.spl_last1 hd]; rfl
  | c :: r, acc => by
    have u : splP (c :: r) acc = (match Nat.beq c 32 with
      | true => (acc :: (splP r []).1, (splP r []).2)
      | false => splP r (acc ++ [c])) := rfl
    rw [u]
    cases e : Nat.beq c 32 with
    | true =>
      have e := Nat.eq_of_beq_eq_true e
      subst e
      have hp : TL.pre [32] (32 :: (r ++ d)) = true := by simp [TL.pre]
      show TL.spl [32] 0 acc (32 :: (r ++ d)) = _
      rw [TL.spl_hit hp]
      show acc :: TL.spl [32] 0 [] (r ++ d) = _
      rw [spl_splP d hd r []]
      rfl
    | false =>
      have e : c ≠ 32 := Nat.ne_of_beq_eq_false e
      have hp : TL.pre [32] (c :: (r ++ d)) = false := TL.pre_of_head [] (r ++ d) e
      show TL.spl [32] 0 acc (c :: (r ++ d)) = _
      rw [TL.spl_miss hp, spl_splP d hd r (acc ++ [c])]
theorem split_at (p d : Str) (hd : 32 ∉ TL.tl d) : Txt.split (p ++ d) ⟨#[32]⟩ = ((splP (TL.tl p) []).1 ++ [(splP (TL.tl p) []).2 ++ TL.tl d]).map SX.S := by
  have z := SX.split_S (a := TL.tl p ++ TL.tl d) (b := [32]) (by simp) (by decide)
  rw [← SX.S_cat, SX.S_tl, SX.S_tl, spl_splP _ hd] at z
  exact z
def splT (x : MV) : Option (List MV) := match x with
  | .str z => some ((splP (TL.tl z) []).1.map (fun a => .str (SX.S a)) ++ [.str (SX.S (splP (TL.tl z) []).2)])
  | .nst p l => some ((splP (TL.tl p) []).1.map (fun a => .str (SX.S a)) ++ [.nst (SX.S (splP (TL.tl p) []).2) l])
  | _ => none
def lenT : MV → Nat
  | .str z => z.length
  | .nst p _ => p.length + 9
  | _ => 0
def runSplit (f : RunE) : RunE := run1 f fun x h => match splT x with
  | some xs => ifT (leB (lenT x + 2) sizeLine) (okE (.lst xs) h)
  | none => .bad
theorem denL_strs {K : PySem.W.Frag} {ρ : Rho} {M : Addr → Prop} {H : Hp} : ∀ l : List (List Nat), DenL T K ρ M H (l.map fun a => MV.str (SX.S a)) ((l.map SX.S).map V.str)
  | [] => .nil
  | a :: r => .cons (.str _) (denL_strs r)
theorem s_split {o : Expr} {f : RunE} {j : Nat} {q apos pos : Pos} (ho : SE T X E o f) (hs : starEach [.Constant (.str ⟨#[32]⟩) j q] X.env = [(false, eval (.Constant (.str ⟨#[32]⟩) j q) X.env)]) (hbase : attributeBase o "split" X.env (eval o X.env) = eval o X.env) (hline : (apos.endLine == pos.line) = true) :
    SE T X E (.Call (.Attribute o "split" apos) [.Constant (.str ⟨#[32]⟩) j q] [] pos) (runSplit f) :=
  .ofV (peI (pe_split ho.v pe_str hs hbase hline) fun σ H Q ⟨ρ, m, h, s1, s2, w⟩ => ⟨ρ, m, h, s1, s2, Tr.wp_mono (Tr.wp_be w) fun r q => by
    cases r with
    | ex x h1 => exact q
    | ok x h1 =>
      intro ρ1 H1 v l s d
      replace q : (match splT x with
        | some xs => ifT (leB (lenT x + 2) sizeLine) (okE (.lst xs) h1)
        | none => (.bad : Tr ER)).wp (postE T X.K E m ρ h H Q) := q
      cases x <;> first | exact (q : False).elim | skip
      · rename_i p lb
        dsimp only [splT] at q
        obtain ⟨c, q⟩ := ifT_wp q
        have c := leB_ok c
        cases d with
        | nst e h0 h1' =>
          obtain ⟨k, rfl, ed, ne, hl⟩ := digs h0 h1'
          have hd : (32 : Nat) ∉ TL.tl (Str.ofString (toString (k : Int))) := by rw [ed]; exact TL.numL_free (.inl (by decide))
          refine ⟨⟨_, rfl⟩, ⟨_, _, rfl, rfl, rfl, ?_, fun P n => ?_⟩⟩
          · rw [Str.length_append]
            have := digs_len h0 h1'
            dsimp only [lenT] at c
            omega
          · rw [split_at _ _ hd]
            have L : Le ρ1 h1 H1 ρ1 h1 (upd H1 P (.lst ((((splP (TL.tl p) []).1 ++ [(splP (TL.tl p) []).2 ++ TL.tl (Str.ofString (toString (k : Int)))]).map SX.S).map V.str))) := Le.neu n
            refine (q : postE T X.K E m ρ h H Q _) ρ1 _ _ (l.trans L) (s.neu n) (.lst (s.nomu n) upd_same ?_)
            rw [List.map_append, List.map_append]
            refine (denL_strs _).app (.cons ?_ .nil)
            rw [← SX.S_cat, SX.S_tl]
            exact .nst (L.exv _ _ e) h0 h1'
      · rename_i z
        dsimp only [splT] at q
        obtain ⟨c, q⟩ := ifT_wp q
        have c := leB_ok c
        cases d
        have hz := split_at z emS (by simp [TL.tl])
        refine ⟨⟨_, rfl⟩, ⟨_, _, rfl, rfl, rfl, c, fun P n => ?_⟩⟩
        have ez : z ++ emS = z := by
          have := SX.S_cat (TL.tl z) []
          rw [List.append_nil, SX.S_tl] at this
          exact this
        rw [ez] at hz
        rw [hz]
        have L : Le ρ1 h1 H1 ρ1 h1 (upd H1 P (.lst ((((splP (TL.tl z) []).1 ++ [(splP (TL.tl z) []).2 ++ TL.tl emS]).map SX.S).map V.str))) := Le.neu n
        refine (q : postE T X.K E m ρ h H Q _) ρ1 _ _ (l.trans L) (s.neu n) (.lst (s.nomu n) upd_same ?_)
        rw [List.map_append, List.map_append]
        refine (denL_strs _).app (.cons ?_ .nil)
        rw [← SX.S_cat, SX.S_tl]
        exact .str _⟩) fun _ => rfl
/-! ### '' in [..] -/
def txB : MV → Bool
  | .str _ => true | .nst _ _ => true
  | _ => false
def isEm : MV → Bool
  | .str z => Nat.beq z.length 0
  | _ => false
def cInT : CF := fun x y h => match x, asL h y with
  | .str a, some xs => match Nat.beq a.length 0 && xs.all txB with
    | true => some (xs.any isEm)
    | false => none
  | _, _ => none
theorem isEm_ok {K : PySem.W.Frag} {ρ : Rho} {M : Addr → Prop} {H : Hp} {x : MV} {v : V} (c : txB x = true) (d : Den T K ρ M H x v) : flatV v = true ∧ L2.eqV v (.str emS) = isEm x := by
  cases x with
  | str z =>
    cases d
    refine ⟨rfl, ?_⟩
    show (z == emS) = Nat.beq z.length 0
    cases e : Nat.beq z.length 0 with
    | true => rw [len0 (Nat.eq_of_beq_eq_true e)]; rfl
    | false =>
      have e := Nat.ne_of_beq_eq_false e
      exact beq_false_of_ne fun q => e (by rw [q]; rfl)
  | nst p l =>
    cases d with
    | nst e h0 h1 =>
      refine ⟨rfl, ?_⟩
      show (_ == emS) = false
      refine beq_false_of_ne fun q => ?_
      obtain ⟨k, _, ed, ne, _⟩ := digs h0 h1
      have q2 := congrArg TL.tl q
      rw [TL.tl_append, ed] at q2
      have : TL.tl (SX.S (TL.numL k)) = [] := (List.append_eq_nil_iff.mp q2).2
      exact ne this
  | _ => cases c
theorem anyEm {K : PySem.W.Frag} {ρ : Rho} {M : Addr → Prop} {H : Hp} : ∀ {xs : List MV} {vs : List V}, xs.all txB = true → DenL T K ρ M H xs vs → vs.all flatV = true ∧ inV (.str emS) vs = xs.any isEm
  | _, _, c, .nil => ⟨rfl, rfl⟩
  | x :: r, _, c, .cons d1 d2 => by
    obtain ⟨c1, c2⟩ := Bool.and_eq_true_iff.mp (show (txB x && r.all txB) = true from c)
    obtain ⟨a1, a2⟩ := isEm_ok c1 d1
    obtain ⟨b1, b2⟩ := anyEm c2 d2
    refine ⟨?_, ?_⟩
    · show (flatV _ && List.all _ flatV) = true
      rw [a1, b1]; rfl
    · show (L2.eqV _ _ || inV _ _) = (isEm x || r.any isEm)
      rw [a2, b2]
theorem cInT_ok : OpS T X (rInA X.K) (cOp cInT) := fun ρ h H x y v u E ms Q s dx dy w => by
  obtain ⟨b, e, w⟩ := bO_wp w
  have w1 : Q (.bl b) H := post_bl s w
  unfold cInT at e
  split at e
  · rename_i a xs e1
    split at e
    · rename_i c
      cases e
      obtain ⟨c1, c2⟩ := Bool.and_eq_true_iff.mp c
      have ea := len0 (Nat.eq_of_beq_eq_true c1)
      subst ea
      cases dx
      obtain ⟨p, vs, rfl, r, d⟩ := den_asL s e1 dy
      obtain ⟨k1, k2⟩ := anyEm c2 d
      exact .inr (.inl ⟨p, vs, rfl, .inl (SqL.of r), rfl, k1, by rw [if_neg Bool.false_ne_true, k2]; exact w1⟩)
    · cases e
  · cases e
/-! ### a text's signs -/
def signsM (z : Str) : List MV := (TL.tl z).map fun c => .str ⟨#[c]⟩
theorem wsim_s {K : PySem.W.Frag} {ρ : Rho} {h : MH} {H : Hp} {z : Str} : WSim T K ρ h H (Its z) (signsM z) := fun ρ' h' H' l s =>
  ⟨by show z.cps.size ≤ _; unfold signsM; rw [List.length_map]; exact Nat.le_of_eq (by simp [TL.tl]), fun i x q => by
    unfold signsM at q
    rw [List.getElem?_map] at q
    cases e : (TL.tl z)[i]? with
    | none => rw [e] at q; cases q
    | some c =>
      rw [e] at q
      cases q
      have e' : z.cps[i]? = some c := by
        rw [← e]; simp [TL.tl]
      refine ⟨?_, fun v' H'' yy => ?_⟩
      · show i < z.cps.size
        exact (Array.getElem?_eq_some_iff.mp e').1
      · obtain ⟨rfl, c', e2, rfl⟩ := yy
        rw [e'] at e2
        cases e2
        exact ⟨ρ', Le.refl, s, .str _⟩⟩
def runSgn (f : RunE) : RunI := fun m h => (f m h).be (fun x h1 => match x with
  | .str z => .ret (.ok (signsM z) h1)
  | _ => .bad) exL
theorem i_sgn {tg e : Expr} {f : RunE} (he : SE T X E e f) : SI T X E tg e (runSgn f) :=
  piI (pi_str he.v) fun σ H R ⟨ρ, m, h, s1, s2, w⟩ => ⟨ρ, m, h, s1, s2, Tr.wp_mono (Tr.wp_be w) fun r q => by
    cases r with
    | ex x h1 => exact q
    | ok x h1 =>
      intro ρ1 H1 v l s d
      cases x <;> first | exact (q : False).elim | skip
      cases d
      exact ⟨_, rfl, q ρ1 H1 _ l s wsim_s⟩⟩
end
end
end WK
set_option Elab.async false
set_option linter.all false
set_option maxRecDepth 100000
/-! enumerate of a tuple -/
namespace PySem
open Sem (wp)
set_option maxHeartbeats 1000000 in
theorem wk_meets_enumerate_new1 {v : Value} {o : Obj} {H : Heap → Prop} (B : Begins v o H) :
    Meets (Builtin.«enumerate.__new__» ⟨[.type "enumerate", v], []⟩) (fun _ R s => H s.heap ∧
      R (.ok (.ret (.ref (s.heap.push o).objs.size))) { s with heap := (s.heap.push o).push { cls := .type "enumerate", data := .fields #[.none, .bool false, .ref s.heap.objs.size, rawInt 0, .none, .none] } }) :=
  .of_wp fun prog w A R s h => by
    obtain ⟨hp, g, d, tk, os⟩ := s; obtain ⟨h1, h⟩ := h
    have hsub := sub_enumerate
    have q1 : ∀ {A' : Around} {E : Value → Shared → Prop} {Q : Value → Shared → Prop}, Q (.ref hp.objs.size) ⟨hp.push o, g, d, tk, os⟩ → wpAny (model prog w) A' (pyIter v) Q E ⟨hp, g, d, tk, os⟩ :=
      fun q => B.iter prog w _ _ ⟨hp, g, d, tk, os⟩ _ h1 q
    wp_walk using q1
    refine wpAny_stack_any fun st => wpAny_pure ?_
    split
    · rename_i c _ _ _ _ _
      cases (c == Value.type "enumerate")
      · wp_walk using q1
        exact ⟨_, rfl, h⟩
      · wp_walk using q1
        exact ⟨_, rfl, h⟩
    · wp_walk using q1
      exact ⟨_, rfl, h⟩
theorem wk_enum_begins {prog : Program} {w : World} {A : Around} {E : Value → Shared → Prop} {s : Shared} {v : Value} {o : Obj} {H : Heap → Prop} {Q : Value → Shared → Prop} (B : Begins v o H) (h1 : H s.heap)
    (h : ∀ h', IsEnum h' (s.heap.objs.size + 1) s.heap.objs.size 0 .none → h'.get? s.heap.objs.size = some o → h'.objs.size = s.heap.objs.size + 2 →
      (∀ b o, s.heap.get? b = some o → h'.get? b = some o) → Q (.ref (s.heap.objs.size + 1)) { s with heap := h' }) :
    wpAny (model prog w) A (call (.type "enumerate") [v]) Q E s := by
  refine callType_new F.called_enumerate (by decide) (F.typeCall_enumerate_1 _) (F.newCall_enumerate_1 _) (fun obj => F.args_object_init_2 obj _) F.entry_enumerate_new
    (wk_meets_enumerate_new1 B) ⟨h1, ?_⟩
  have hz : (s.heap.push o).objs.size = s.heap.objs.size + 1 := Heap.size_push ..
  show _ ∧ _
  rw [hz]
  have he : IsEnum ((s.heap.push o).push { cls := .type "enumerate", data := .fields #[.none, .bool false, .ref s.heap.objs.size, rawInt 0, .none, .none] }) (s.heap.objs.size + 1) s.heap.objs.size 0 .none := by
    have := Heap.get?_push_size (s.heap.push o) (o := { cls := .type "enumerate", data := .fields #[.none, .bool false, .ref s.heap.objs.size, rawInt 0, .none, .none] }) rfl
    rw [hz] at this; exact this
  refine ⟨⟨_, he, rfl⟩, h _ he (Heap.get?_push_of_some _ (Heap.get?_push_size _ B.free)) (by rw [Heap.size_push, hz]) fun b o x => Heap.get?_push_of_some _ (Heap.get?_push_of_some _ x)⟩
end PySem
namespace WK
noncomputable section
open PySem PySem.Spec PyProof.Rows L2
/-- the tuple at a, each item in a new pair -/
def IteT (K : PySem.W.Frag) (a : Addr) : It :=
  ⟨fun i H => ∃ (xs : List V) (x : V), SqT K H a xs ∧ xs[i]? = some x, fun i H v H' => ∃ T x, v = .ref T ∧ H T = none ∧ H' = upd H T (.tup [.int (i : Nat), x]) ∧ ∀ xs, SqT K H a xs → xs[i]? = some x, fun i H => ∃ xs : List V, SqT K H a xs ∧ xs.length ≤ i⟩
theorem turn_enumT {P : Program} {w : World} {K : PySem.W.Frag} {elts : List Expr} {kk : Nat} {tpos : Pos} (a e it : Addr) :
    Turn P w K (.Tuple elts kk tpos) (IteT K a) [e, it] e (fun i h => (∃ old, IsEnum h e it ((i : Nat) : Int) old) ∧ h.IsTupleIter it a i ∧ e ≠ it ∧ a ≠ it ∧ e ≠ a) where
  mem := by simp
  obj := fun i h st b hb => by
    obtain ⟨⟨old, he⟩, ⟨o, ho, hc, hd⟩, _⟩ := st
    have e' : b = e ∨ b = it := by simpa using hb
    rcases e' with z | z
    · rw [z]; exact ⟨_, he, fun v q => nomatch q⟩
    · rw [z]; exact ⟨o, ho, fun v q => by rw [hd] at q; cases q⟩
  keep := fun i h h' st k => let ⟨⟨old, he⟩, hi, hne⟩ := st; ⟨⟨old, k e (by simp) _ he⟩, hi.at fun o q => k it (by simp) o q, hne⟩
  item := by
    intro X hP hw hK hc i pins s σ H E I hf st hg
    subst hP hw hK
    obtain ⟨⟨old, he⟩, hit, hne, hai, hea⟩ := st
    obtain ⟨xs, x, hq, hx⟩ := hg
    obtain ⟨its, rv, p, hz⟩ := I.tuple hq
    obtain ⟨u, hu, ru⟩ := rv.get hx
    have hel : e < s.heap.objs.size := Heap.lt_size he
    have hil : it < s.heap.objs.size := by obtain ⟨_, q, _⟩ := hit; exact Heap.lt_size q
    have hlt : i < its.toArray.size := by
      rw [List.size_toArray]
      exact (List.getElem?_eq_some_iff.mp hu).1
    refine wpAny_pyNext_enum_itemD (Draws.tuple (prog := X.prog) (w := X.w) (A := X.A.in1) (I.ok.hd hc) it a hai its.toArray) he ⟨hit, p⟩ hlt hne (by simp [hne, hea]) fun y h' tk hy ho hst' hT hsz hk => ?_
    obtain ⟨hit', p'⟩ := hst'
    have ey : y = u := by
      have z : its.toArray[i]? = some u := by simpa using hu
      rw [z] at hy; exact (Option.some.inj hy).symm
    subst ey
    refine ⟨_, rfl, wpAny_letOwnedTupleGo_enum (s := { s with heap := h', toks := tk + 1 }) ho fun h'' he' sb => ?_⟩
    have hT2 : h''.get? s.heap.objs.size = some { cls := .type "tuple", data := .seq #[.int i tk, y] } := (sb.2 _ (Nat.ne_of_gt hel)).trans hT
    have new : ObjOk X.prog X.w (upd H s.heap.objs.size (.tup [.int (i : Nat), x])) h'' s.heap.objs.size (.tup [.int (i : Nat), x]) :=
      ⟨by show 2 ≤ sizeLine; decide, [.int i tk, y], .cons ⟨_, rfl⟩ (.cons ru .nil), ⟨_, hT2, rfl, _, rfl⟩⟩
    have I1 : Inv X pins σ (upd H s.heap.objs.size (.tup [.int (i : Nat), x])) { s with heap := h'', toks := tk + 1 } :=
      I.turnedNew (ch := [e, it]) (fun b ob hb q => (sb.2 b (fun z => hb (by simp [z]))).trans (hk b ob (fun z => hb (by simp [z])) (fun z => hb (by simp [z])) q)) hf (Nat.le_refl _) new
    refine ⟨.ref s.heap.objs.size, _, I1, rfl, ⟨_, x, rfl, I.hok.fresh (Nat.le_refl _), rfl, fun ys hy => by rw [I.tuple_inj hy hq]; exact hx⟩, ⟨⟨y, ?_⟩, hit'.at fun o q => (sb.2 it (Ne.symm hne)).trans q, hne, hai, hea⟩, fun b hb => ?_⟩
    · have e1 : ((i + 1 : Nat) : Int) = (i : Int) + 1 := by omega
      rw [e1]; exact he'
    · have hb' : b < s.heap.objs.size := by
        have e' : b = e ∨ b = it := by simpa using hb
        rcases e' with z | z
        · rw [z]; exact hel
        · rw [z]; exact hil
      rw [upd_ne (Nat.ne_of_lt hb')]
      exact (hf b hb).1
  done := by
    intro X hP hw hK hc i pins s σ H E I hf st hg
    subst hP hw hK
    obtain ⟨⟨old, he⟩, hit, hne, hai, hea⟩ := st
    obtain ⟨xs, hq, hx⟩ := hg
    obtain ⟨its, rv, p, hz⟩ := I.tuple hq
    obtain ⟨f0, f1, f2, f3, f4, f5⟩ := hf it (by simp)
    have hl := rv.length
    obtain ⟨o1, q1, q2, q3⟩ := hit
    have D : Draws X.prog X.w X.A.in1 it [it, a] i (fun i v => its.toArray[i]? = some v) (fun j h => j = i ∧ h.IsTupleIter it a i ∧ h.IsTuple a its.toArray) :=
      ⟨fun _ _ st => let ⟨_, ⟨o, ho, _⟩, _⟩ := st; ⟨o, ho⟩, fun j h h' st k => ⟨st.1, st.2.1.at fun o e => k it (by simp) o e, st.2.2.at fun o e => k a (by simp) o e⟩, fun j s Q E hj st hQ => absurd st.1 (Nat.ne_of_lt hj),
        fun s Q E st hQ => wpAny_nextOf_tuple_end (I.ok.hd hc) st.2.1 st.2.2 (by simp; omega) hQ⟩
    exact wpAny_pyNext_enum_endD D he ⟨rfl, ⟨o1, q1, q2, q3⟩, p⟩ fun h' eb => ⟨rfl, I.turned (t' := s.toks) (fun b o hb q => eb b o hb q) f0 f1 f3 f4 f5⟩
  self := fun A i s Q E st h => let ⟨⟨_, he⟩, _⟩ := st; wpAny_pyIter_enum he h
def iEnumT (K : PySem.W.Frag) (ta : TA) : TI := fun σ H R => ta σ H fun vs H1 => ∃ a xs, vs = [.ref a] ∧ SqT K H1 a xs ∧ R (IteT K a) H1
theorem pi_enumT {X : Cx} {e : Expr} {ta : TA} {p pos tpos : Pos} {elts : List Expr} {kk : Nat} (hg : Gl X "enumerate") (hm : X.mg "enumerate" = none) (ha : PA X [e] ta) (hs : starEach [e] X.env = [(false, eval e X.env)]) :
    PI X (.Tuple elts kk tpos) (.Call (.Name "enumerate" p) [e] [] pos) (iEnumT X.K ta) := by
  refine ⟨fun pins s σ H R I h => ?_⟩
  refine Call_ (ld_blt I hg hm boot_enumerate (PyProof.Rows.callWith_type1 (thn (ha.run pos pins s σ H _ I h) fun us s1 ⟨vs, H1, I1, r1, q1⟩ => ?_) hs rfl))
  obtain ⟨a, xs, ex, hq, q⟩ := q1
  subst ex
  cases r1 with
  | cons r rr =>
    cases rr
    cases r
    obtain ⟨its, rv, p', hz⟩ := I1.tuple hq
    have hal : a < s1.heap.objs.size := by obtain ⟨_, q, _⟩ := p'; exact Heap.lt_size q
    refine wk_enum_begins (begins_tuple a its.toArray) (show s1.heap.IsTuple a its.toArray from p') fun h' he hit hsz hk => wpAny_pyIter_enum he ?_
    have I2 : Inv X pins σ H1 { s1 with heap := h' } := I1.kept (t' := s1.toks) hk
    refine ⟨s1.heap.objs.size + 1, [s1.heap.objs.size + 1, s1.heap.objs.size], _, _, H1, rfl, I2, turn_enumT a (s1.heap.objs.size + 1) s1.heap.objs.size, ⟨⟨.none, he⟩, ⟨_, hit, rfl, rfl⟩, Nat.succ_ne_self _, Nat.ne_of_lt hal, Nat.ne_of_gt (Nat.lt_succ_of_lt hal)⟩, fun b hb => ?_, q⟩
    have e' : b = s1.heap.objs.size + 1 ∨ b = s1.heap.objs.size := by simpa using hb
    have hle : s1.heap.objs.size ≤ b := by
      rcases e' with z | z
      · rw [z]; exact Nat.le_add_right _ _
      · rw [z]; exact Nat.le_refl _
    exact I1.fpOk hle (I1.hok.fresh hle)
section
variable {T : Tb} {X : Cx} {E : XW}
theorem wsim_eT {K : PySem.W.Frag} {ρ : Rho} {h : MH} {H : Hp} {xs : List MV} {vs : List V} {a : Addr} (k : ∀ ρ' h' H', Le ρ h H ρ' h' H' → SqT K H' a vs) (d : DenL T K ρ (Mu ρ h) H xs vs) : WSim T K ρ h H (IteT K a) (enumM 0 xs) := fun ρ' h' H' l s =>
  have e' := k ρ' h' H' l
  ⟨⟨vs, e', by rw [enumM_len, d.length]; exact Nat.le_refl _⟩, fun i z q => by
    obtain ⟨x, h1, rfl⟩ := enumM_at q
    obtain ⟨v, q1, q2⟩ := (d.le l).nthE h1
    refine ⟨⟨vs, v, e', q1⟩, fun v' H'' yy => ?_⟩
    obtain ⟨T', x', rfl, hn, rfl, k1⟩ := yy
    have z1 := k1 vs e'
    rw [q1] at z1; cases z1
    rw [Nat.zero_add]
    exact den_pair s hn (.int _) q2⟩
def runEnumT (f : RunE) : RunI := fun m h => (f m h).be (fun x h1 => match x with
  | .tup xs => .ret (.ok (enumM 0 xs) h1)
  | _ => .bad) exL
theorem i_enumT {e : Expr} {f : RunE} {p pos tpos : Pos} {elts : List Expr} {kk : Nat} (hg : Gl X "enumerate") (hm : X.mg "enumerate" = none) (he : SE T X E e f) (hs : notStar e = true) : SI T X E (.Tuple elts kk tpos) (.Call (.Name "enumerate" p) [e] [] pos) (runEnumT f) :=
  piI (pi_enumT hg hm (pa_cons he.v pa_nil (star_cons hs)) (star_cons hs)) fun σ H R ⟨ρ, m, h, s1, s2, w⟩ => ⟨ρ, m, h, s1, s2, Tr.wp_mono (Tr.wp_be w) fun r q => by
    cases r with
    | ex x h1 => exact q
    | ok x h1 =>
      intro ρ1 H1 v l s d
      cases x <;> first | exact (q : False).elim | skip
      obtain ⟨a, vs, rfl, r, k, d1⟩ := den_tupL d
      exact ⟨_, _, rfl, r, q ρ1 H1 _ l s (wsim_eT k d1)⟩⟩
end
end
end WK
set_option Elab.async false
set_option linter.all false
set_option maxRecDepth 100000
set_option maxHeartbeats 2000000
/-! len({e for t in xs}), e an int (the road of HandS' set comprehensions of tests, turned to ints) -/
namespace WK
noncomputable section
open PySem PySem.Spec PyProof.Rows L2
section
variable {X : Cx}
theorem addI_ok {pins : List (Addr × Obj)} {σ : L2.St} {H : Hp} {s : Shared} {E : Value → Shared → Prop} {D : Addr} {S : Int → Bool} {n : Nat} {y : Int} {tk : Tok} {Q : Value → Shared → Prop} (I : Inv X pins σ H s) (hD : H D = some (SetO X.w D S n)) (room : n + 1 < scanBound)
    (h : ∀ s', Inv X pins σ (upd H D (SetO X.w D (fun j => S j || decide (j = y)) (if S y = true then n else n + 1))) s' → Q .none s') : wpAny (model X.prog X.w) X.A (call (.builtin "set.add") [.ref D, .int y tk]) Q E s := by
  have R := setO_get I hD
  refine setR_add R room fun h' sb new => ?_
  have he : ∃ u, h'.get? D = some u := by
    have ⟨o, _, _, _, ho, _⟩ := new
    exact ⟨o, ho⟩
  exact h _ (I.write (e := D) (t' := s.toks + 1) (by rw [hD]; trivial) (.inl rfl) (fun b u hb hu => (sb.2 b hb).trans hu) he (setO_new new))
theorem call_len_setI : CallR X (.builtin "len") (fun xs H Q => ∃ (D : Addr) (S : Int → Bool) (n : Nat), xs = [.ref D] ∧ H D = some (SetO X.w D S n) ∧ Q (.int n) H) := by
  intro pins s σ H xs us Q I r q
  obtain ⟨D, S, n, rfl, hD, q⟩ := q
  obtain ⟨u, rfl, rx⟩ := vals1 r
  cases rx
  obtain ⟨o, es, ep, t, ho, hex, hd, _, _, _, hb, hf, hn, _⟩ := setO_get I hD
  have h63 : (es.size : Int) < 2 ^ 63 := by
    have : scanBound ≤ 2 ^ 62 := by decide
    omega
  exact call_len_set ho hex hd hf h63 ⟨.int n, H, I.tok _, ⟨_, by rw [hn]⟩, q⟩
end
section
variable {X : Cx}
/-- {elt for target in iter if ..}, elt an int: D the new set -/
def tScI (w : World) (wi : TI) (g : TG) (tt : TT) (te : TE) (vs : List Nat) : TE := fun σ H Q => wi σ H fun J H1 => ∀ D, H1 D = none → ∃ W : Nat → Nat → Hp → Prop, (∃ m, W 0 m (upd H1 D (SetO w D (fun _ => false) 0))) ∧ ∀ i m H, W i m H →
  (J.stop i H ∧ Q (.ref D) H) ∨ (J.go i H ∧ ∃ Nx : Hp → Prop, (∀ H', Nx H' → ∃ m', m' < m ∧ W (i + 1) m' H') ∧ ∀ x H', J.yld i H x H' → g x (wipe σ vs) H' fun σ2 H2 => wipe σ2 vs = wipe σ vs ∧ tt σ2 H2 fun b H3 =>
    if b = true then te σ2 H3 fun y H4 => ∃ (c : Int) (S : Int → Bool) (n : Nat), y = .int c ∧ H4 D = some (SetO w D S n) ∧ n + 1 < scanBound ∧ Nx (upd H4 D (SetO w D (fun j => S j || decide (j = c)) (if S c = true then n else n + 1))) else Nx H3)
theorem sc_coreI {pins : List (Addr × Obj)} {s : Shared} {σ : L2.St} {H : Hp} {Q : VK} {elt tg iter : Expr} {ifs : List Expr} {scope : Scope} {own : List (PySem.Str × Nat)} {pos pos' : Pos} {wi : TI} {g : TG} {tt : TT} {te : TE} {use : Option (Value → Sem Unit)} {Qf : Value → Shared → Prop}
    (hc : X.calm = true) (hN : X.N.Nodup) (I : Inv X pins σ H s) (hi : PI X tg iter wi) (ok : BlkOk X.N X.env.scope scope own)
    (hg : ∀ (s : Shared) (H : Hp) (C : Addr) (cl : List (PySem.Str × Addr)) (fp : List Addr), PG (X.blk s H scope (compEnvC scope cl C X.env) fp) tg g) (ht : ∀ (s : Shared) (H : Hp) (C : Addr) (cl : List (PySem.Str × Addr)) (fp : List Addr), PTs (X.blk s H scope (compEnvC scope cl C X.env) fp) ifs tt)
    (he : ∀ (s : Shared) (H : Hp) (C : Addr) (cl : List (PySem.Str × Addr)) (fp : List Addr), PE (X.blk s H scope (compEnvC scope cl C X.env) fp) elt te) (hs : ∀ x, foldedSetIterable iter X.env x = pure x)
    (h : tScI X.w wi g tt te (own.map (·.2)) σ H Q)
    (hRR : ∀ D C s' m H', Inv X pins σ H' s' → Q (.ref D) H' → s'.heap.Ns C m → FpOk X pins H' C → compPost (model X.prog X.w) X.A X.xe use Qf (.ref D) C (.ok .next) s') :
    wpAny (model X.prog X.w) X.A (comprehension (.SetComp elt [⟨tg, iter, ifs, 0⟩] scope pos) scope X.env pos' (newSet (.type "set")) false (eval iter X.env) use) Qf X.xe s := by
  have hfree : ∀ y ∈ scope.names, y.2 = .free → ∃ c, X.env.cells.lookup y.1 = some c := fun y hy e => by
    rcases ok.free y hy e with k | k
    · exact I.ok.has _ (.inl k)
    · exact I.ok.has _ (.inr k)
  refine wpAny_comprehension_free (use := use) rfl hs (closure_ok hfree) ok.kind (fun y hy e => by rw [ok.uniq y hy, e])
    (thn (hi.run pins s σ H _ I h) fun xv s1 hx => thn hx fun itv s2 h2 => ?_)
  obtain ⟨it, fp, tn, J, H2, e, I2, T, st2, f2, q⟩ := h2
  subst e
  refine PpSet.newSet_ok (newEnv_comp ?_)
  generalize hD : s2.heap.objs.size = D
  have hDn : H2 D = none := I2.hok.fresh (Nat.le_of_eq hD)
  obtain ⟨W, ⟨m0, w0⟩, turn⟩ := q D hDn
  -- the new list
  generalize hs3 : ({ s2 with heap := s2.heap.push { cls := .type "set", dict := none, data := .set #[] 0 (.fresh 0 0 (!X.w.params.followText "set-order")) } } : Shared) = s3
  have I3 : Inv X pins σ (upd H2 D (SetO X.w D (fun _ => false) 0)) s3 := by
    rw [← hs3]
    refine I2.laid (t' := s2.toks) (fun b o e => Heap.get?_push_of_some _ e) (Nat.le_of_eq hD) ?_
    rw [← hD]
    exact setO_new (setR_fresh X.w)
  have h3 : s3.heap = s2.heap.push { cls := .type "set", dict := none, data := .set #[] 0 (.fresh 0 0 (!X.w.params.followText "set-order")) } := by rw [← hs3]
  have sz : ∀ b ∈ fp, b < s2.heap.objs.size := fun b hb => by
    obtain ⟨o, e, _⟩ := T.obj _ _ st2 b hb
    exact Heap.lt_size e
  have f3 : ∀ b ∈ fp, FpOk X pins (upd H2 D (SetO X.w D (fun _ => false) 0)) b ∧ b < s3.heap.objs.size := fun b hb => by
    have hlt := sz b hb
    refine ⟨⟨?_, (f2 b hb).2⟩, by rw [h3, Heap.size_push]; exact Nat.lt_succ_of_lt hlt⟩
    rw [upd_ne (by rw [← hD]; exact Nat.ne_of_lt hlt)]
    exact (f2 b hb).1
  have st3 : tn 0 s3.heap := T.keep _ _ _ st2 fun b _ o e => by rw [h3]; exact Heap.get?_push_of_some _ e
  have I4 := block_start I3 ok hN f3
  have pg := hg s3 (upd H2 D (SetO X.w D (fun _ => false) 0)) s3.heap.objs.size (cellsFrom (s3.heap.objs.size + 1) scope.names (cloFrom X.env.cells scope.names [])) fp
  have pt := ht s3 (upd H2 D (SetO X.w D (fun _ => false) 0)) s3.heap.objs.size (cellsFrom (s3.heap.objs.size + 1) scope.names (cloFrom X.env.cells scope.names [])) fp
  have pe := he s3 (upd H2 D (SetO X.w D (fun _ => false) 0)) s3.heap.objs.size (cellsFrom (s3.heap.objs.size + 1) scope.names (cloFrom X.env.cells scope.names [])) fp
  show codeAny _ _ (.compStart (.SetComp elt [⟨tg, iter, ifs, 0⟩] scope pos) 0 (.ref it) (.ref D) (compEnvC scope (cellsFrom (s3.heap.objs.size + 1) scope.names (cloFrom X.env.cells scope.names [])) s3.heap.objs.size X.env)) (compPost (model X.prog X.w) X.A X.xe use Qf (.ref D) s3.heap.objs.size) { s3 with heap := pushCells (s3.heap.push { cls := .type "dict", data := .dict #[] }) scope.names }
  have nfp : ∀ b ∈ fp, (upd H2 D (SetO X.w D (fun _ => false) 0)) b = none := fun b hb => (f3 b hb).1.1
  generalize hce : compEnvC scope (cellsFrom (s3.heap.objs.size + 1) scope.names (cloFrom X.env.cells scope.names [])) s3.heap.objs.size X.env = ce at I4 pg pt pe ⊢
  have cL : ce.locals = s3.heap.objs.size := by subst hce; rfl
  generalize hH3 : upd H2 D (SetO X.w D (fun _ => false) 0) = H3 at I3 I4 pg pt pe w0 nfp f3
  generalize hs4 : ({ s3 with heap := pushCells (s3.heap.push { cls := .type "dict", data := .dict #[] }) scope.names } : Shared) = s4 at I4 ⊢
  have st4 : tn 0 s4.heap := T.keep _ _ _ st3 fun b _ o e => by rw [← hs4]; exact pushCells_keeps _ _ _ _ (Heap.get?_push_of_some _ e)
  have stat : ∀ {σ' : L2.St} {H' : Hp} {s' : Shared}, Inv (X.blk s3 H3 scope ce fp) [] σ' H' s' → (∀ b ∈ fp, H' b = none) → ∀ b ∈ fp, FpOk (X.blk s3 H3 scope ce fp) [] H' b := fun {σ' H' s'} I' hn b hb =>
    ⟨hn b hb, (I'.ok.exf b hb).1, I'.ok.exfs b hb, .inl hb, fun x c e => (I'.ok.exf b hb).2 x c e, fun p hp => absurd (show p ∈ ([] : List (Addr × Obj)) ++ [] from hp) (by simp)⟩
  have loop : codeAny (model X.prog X.w) X.A (.compLoop (.SetComp elt [⟨tg, iter, ifs, 0⟩] scope pos) 0 (.ref it) (.ref D) ce) (compPost (model X.prog X.w) X.A X.xe use Qf (.ref D) s3.heap.objs.size) s4 := by
    refine PpSet.compLoopS_any (fun n s' => ∃ i H', Inv (X.blk s3 H3 scope ce fp) [] (wipe σ (own.map (·.2))) H' s' ∧ tn i s'.heap ∧ (∀ b ∈ fp, H' b = none) ∧ W i n H') ?_ m0 ⟨0, H3, I4, st4, nfp, w0⟩
    rintro n s5 ⟨i, H5, I5, st5, n5, w5⟩
    rcases turn i n H5 w5 with ⟨stop, qq⟩ | ⟨go, Nx, hNx, step⟩
    · have td := T.done (X.blk s3 H3 scope ce fp) rfl rfl rfl hc i [] s5 _ H5 (fun _ _ => False) I5 (stat I5 n5) st5 stop
      refine thnF td fun r s6 ⟨hr, I6⟩ => ?_
      subst hr
      -- back in the def's context
      have I7 : Inv X pins σ H5 s6 := I3.call' (ch := fp) I6.os I6.base I6.hok I6.bare fun b hb => ⟨(f3 b hb).1.2.2.2.1, (f3 b hb).1.2.1, (f3 b hb).1.2.2.2.2.1, (f3 b hb).1.2.2.2.2.2⟩
      have nC : H5 s3.heap.objs.size = none := by
        have z : H5 ce.locals = none := I6.free
        rw [cL] at z
        exact z
      obtain ⟨m, hn, _⟩ := I6.loc
      have hn : s6.heap.Ns ce.locals m := hn
      rw [cL] at hn
      exact hRR D s3.heap.objs.size s6 m H5 I7 qq hn (I3.fpOk (Nat.le_refl _) nC)
    · have ti := T.item (X.blk s3 H3 scope ce fp) rfl rfl rfl hc i [] s5 _ H5 (fun _ _ => False) I5 (stat I5 n5) st5 go
      refine thnF ti fun r s6 ⟨u, hr, h6⟩ => ?_
      subst hr
      refine thnF h6 fun _ s7 ⟨x, H7, I7, r7, y7, st7, n7⟩ => ?_
      have I7' := I7.pinned (stat I7 n7) (T.obj _ _ st7)
      refine thnF (pg.run _ s7 _ H7 x u _ I7' r7 (step x H7 y7)) fun _ s8 ⟨σ8, H8, I8, hw8, q8⟩ => ?_
      refine thnF (pt.run _ s8 σ8 H8 _ I8 q8) fun b s9 ⟨H9, I9, q9⟩ => ?_
      -- the turn's end
      have fin : ∀ {s' : Shared} {H' : Hp}, Inv (X.blk s3 H3 scope ce fp) ([] ++ pinsAt fp s7.heap) σ8 H' s' → Nx H' → ∃ m, m < n ∧ ∃ i H', Inv (X.blk s3 H3 scope ce fp) [] (wipe σ (own.map (·.2))) H' s' ∧ tn i s'.heap ∧ (∀ b ∈ fp, H' b = none) ∧ W i m H' := fun {s' H'} I' nx => by
        obtain ⟨m', hm, w'⟩ := hNx H' nx
        have pin' : ∀ b ∈ fp, ∀ o, s7.heap.get? b = some o → s'.heap.get? b = some o ∧ H' b = none := fun b hb o e =>
          let z := I'.pin (b, o) (List.mem_append_right _ (List.mem_append_right _ (mem_pinsAt hb e)))
          ⟨z.1, z.2.1⟩
        have hl : (wipe σ (own.map (·.2))).length = σ8.length := by rw [← hw8, wipe_length]
        refine ⟨m', hm, i + 1, H', (I'.unpinned (pins := [])).weak hl (fun j v e => ?_), T.keep _ _ _ st7 fun b hb o e => (pin' b hb o e).1, fun b hb => ?_, w'⟩
        · rw [← hw8] at e
          exact (wipe_some e).1
        · obtain ⟨o, e, _⟩ := T.obj _ _ st7 b hb
          exact (pin' b hb o e).2
      cases b with
      | false =>
        simp only [Bool.false_eq_true, if_false] at q9 ⊢
        exact fin I9 q9
      | true =>
        simp only [if_true] at q9 ⊢
        refine thnF (pe.run _ s9 σ8 H9 _ I9 q9) fun z s10 ⟨yv, H10, I10, r10, cb, S0, n0, ey, hD10, hz10, nx⟩ => ?_
        subst ey
        obtain ⟨tkz, rfl⟩ := (show ∃ t, z = Value.int cb t from r10)
        exact addI_ok (X := X.blk s3 H3 scope ce fp) I10 hD10 hz10 fun s11 I11 => fin I11 nx
  exact PpSet.codeAny_compStart_set loop (T.self X.A 0 _ _ _ st4 loop)
/-- as a value -/
theorem pe_scI {elt tg iter : Expr} {ifs : List Expr} {scope : Scope} {own : List (PySem.Str × Nat)} {pos : Pos} {wi : TI} {g : TG} {tt : TT} {te : TE} (hc : X.calm = true) (hN : X.N.Nodup) (hi : PI X tg iter wi) (ok : BlkOk X.N X.env.scope scope own)
    (hg : ∀ (s : Shared) (H : Hp) (C : Addr) (cl : List (PySem.Str × Addr)) (fp : List Addr), PG (X.blk s H scope (compEnvC scope cl C X.env) fp) tg g) (ht : ∀ (s : Shared) (H : Hp) (C : Addr) (cl : List (PySem.Str × Addr)) (fp : List Addr), PTs (X.blk s H scope (compEnvC scope cl C X.env) fp) ifs tt)
    (he : ∀ (s : Shared) (H : Hp) (C : Addr) (cl : List (PySem.Str × Addr)) (fp : List Addr), PE (X.blk s H scope (compEnvC scope cl C X.env) fp) elt te) (hs : ∀ x, foldedSetIterable iter X.env x = pure x := by intro _; rfl) :
    PE X (.SetComp elt [⟨tg, iter, ifs, 0⟩] scope pos) (tScI X.w wi g tt te (own.map (·.2))) := by
  refine ⟨fun pins s σ H Q I h => ?_⟩
  rw [PpSet.eval_SetComp]
  refine sc_coreI hc hN I hi ok hg ht he hs h fun D C s' m H' I' q hn f => ⟨m, hn, fun h'' sb => ?_⟩
  obtain ⟨f0, f1, f2, f3, f4, f5⟩ := f
  exact ⟨.ref D, H', I'.turned (t' := s'.toks) (fun b o hb e => (sb.2 b hb).trans e) f0 f1 f3 f4 f5, rfl, q⟩
end

def addI (acc : List Int) (c : Int) : List Int := match acc.any fun j => decide (j = c) with
  | true => acc
  | false => c :: acc
/-- the set's members in turn -/
def loopSet (g : RunG) (f : RunE) (items : List MV) : MS → MH → List Int → Tr ER := List.rec (motive := fun _ => MS → MH → List Int → Tr ER) (fun _ h acc => okE (.int acc.length) h)
  (fun x _ ih m h acc => Tr.bg (g x m h) (fun m1 h1 => (f m1 h1).be (fun y h3 => match y with
    | .int c => ih m h3 (addI acc c)
    | _ => .bad) (fun _ _ => .bad)) (fun _ _ _ => .bad)) items
def runLenSet (it : RunI) (g : RunG) (f : RunE) : RunE := fun m h => Tr.bl (it m h) (fun xs h1 => ifT (leB xs.length 60) (loopSet g f xs m h1 [])) exE
section
variable {T : Tb} {X : Cx} {E : XW}
theorem any_dec {acc : List Int} {c : Int} : (acc.any fun j => decide (j = c)) = true ↔ c ∈ acc := by
  rw [List.any_eq_true]
  constructor
  · rintro ⟨x, h1, h2⟩
    rw [← of_decide_eq_true h2]; exact h1
  · exact fun h => ⟨c, h, decide_eq_true rfl⟩
theorem addI_len {acc : List Int} {c : Int} : (addI acc c).length ≤ acc.length + 1 := by
  unfold addI
  split
  · omega
  · rw [List.length_cons]; omega
theorem t_sc {it : RunI} {g : RunG} {tg : TG} {f : RunE} {vs : List Nat} (gc : GC T X.K tg g vs) (σ : L2.St) (H : Hp) (Q : VK) (w : tE T X.K E (runLenSet it g f) σ H Q) : tScI X.w (tI T X.K E it) tg tYes (tE T X.K EF f) vs σ H (fun v H1 => ∃ (D : Addr) (S : Int → Bool) (n : Nat), [v] = [.ref D] ∧ H1 D = some (SetO X.w D S n) ∧ Q (.int n) H1) := by
  obtain ⟨ρ, m, h, s1, s2, w⟩ := w
  refine ⟨ρ, m, h, s1, s2, Tr.wp_mono (Tr.wp_bl w) fun r q => ?_⟩
  cases r with
  | ex x h1 => exact q
  | ok xs h1 =>
    intro ρ1 H1 J l1 s1' ws D nD
    obtain ⟨cs, q⟩ := ifT_wp q
    have csz := leB_ok cs
    refine ⟨fun i k H2 => ∃ ρ2 h2 acc, k = xs.length - i ∧ i ≤ xs.length ∧ acc.length ≤ i ∧ Le ρ1 h1 H1 ρ2 h2 H2 ∧ SimH T X.K ρ2 h2 H2 ∧ ρ2.amb D ∧ (∀ a, ρ1.amb a → ρ2.amb a) ∧ (∃ S, H2 D = some (SetO X.w D S acc.length) ∧ ∀ k, S k = true ↔ k ∈ acc) ∧ (loopSet g f (xs.drop i) m h2 acc).wp (postE T X.K E m ρ1 h1 H1 Q),
      ⟨xs.length, rhoA ρ1 D, h1, [], rfl, Nat.zero_le _, Nat.zero_le _, Le.apart nD, s1'.apart nD, .inr rfl, fun _ z => .inl z, ⟨_, upd_same, fun k => by simp⟩, Tr.wp_mono q (postE.le l1)⟩, ?_⟩
    rintro i k H2 ⟨ρ2, h2, acc, rfl, hi, ha, l2, t2, aD, am, ⟨S, eD, hS⟩, w2⟩
    have sm := (s2.le l1).le l2
    cases e : xs.drop i with
    | nil =>
      have hl : xs.length ≤ i := List.drop_eq_nil_iff.mp e
      have hl2 : i = xs.length := by omega
      subst hl2
      obtain ⟨z1, z2⟩ := ws ρ2 h2 H2 l2 t2
      rw [e] at w2
      refine .inl ⟨z1, D, S, acc.length, rfl, eD, ?_⟩
      have w3 : (okE (.int acc.length) h2).wp (postE T X.K E m ρ1 h1 H1 Q) := w2
      have lU : Le ρ1 h1 H1 (rhoU ρ2 ρ1.amb) h2 H2 := ⟨l2.ext, l2.exv, l2.nxt, fun _ z => z, fun _ z => .inl z, l2.own, l2.keep, l2.live⟩
      exact w3 _ H2 _ lU (t2.unamb am) (.int _)
    | cons x rest =>
      obtain ⟨e1, e2⟩ := drop_cons e
      have hlt : i < xs.length := (List.getElem?_eq_some_iff.mp e1).1
      obtain ⟨_, z2⟩ := ws ρ2 h2 H2 l2 t2
      obtain ⟨go, yl⟩ := z2 i x e1
      rw [e] at w2
      refine .inr ⟨go, fun H' => ∃ ρ' h' acc', acc'.length ≤ i + 1 ∧ Le ρ1 h1 H1 ρ' h' H' ∧ SimH T X.K ρ' h' H' ∧ ρ'.amb D ∧ (∀ a, ρ1.amb a → ρ'.amb a) ∧ (∃ S, H' D = some (SetO X.w D S acc'.length) ∧ ∀ k, S k = true ↔ k ∈ acc') ∧ (loopSet g f (xs.drop (i + 1)) m h' acc').wp (postE T X.K E m ρ1 h1 H1 Q),
        fun H' ⟨ρ', h', acc', a1, a2, a3, a4, a5, a6, a8⟩ => ⟨xs.length - (i + 1), by omega, ρ', h', acc', rfl, hlt, a1, a2, a3, a4, a5, a6, a8⟩, fun v H3 y => ?_⟩
      obtain ⟨ρ3, l3, t3, d3⟩ := yl v H3 y
      have keepD : ∀ {ρ' h' H' H''} {ρ'' : Rho} {h'' : MH} {S : Int → Bool} {n : Nat}, Le ρ' h' H' ρ'' h'' H'' → SimH T X.K ρ' h' H' → ρ'.amb D → H' D = some (SetO X.w D S n) → H'' D = some (SetO X.w D S n) := fun {ρ' h' H' H'' ρ'' h'' S n} l t a e => l.keep D _ e (fun z => t.dis D z a) rfl
      have w4 : (Tr.bg (g x m h2) (fun m1 h1' => (f m1 h1').be (fun y h3 => match y with
        | .int c => loopSet g f rest m h3 (addI acc c)
        | _ => .bad) (fun _ _ => .bad)) (fun _ _ _ => (.bad : Tr ER))).wp _ := w2
      refine gc ρ3 m h2 x σ H3 v _ t3 (sm.le l3) d3 (Tr.wp_mono (Tr.wp_bg w4) fun r' q3 => ?_)
      cases r' with
      | ex _ _ _ => exact q3.elim
      | ok m4 h4 =>
        intro σ4 e4 s4 wip
        subst e4
        refine ⟨wip, ?_⟩
        unfold tYes; show ite _ _ _
        rw [if_pos rfl]
        refine ⟨ρ3, m4, h4, t3, s4, Tr.wp_mono (Tr.wp_be q3) fun r' q6 => ?_⟩
        cases r' with
        | ex _ _ => exact q6.elim
        | ok y h6 =>
          intro ρ6 H6 vy l6 t6 dy
          cases y <;> first | exact (q6 : False).elim | skip
          rename_i c
          cases dy
          have a3 := l3.amb D aD
          have e3 := keepD l3 t2 aD eD
          have a6 := l6.amb D a3
          have e6 := keepD l6 t3 a3 e3
          have lB := l2.trans (l3.trans l6)
          have q7 : (loopSet g f rest m h6 (addI acc c)).wp (postE T X.K E m ρ1 h1 H1 Q) := q6
          refine ⟨c, S, acc.length, rfl, e6, ?_, ρ6, h6, addI acc c, Nat.le_trans addI_len (by omega), ?_, t6.grow a6 e6 rfl, a6, fun a z => l6.amb a (l3.amb a (am a z)), ⟨fun j => S j || decide (j = c), ?_, fun k => ?_⟩, by rw [e2]; exact q7⟩
          · have : 62 < scanBound := by decide
            omega
          · exact ⟨lB.ext, lB.exv, lB.nxt, lB.amb, lB.amb2, lB.own, fun a o ea n t => by
              rw [upd_ne (ne_of_none ea nD)]; exact lB.keep a o ea n t, fun a o ea => by
              obtain ⟨u, eu⟩ := lB.live a o ea
              exact ⟨u, by rw [upd_ne (ne_of_none ea nD)]; exact eu⟩⟩
          · rw [upd_same]
            have hn : (if S c = true then acc.length else acc.length + 1) = (addI acc c).length := by
              unfold addI
              by_cases z : c ∈ acc
              · rw [if_pos ((hS c).mpr z), any_dec.mpr z]
              · rw [if_neg (fun q => z ((hS c).mp q))]
                cases q : acc.any fun j => decide (j = c) with
                | true => exact absurd (any_dec.mp q) z
                | false => rfl
            rw [hn]
          · unfold addI
            cases q : acc.any fun j => decide (j = c) with
            | true =>
              have z := any_dec.mp q
              constructor
              · intro y
                rcases Bool.or_eq_true_iff.mp y with y | y
                · exact (hS k).mp y
                · rw [of_decide_eq_true y]; exact z
              · exact fun y => Bool.or_eq_true_iff.mpr (.inl ((hS k).mpr y))
            | false =>
              constructor
              · intro y
                rcases Bool.or_eq_true_iff.mp y with y | y
                · exact List.mem_cons_of_mem _ ((hS k).mp y)
                · rw [of_decide_eq_true y]; exact List.mem_cons_self
              · intro y
                rcases List.mem_cons.mp y with y | y
                · exact Bool.or_eq_true_iff.mpr (.inr (decide_eq_true y))
                · exact Bool.or_eq_true_iff.mpr (.inl ((hS k).mpr y))
theorem s_lenSet {elt tg iter : Expr} {scope : Scope} {own : List (Str × Nat)} {pos p cpos : Pos} {it : RunI} {g : RunG} {t : TG} {f : RunE} (hc : X.calm = true) (hN : X.N.Nodup) (hgl : Gl X "len") (hml : X.mg "len" = none) (hi : SI T X E tg iter it) (ok : BlkOk X.N X.env.scope scope own)
    (hg : ∀ (s : Shared) (H : Hp) (C : Addr) (cl : List (Str × Addr)) (fp : List Addr), PG (X.blk s H scope (compEnvC scope cl C X.env) fp) tg t) (gc : GC T X.K t g (own.map (·.2)))
    (he : ∀ (s : Shared) (H : Hp) (C : Addr) (cl : List (Str × Addr)) (fp : List Addr), SE T (X.blk s H scope (compEnvC scope cl C X.env) fp) EF elt f) (hs : ∀ x, foldedSetIterable iter X.env x = pure x) :
    SE T X E (.Call (.Name "len" p) [.SetComp elt [⟨tg, iter, [], 0⟩] scope pos] [] cpos) (runLenSet it g f) :=
  .ofV (peI (pe_callB call_len_setI hgl hml boot_len (pa_cons (pe_scI hc hN hi ok hg (fun _ _ _ _ _ => pts_nil) (fun s H C cl fp => (he s H C cl fp).v) hs) pa_nil rfl) (by decide) (by decide) rfl (by rw [backTo_any]; rfl)) fun σ H Q w => t_sc gc σ H Q w) fun _ => rfl
end
end
end WK
set_option Elab.async false
set_option linter.all false
set_option maxRecDepth 100000
set_option maxHeartbeats 2000000
/-! len(x), x an instance whose class has a def __len__ -/
namespace WK
noncomputable section
open PySem PySem.Spec PyProof.Rows L2
section
variable {X : Cx} {g C : Addr} {n : Nat} {sp : Sp} {E : XK}
theorem call_lenOwn {CX : CXT} (hs : PySem.W.findIn X.K (.ref C) "__len__" = some (some (.ref g))) (hf : PySem.W.isFn X.K (.ref g) = true) (F : FnR X.prog X.w X.K X.mg X.base CX n g sp) (hr : Room (n + 1) X.A) (hx : Passes CX X E) :
    CallR X (.builtin "len") (fun xs H Q => ∃ a dx fs, xs = [V.ref a] ∧ H a = some (.ins C dx fs) ∧ sp [.ref a] H (fun z H' => ∃ i : Int, z = .int i ∧ 0 ≤ i ∧ i < 2 ^ 62 ∧ Q z H') E) := by
  intro pins s σ H xs us Q I r h
  obtain ⟨a, dx, fs, rfl, ea, q⟩ := h
  obtain ⟨u, rfl, ru⟩ := r.one
  cases (show u = Value.ref a from ru)
  obtain ⟨mA, O, _, _, _, _⟩ := ins_get I.hok ea
  obtain ⟨od, J, _⟩ := O.look
  have hr2 : Room n X.A.in1 := Room.in1 hr
  refine Calls.call_function_entry kind_len plain_len entry_len (args_len1 _) ?_
  unfold Builtin.«len»
  refine wpAny_bind (m := oneArg "len" _) (wpAny_pure ?_)
  refine wpAny_bind (m := callSpecial? (.ref a) (PySem.Str.ofString "__len__")) (PySem.W.special_fn I.kIn J hs (beq_iff_eq.mp hf) (wpAny_mono (wpAny_call (SlX.run_at (us := [.ref a]) (ws := [.ref a]) F hr2 I.env0.in1 hx I (.cons rfl .nil) q)) (fun w s' z => ?_) fun _ _ x => x))
  obtain ⟨z', H', I', rz, i, ei, h0, h1, qz⟩ := z
  subst ei
  obtain ⟨t, e⟩ := (show ∃ t, w = Value.int i t from rz)
  cases e
  refine wpAny_bind (wpAny_holding (wpAny_pure ?_))
  refine wpAny_bind (wpAny_letGo ?_)
  show wpAny _ _ (if i < 0 then _ else _) _ _ _
  rw [if_neg (by omega)]
  show wpAny _ _ (if i ≥ 2 ^ 63 then _ else _) _ _ _
  rw [if_neg (by omega)]
  exact wpAny_bind (wpAny_mkInt (wpAny_pure ⟨_, rfl, .int i, H', I'.tok _, ⟨_, rfl⟩, qz⟩))
end
section
variable {T : Tb} {X : Cx} {E : XW}
def LenOk (T : Tb) (X : Cx) (d : Nat) (tbl : List (Nat × (List MV → MH → Tr ER))) : Prop := ∀ c run, (c, run) ∈ tbl → ∃ g, PySem.W.findIn X.K (.ref (cAd T X.K c)) "__len__" = some (some (.ref g)) ∧ PySem.W.isFn X.K (.ref g) = true ∧ FI T X d g 1 run
def isLen (r : MV) (h : MH) : Tr ER := match r with
  | .int i => ifT (decide (0 ≤ i) && decide (i < 4611686018427387904)) (okE (.int i) h)
  | _ => .bad
def runLenOwn (tbl : List (Nat × (List MV → MH → Tr ER))) (f : RunE) : RunE := fun ms h => (f ms h).be (fun x h1 => match asI h1 x with
  | some (c, _) => match asc c tbl with
    | some run => (run [x] h1).be isLen (fun _ _ => .bad)
    | none => .bad
  | none => .bad) exE
theorem s_lenOwn {d : Nat} {e : Expr} {p cpos : Pos} {f : RunE} {tbl : List (Nat × (List MV → MH → Tr ER))} (tk : Takes X (wx T X.K E)) (hr : Room (d + 1) X.A) (hg : Gl X "len") (hm : X.mg "len" = none) (hl : LenOk T X d tbl) (he : SE T X E e f) (hn : notStar e = true) :
    SE T X E (.Call (.Name "len" p) [e] [] cpos) (runLenOwn tbl f) := by
  refine .ofV ⟨fun pins sh σ H Q I hw => ?_⟩ fun _ => rfl
  obtain ⟨ρ, ms, h, s1, s2, w⟩ := hw
  refine Call_ (ld_blt I hg hm boot_len ?_)
  refine PyProof.Rows.callWith_builtin1 (PyProof.Rows.args_cons (thn (he.v.run pins sh σ H (fun v H1 => ∃ ρ1 h1 x, Le ρ h H ρ1 h1 H1 ∧ SimH T X.K ρ1 h1 H1 ∧ Den T X.K ρ1 (Mu ρ1 h1) H1 x v ∧ (match asI h1 x with
    | some (c, _) => match asc c tbl with
      | some run => (run [x] h1).be isLen (fun _ _ => .bad)
      | none => .bad
    | none => (.bad : Tr ER)).wp (postE T X.K E ms ρ1 h1 H1 Q)) I ⟨ρ, ms, h, s1, s2, Tr.wp_mono (Tr.wp_be w) fun r q => ?_⟩) fun u sh1 ⟨v, H1, I1, rv, ρ1, h1, x, l1, t1, dx, w1⟩ => PyProof.Rows.args_nil ?_) (star_cons hn)) (star_cons hn) rfl
  · cases r with
    | ex x h1 => exact q
    | ok x h1 => exact fun ρ1 H1 v l s dd => ⟨ρ1, h1, x, l, s, dd, Tr.wp_mono q (postE.le l)⟩
  · split at w1
    · rename_i c fs e1
      split at w1
      · rename_i run e2
        obtain ⟨a, dxa, gs, rfl, r, df⟩ := den_asI t1 e1 dx
        obtain ⟨g, k1, k2, F⟩ := hl c run (asc_mem e2)
        obtain ⟨fd, ps, hlp, F1, hb⟩ := F.ex
        have FR := F1.raw (dvs := []) hb .nil
        refine call_lenOwn (E := fun _ _ _ => False) k1 k2 FR hr (pass_wx tk) pins sh1 σ H1 [.ref a] [u] Q I1 (.cons rv .nil) ⟨a, dxa, gs, rfl, r, ?_⟩
        refine ⟨rfl, ρ1, [x], h1, t1, .cons dx .nil, Tr.wp_mono (Tr.wp_be w1) fun r q => ?_⟩
        cases r with
        | ex y h2 => exact (q : False).elim
        | ok y h2 =>
          intro ρ2 H2 v2 l2 t2 d2
          have q : (isLen y h2).wp _ := q
          unfold isLen at q
          split at q
          · obtain ⟨c, q⟩ := ifT_wp q
            obtain ⟨c1, c2⟩ := Bool.and_eq_true_iff.mp c
            cases d2
            exact ⟨_, rfl, of_decide_eq_true c1, of_decide_eq_true c2, q ρ2 H2 _ l2 t2 (.int _)⟩
          · exact q.elim
      · exact w1.elim
    · exact w1.elim
end
end
end WK
set_option Elab.async false
set_option linter.all false
set_option maxRecDepth 100000
set_option maxHeartbeats 2000000
/-! raise C(e), C an own exception over any builtin base -/
namespace WK
noncomputable section
open PySem PySem.Spec PyProof.Rows L2
section
variable {X : Cx} {e : Expr} {es : List Expr} {ta : TA} {p pos : Pos} {B nw ini : String} {l : List Value}
theorem pmk_ox {CX : CXT} {x : Str} {C fI : Addr} {k : Nat} {fd : FuncData} {ps : List Str} {sp : Sp} {ds : List Value} {dvs : List V} (Bf : BsF B nw ini l) (T : OxC X.K nw l C) (iC : PySem.W.findIn X.K (.ref C) "__init__" = some (some (.ref fI))) (tI : PySem.W.typeIn X.K (.ref fI) = some (.type "function"))
    (F1 : FnOk X.prog X.w X.K X.mg X.base CX k fI fd ps sp) (hr : Room (k + 1) X.A) (hb : Binds X.K fd ps ds) (hd : Vals dvs ds) (hx : Passes CX X (fun _ _ _ => False)) (hg : Gl X x) (hm : X.mg x = some (.ref C)) (ha : PA X (e :: es) ta)
    (hdb : (x == ("__debug__" : Str)) = false) (he : starEach (e :: es) X.env = (false, eval e X.env) :: starEach es X.env) (hpl : (backTo pos (starEach es X.env)).any (·.1) = false) :
    PMk X (.Call (.Name x p) (e :: es) [] pos) (tMkO C sp dvs ta) := by
  intro pins s σ H Q I h
  obtain ⟨nm, q, N, bs, bm, sn, sub, ab, col, dd, k0, k1, k2, k3, k5, hC, hch⟩ := T.cls
  refine wpAny_Call_Name_kw (ld_glob I hg hm ?_ hdb)
  refine PySem.W.callWith_K (h₀ := X.base) I.ok.mod.kin T.kC (thn (ha.run pos pins s σ H _ I h) fun us s1 ⟨vs, H1, I1, r1, hz, q1⟩ => ⟨I1.kIn, ?_⟩) he hpl
  show wpAny _ _ (call (.ref C) us) _ _ _
  obtain ⟨hp, g, dr, tk, os⟩ := s1
  have hsz : hp.objs.size ≤ hp.objs.size + 1 := Nat.le_succ _
  have hn : H1 (hp.objs.size + 1) = none := I1.hok.fresh hsz
  have hq := q1 (hp.objs.size + 1) hn
  have kk : ∀ b o, hp.get? b = some o → ((hp.push (PySem.W.kdv_tup us)).push (PySem.HandSPX.excO C hp.objs.size)).get? b = some o := fun b o e => Heap.get?_push_of_some _ (Heap.get?_push_of_some _ e)
  have hget : ((hp.push (PySem.W.kdv_tup us)).push (PySem.HandSPX.excO C hp.objs.size)).get? (hp.objs.size + 1) = some (PySem.HandSPX.excO C hp.objs.size) := by heap_get
  have I2 : Inv X pins σ (upd H1 (hp.objs.size + 1) (exo (hp.objs.size + 1) C none)) ⟨(hp.push (PySem.W.kdv_tup us)).push (PySem.HandSPX.excO C hp.objs.size), g, dr, tk, os⟩ :=
    I1.laid (t' := tk) (a := hp.objs.size + 1) (o := exo (hp.objs.size + 1) C none) (h' := (hp.push (PySem.W.kdv_tup us)).push (PySem.HandSPX.excO C hp.objs.size)) kk hsz (exo_ok hget)
  have r2 : Vals (V.ref (hp.objs.size + 1) :: (vs ++ dvs)) (Value.ref (hp.objs.size + 1) :: (us ++ ds)) := .cons rfl (r1.append hd)
  have hl : (Value.ref (hp.objs.size + 1) :: us ++ ds).length = ps.length := by
    have e := r2.length
    rw [F1.len _ _ _ _ hq] at e
    exact e.symm
  have hus : us.length ≤ sizeLine := by
    rw [← Paired.length r1, sizeLine_eq]
    omega
  refine wpAny_call (PySem.HandSPX.call_own Bf.f (fun Y => hch.has) (I1.kIn _ _ hC) (PySem.W.looks_findIn I1.kIn iC) (fun self => PySem.W.bind_fn I1.kIn self tI) hus
    (codeAny_mono (F1.run _ X.stack _ _ ⟨Value.ref (hp.objs.size + 1) :: us, []⟩ (Value.ref (hp.objs.size + 1) :: (us ++ ds)) _ _ (fun _ _ _ => False) (hr.make C us []) (I2.env0.make C us []) (hb _ (Value.ref (hp.objs.size + 1) :: us) I2.kIn hl) r2 hq) fun r s' hq' => ?_))
  cases r with
  | error er => exact hx pins σ _ _ er s' I2 hq'
  | ok fl =>
    cases fl with
    | ret u =>
      obtain ⟨v, H2, os2, bare2, un2, hok2, rv, ev, d, fs, ea, ed, hd1, q2⟩ := hq'
      subst ev
      obtain ⟨h2, g2, d2, t2, os'⟩ := s'
      exact ⟨rv, mk_end (raises_own T.exC T.tyC) I1 hsz kk un2 hok2 os2 bare2 ea ed hd1 q2⟩
    | next => exact False.elim hq'
    | brk => exact False.elim hq'
    | cont => exact False.elim hq'
end
section
variable {T : Tb} {X : Cx} {E : XW}
theorem s_raiseC {d c f fw : Nat} {fn wd x : Str} {e : Expr} {p pos pos2 : Pos} {g : RunE} (hc : X.calm = true) (M : MkC T X.prog X.w X.K X.mg X.base x d c fw 1 fun C => spI1 C fn wd) (tk : Takes X (wx T X.K E)) (hr : Room (d + 1) X.A) (hg : Gl X x)
    (he : SE T X E e g) (hf : f < T.nm.length) (nf : nmS T f = fn) (hfw : fw < T.nm.length) (nw : nmS T fw = "word") (hdb : (x == ("__debug__" : Str)) = false) (hn : notStar e = true) :
    SS T X E (.Raise (some (.Call (.Name x p) [e] [] pos)) none pos2) (runRaise1 c f fw wd g) := by
  obtain ⟨B, n, ini, l, fI, fd, ps, h1, h2, h3, h4, hm, hb, F1⟩ := M.ex
  have pm := pmk_ox (p := p) (pos := pos) (dvs := []) h1 h2 h3 h4 F1 hr hb .nil (pass_wx tk) hg hm (pa_cons he.v pa_nil (star_cons hn)) hdb (star_cons hn) (by rw [backTo_any]; rfl)
  refine psI (ps_raise hc tk pm) fun D σ H ⟨ρ, m, h, s1, s2, w⟩ => ?_
  refine ⟨ρ, m, h, s1, s2, Tr.wp_mono (Tr.wp_be w) fun r q => ?_⟩
  cases r with
  | ex y h1 => exact q
  | ok y h1 =>
    intro ρ1 H1 v l s dv
    refine ⟨by show 1 ≤ 1000; omega, fun a na => ⟨a, v, rfl, upd_same, fun da nd ne => ⟨rfl, da, [("word", .str wd), (fn, v)], ?_, upd_same, ?_, ?_⟩⟩⟩
    · rw [upd_ne (Ne.symm ne)]; exact upd_same
    · rw [upd_ne ne] at nd; exact nd
    · have ee : upd (del (upd (upd (upd (upd H1 a (exo a (cAd T X.K c) none)) da (exd da [(fn, v)])) a (exo a (cAd T X.K c) (some da))) da (exd da [("word", .str wd), (fn, v)])) a) da (.xd [("word", .str wd), (fn, v)]) = upd H1 da (.xd [("word", .str wd), (fn, v)]) := by
        funext b
        by_cases b1 : b = da
        · subst b1; rw [upd_same, upd_same]
        · rw [upd_ne b1, upd_ne b1]
          by_cases b2 : b = a
          · subst b2; rw [del_same, na]
          · rw [del_ne b2, upd_ne b1, upd_ne b2, upd_ne b1, upd_ne b2]
      have nd' : H1 da = none := by rw [upd_ne ne] at nd; exact nd
      rw [ee]
      have l2 : Le ρ1 h1 H1 ρ1 h1 (upd H1 da (.xd [("word", .str wd), (fn, v)])) := Le.neu nd'
      have s3 := s.neu (o := .xd [("word", .str wd), (fn, v)]) nd'
      refine ⟨ρ1, m, h1, _, s3, s2.le (l.trans l2), ⟨c, _, da, _, rfl, rfl, rfl, fun mu => ?_, upd_same, ?_⟩, q ρ1 _ (l.trans l2) s3⟩
      · rcases mu with mu | mu
        · obtain ⟨o, eo⟩ := s.am _ mu
          rw [nd'] at eo; cases eo
        · obtain ⟨o, eo⟩ := s.atO mu
          rw [nd'] at eo; cases eo
      · have z : DenF T X.K ρ1 (Mu ρ1 h1) (upd H1 da (.xd [("word", .str wd), (fn, v)])) [(fw, .str wd), (f, y)] [(nmS T fw, .str wd), (nmS T f, v)] := .cons hfw (.str _) (.cons hf (dv.le l2) .nil)
        rw [nf, nw] at z
        exact z
end
end
end WK
set_option Elab.async false
set_option linter.all false
set_option maxRecDepth 100000
/-! facts in bundles; rows compared -/
namespace WK
noncomputable section
open PySem PySem.Spec PyProof.Rows L2
section
variable (T : Tb) (P : Program) (w : World) (K : PySem.W.Frag) (mg : Str → Option Value) (base : Heap)
/-- a method of the classes in tbl -/
structure MthP (d n m : Nat) (tbl : List (Nat × (List MV → MH → Tr ER))) : Prop where
  lt : m < T.nm.length
  ex : ∀ c run, (c, run) ∈ tbl → ∃ g fd ps, Cls K (cAd T K c) ∧ BMeth K (cAd T K c) (nmS T m) g ∧ ps.length = n ∧ FnOk P w K mg base (L2.CX P w) d g fd ps (spF T K n run) ∧ Binds K fd ps []
/-- a class, its __init__ -/
structure NewP (x : Str) (d c n : Nat) (init : List MV → MH → Tr ER) : Prop where
  ex : ∃ f fd ps, Mk K (cAd T K c) f ∧ mg x = some (.ref (cAd T K c)) ∧ ps.length = n ∧ FnOk P w K mg base (L2.CX P w) d f fd ps (spF T K n init) ∧ Binds K fd ps []
structure LenP (d : Nat) (tbl : List (Nat × (List MV → MH → Tr ER))) : Prop where
  ex : ∀ c run, (c, run) ∈ tbl → ∃ g fd ps, PySem.W.findIn K (.ref (cAd T K c)) "__len__" = some (some (.ref g)) ∧ PySem.W.isFn K (.ref g) = true ∧ ps.length = 1 ∧ FnOk P w K mg base (L2.CX P w) d g fd ps (spF T K 1 run) ∧ Binds K fd ps []
/-- f(e, k = e') -/
structure CalK (x kn : Str) (d : Nat) (run : List MV → MH → Tr ER) : Prop where
  ex : ∃ f fd ps gg, mg x = some (.ref f) ∧ PySem.W.keepIn K (.ref f) = true ∧ KBn K fd ps 1 [kn] gg (fun vs zs => vs ++ zs) ∧ FnOk P w K mg base (L2.CX P w) d f fd ps (spF T K 2 run)
end
/-- a class's whole constant -/
structure CvP (K : PySem.W.Frag) (mg : Str → Option Value) (x n : Str) (i : Int) : Prop where
  ex : ∃ C mc u, mg x = some (.ref C) ∧ ClX.CRead K C mc ∧ ClX.CVal K C mc n (.int i) u
structure KTabP (K : PySem.W.Frag) (w : World) (mg : Str → Option Value) (x : Str) (tbl : List (Str × Int)) : Prop where
  ex : ∃ a, mg x = some (.ref a) ∧ KTab K w a tbl
section
variable {T : Tb} {X : Cx} {E : XW}
theorem MthP.m {d n m : Nat} {tbl : List (Nat × (List MV → MH → Tr ER))} (M : MthP T X.prog X.w X.K X.mg X.base d n m tbl) : MthOk T X d n m tbl :=
  ⟨M.lt, fun c run hm => let ⟨g, fd, ps, h1, h2, h3, h4, h5⟩ := M.ex c run hm; ⟨g, h1, h2.mt, ⟨fd, ps, h3, h4, h5⟩⟩⟩
theorem meth_at {K : PySem.W.Frag} {C g g' : Addr} {m : Str} (a : Meth K C m g) (b : Meth K C m g') : g = g' := by
  have := a.at_.symm.trans b.at_
  cases this; rfl
theorem MthP.b {d n m : Nat} {tbl : List (Nat × (List MV → MH → Tr ER))} (M : MthP T X.prog X.w X.K X.mg X.base d n m tbl) : BmhOk T X m tbl := fun c run hm g' hg => by
  obtain ⟨g, fd, ps, h1, h2, h3, h4, h5⟩ := M.ex c run hm
  rw [meth_at hg h2.mt]
  exact h2
theorem s_mth {d : Nat} {o : Expr} {m : Nat} {n : Str} {apos pos : Pos} {e : Expr} {es : List Expr} {f : RunE} {g : RunL} {tbl : List (Nat × (List MV → MH → Tr ER))} {pl : Sem Bool} (tk : Takes X (wx T X.K E)) (hr : Room d X.A) (hm : MthP T X.prog X.w X.K X.mg X.base d ((e :: es).length + 1) m tbl) (hn : nmS T m = n) (ho : SE T X E o f) (ha : SA T X E (e :: es) g)
    (ht : eval (.Call (.Attribute o n apos) (e :: es) [] pos) X.env = (do
      let ov ← eval o X.env
      standAt apos.atName
      let (f, first) ← holding [ov] (getMethod ov n pl)
      callWith pos f first (backTo pos (starEach (e :: es) X.env)) (backToKw pos (keywordEach [] X.env)))) :
    SE T X E (.Call (.Attribute o n apos) (e :: es) [] pos) (runMth tbl false m f g) := s_meth tk hr ho ha hn hm.m ht
theorem s_mth0 {d : Nat} {o : Expr} {m : Nat} {n : Str} {apos pos : Pos} {f : RunE} {tbl : List (Nat × (List MV → MH → Tr ER))} {pl : Sem Bool} (tk : Takes X (wx T X.K E)) (hr : Room d X.A) (hm : MthP T X.prog X.w X.K X.mg X.base d 1 m tbl) (hn : nmS T m = n) (ho : SE T X E o f)
    (ht : eval (.Call (.Attribute o n apos) [] [] pos) X.env = (do
      let ov ← eval o X.env
      standAt apos.atName
      let (f, first) ← holding [ov] (getMethod ov n pl)
      callWith pos f first (backTo pos (starEach [] X.env)) (backToKw pos (keywordEach [] X.env)))) :
    SE T X E (.Call (.Attribute o n apos) [] [] pos) (runMth0 tbl false m f) := s_meth0 tk hr ho hn hm.m ht
theorem s_mthSt {d : Nat} {o e1 e2 : Expr} {m nn : Nat} {n : Str} {apos pos p : Pos} {f g1 g2 : RunE} {tbl : List (Nat × (List MV → MH → Tr ER))} (tk : Takes X (wx T X.K E)) (hr : Room d X.A) (hm : MthP T X.prog X.w X.K X.mg X.base d nn m tbl) (hn : nmS T m = n) (ho : SE T X E o f) (h1 : SE T X E e1 g1) (h2 : SE T X E e2 g2)
    (hbase : attributeBase o n X.env (eval o X.env) = eval o X.env) (hst : starEach [e1, .Starred e2 p] X.env = [(false, eval e1 X.env), (true, eval e2 X.env)]) :
    SE T X E (.Call (.Attribute o n apos) [e1, .Starred e2 p] [] pos) (runMthSt nn tbl m f g1 g2) := s_methSt tk hr ho h1 h2 hn hm.m hm.b hbase hst
theorem s_newP {d c n : Nat} {init : List MV → MH → Tr ER} {x : Str} {e : Expr} {es : List Expr} {p pos : Pos} {g : RunL} (tk : Takes X (wx T X.K E)) (hr : Room (d + 1) X.A) (N : NewP T X.prog X.w X.K X.mg X.base x d c ((e :: es).length + 1) init) (hg : Gl X x) (ha : SA T X E (e :: es) g) (hx : (x == ("__debug__" : Str)) = false) :
    SE T X E (.Call (.Name x p) (e :: es) [] pos) (runArgs g (runNewM c init)) := by
  obtain ⟨f, fd, ps, h1, h2, h3, h4, h5⟩ := N.ex
  exact s_newM tk hr h1 ⟨fd, ps, h3, h4, h5⟩ hg h2 ha hx
theorem s_newP0 {d c : Nat} {init : List MV → MH → Tr ER} {x : Str} {p pos : Pos} (tk : Takes X (wx T X.K E)) (hr : Room (d + 1) X.A) (N : NewP T X.prog X.w X.K X.mg X.base x d c 1 init) (hg : Gl X x) (hx : (x == ("__debug__" : Str)) = false) :
    SE T X E (.Call (.Name x p) [] [] pos) (fun _ h => runNewM c init [] h) := by
  obtain ⟨f, fd, ps, h1, h2, h3, h4, h5⟩ := N.ex
  exact s_newM0 tk hr h1 ⟨fd, ps, h3, h4, h5⟩ hg h2 hx
theorem s_newStP {d n c : Nat} {init : List MV → MH → Tr ER} {x : Str} {e : Expr} {sp_ p pos : Pos} {g : RunE} (tk : Takes X (wx T X.K E)) (hr : Room (d + 1) X.A) (N : NewP T X.prog X.w X.K X.mg X.base x d c n init) (hg : Gl X x) (he : SE T X E e g) (hx : (x == ("__debug__" : Str)) = false)
    (hst : starEach [.Starred e sp_] X.env = [(true, eval e X.env)]) : SE T X E (.Call (.Name x p) [.Starred e sp_] [] pos) (run1 g (kNewSt n c init)) := by
  obtain ⟨f, fd, ps, h1, h2, h3, h4, h5⟩ := N.ex
  exact s_newSt tk hr h1 ⟨fd, ps, h3, h4, h5⟩ hg h2 he hx hst
theorem s_lenP {d : Nat} {e : Expr} {p cpos : Pos} {f : RunE} {tbl : List (Nat × (List MV → MH → Tr ER))} (tk : Takes X (wx T X.K E)) (hr : Room (d + 1) X.A) (L : LenP T X.prog X.w X.K X.mg X.base d tbl) (hg : Gl X "len") (hm : X.mg "len" = none) (he : SE T X E e f) (hn : notStar e = true) :
    SE T X E (.Call (.Name "len" p) [e] [] cpos) (runLenOwn tbl f) :=
  s_lenOwn tk hr hg hm (fun c run h => let ⟨g, fd, ps, h1, h2, h3, h4, h5⟩ := L.ex c run h; ⟨g, h1, h2, ⟨fd, ps, h3, h4, h5⟩⟩) he hn
theorem s_calK {d : Nat} {run : List MV → MH → Tr ER} {x kn : Str} {e e2 : Expr} {p pos kpos : Pos} {g k : RunE} (tk : Takes X (wx T X.K E)) (C : CalK T X.prog X.w X.K X.mg X.base x kn d run) (hr : Room d X.A)
    (hg : Gl X x) (he : SE T X E e g) (he2 : SE T X E e2 k) (hn : notStar e = true) (hx : (x == ("__debug__" : Str)) = false)
    (hall : (backToKw pos (keywordEach [⟨some kn, e2, kpos⟩] X.env)).all (·.1.isSome) = true) (hks : (backToKw pos (keywordEach [⟨some kn, e2, kpos⟩] X.env)).filterMap (·.1) = [kn])
    (hpl : ((backTo pos (starEach [e] X.env)).any (·.1) || (backToKw pos (keywordEach [⟨some kn, e2, kpos⟩] X.env)).any (·.1.isNone)) = false) :
    SE T X E (.Call (.Name x p) [e] [⟨some kn, e2, kpos⟩] pos) (runCallK run g k) := by
  obtain ⟨f, fd, ps, gg, h1, h2, h3, h4⟩ := C.ex
  exact s_callK tk h4 hr hg h1 h2 h3 he he2 hn hx hall hks hpl
theorem s_gint {x : Str} {i : Int} {pos : Pos} (hg : Gl X x) (hm : ∃ t, X.mg x = some (.int i t)) (hx : (x == ("__debug__" : Str)) = false) : SE T X E (.Name x pos) (fun _ h => okE (.int i) h) := by
  obtain ⟨t, hm⟩ := hm
  exact s_con (pe_glob (v := .int i) hg hm ⟨t, rfl⟩ hx) (fun _ _ _ => .int i) fun _ => rfl
theorem s_gstr {x : Str} {z : Str} {pos : Pos} (hg : Gl X x) (hm : ∃ t, X.mg x = some (.str z t)) (hx : (x == ("__debug__" : Str)) = false) : SE T X E (.Name x pos) (fun _ h => okE (.str z) h) := by
  obtain ⟨t, hm⟩ := hm
  exact s_con (pe_glob (v := .str z) hg hm ⟨t, rfl⟩ hx) (fun _ _ _ => .str z) fun _ => rfl
theorem s_cvP {x n : Str} {i : Int} {p pos : Pos} (hg : Gl X x) (C : CvP X.K X.mg x n i) (hx : (x == ("__debug__" : Str)) = false) : SE T X E (.Attribute (.Name x p) n pos) (fun _ h => okE (.int i) h) := by
  obtain ⟨C, mc, u, h1, h2, h3⟩ := C.ex
  exact s_cval hg h1 h2 h3 hx
theorem s_kgetP {tbl : List (Str × Int)} {x : Str} {e f : Expr} {p apos cpos : Pos} {ge gf : RunE} (hg : Gl X x) (M : KTabP X.K X.w X.mg x tbl) (he : SE T X E e ge) (hf : SE T X E f gf) (hx : (x == ("__debug__" : Str)) = false) (m : M2 X (.Name x p) "get" apos e f cpos) :
    SE T X E (.Call (.Attribute (.Name x p) "get" apos) [e, f] [] cpos) (runKGet tbl ge gf) := by
  obtain ⟨a, h1, h2⟩ := M.ex
  exact s_kget hg h1 h2 he hf hx m
/-! ### rows compared -/
def rtB : RT → RT → Bool
  | .base a, .base b => Nat.beq a b
  | .drp t k, .drp u j => rtB t u && Nat.beq k j
  | _, _ => false
theorem rtB_ok : ∀ {t u : RT}, rtB t u = true → t = u
  | .base a, .base b, h => by rw [Nat.eq_of_beq_eq_true h]
  | .drp t k, .drp u j, h => by
    obtain ⟨h1, h2⟩ := Bool.and_eq_true_iff.mp h
    rw [rtB_ok h1, Nat.eq_of_beq_eq_true h2]
def cNeR : CF := fun x y h => match x, y with
  | .tup [.str a, .row t], .tup [.str b, .row u] => match decide (a = b) && (rtB t u && PyData.canLay0 (.str a)) with
    | true => some false
    | false => none
  | x, y => cNe x y h
theorem lay_ints : ∀ ns : List Int, PyData.canLayAll0 (ns.map PyData.int) = true
  | [] => rfl
  | i :: r => by
    rw [List.map_cons]
    unfold PyData.canLayAll0 PyData.canLay0
    rw [lay_ints r]; rfl
theorem dep_ints : ∀ ns : List Int, PyData.depthAll (ns.map PyData.int) ≤ 1
  | [] => by simp [PyData.depthAll]
  | i :: r => by
    have := dep_ints r
    simp only [List.map_cons, PyData.depthAll, PyData.depth]
    omega
def pdRow (a : Str) (hd cy : List Int) : PyData := .tuple [.str a, .tuple [.tuple (hd.map .int), .tuple (cy.map .int)]]
theorem pdRow_ok {a : Str} {hd cy : List Int} (h : PyData.canLay0 (.str a) = true) : SeqAt.shaped (pdRow a hd cy) = true := by
  have h1 := dep_ints hd
  have h2 := dep_ints cy
  unfold SeqAt.shaped pdRow
  refine Bool.and_eq_true_iff.mpr ⟨?_, decide_eq_true ?_⟩
  · simp only [PyData.canLay0, PyData.canLayAll0, lay_ints, Bool.and_true] at h ⊢
    exact h
  · simp only [PyData.depth, PyData.depthAll]
    omega
theorem dpAll_ints {K : PySem.W.Frag} {H : Hp} : ∀ ns : List Int, DpAll K H (ns.map V.int) (ns.map PyData.int)
  | [] => .nil
  | i :: r => .cons (.int i) (dpAll_ints r)
theorem denL_intsV {K : PySem.W.Frag} {ρ : Rho} {M : Addr → Prop} {H : Hp} : ∀ {ns : List Int} {vs : List V}, DenL T K ρ M H (ns.map MV.int) vs → vs = ns.map V.int
  | [], _, d => by cases d; rfl
  | i :: r, _, d => by
    have d : DenL T K ρ M H (.int i :: r.map MV.int) _ := d
    cases d with
    | cons d1 d2 => cases d1; rw [denL_intsV d2]; rfl
theorem dp_tupI {K : PySem.W.Frag} {ρ : Rho} {M : Addr → Prop} {H : Hp} {ns : List Int} {v : V} (d : Den T K ρ M H (.tup (ns.map .int)) v) : Dp K H v (.tuple (ns.map .int)) := by
  obtain ⟨a, vs, rfl, r, d1⟩ := den_tup d
  rw [denL_intsV d1] at r
  exact .tup r (dpAll_ints ns)
theorem dp_row {K : PySem.W.Frag} {ρ : Rho} {M : Addr → Prop} {H : Hp} {hd cy : List Int} {v : V} (d : Den T K ρ M H (rowM hd cy) v) : Dp K H v (.tuple [.tuple (hd.map .int), .tuple (cy.map .int)]) := by
  obtain ⟨a, vs, rfl, r, d1⟩ := den_tup d
  cases d1 with
  | cons e1 d1 =>
    cases d1 with
    | cons e2 d1 =>
      cases d1
      exact .tup r (.cons (dp_tupI e1) (.cons (dp_tupI e2) .nil))
theorem cNeR_ok : OpS T X (rNeA X.K) (cOp cNeR) := fun ρ h H x y v u E ms Q s dx dy w => by
  obtain ⟨b, e, w1⟩ := bO_wp w
  unfold cNeR at e
  split at e
  · split at e
    · rename_i a t b' u' _ c
      cases e
      obtain ⟨c1, c⟩ := Bool.and_eq_true_iff.mp c
      obtain ⟨c2, c3⟩ := Bool.and_eq_true_iff.mp c
      have ea := of_decide_eq_true c1
      subst ea
      have et := rtB_ok c2
      subst et
      obtain ⟨a1, vs1, rfl, r1, d1⟩ := den_tup dx
      obtain ⟨a2, vs2, rfl, r2, d2⟩ := den_tup dy
      cases d1 with
      | cons f1 d1 =>
        cases d1 with
        | cons f2 d1 =>
          cases d1
          cases d2 with
          | cons g1 d2 =>
            cases d2 with
            | cons g2 d2 =>
              cases d2
              cases f1; cases g1
              cases f2 with
              | row ev ok df =>
                cases g2 with
                | row ev2 ok2 dg =>
                  rw [ev] at ev2
                  cases ev2
                  have w2 : Q (.bl false) H := post_bl s w1
                  refine .inr ⟨pdRow a _ _, pdRow a _ _, .tup r1 (.cons (.str a) (.cons (dp_row df) .nil)), .tup r2 (.cons (.str a) (.cons (dp_row dg) .nil)), pdRow_ok c3, pdRow_ok c3, ?_⟩
                  rw [show PyData.eqv (pdRow a _ _) (pdRow a _ _) = true from SeqAt.eqv_refl _ (SeqAt.canLay_of_shaped (pdRow_ok c3))]
                  exact w2
    · cases e
  · refine cNe_ok ρ h H x y v u E ms Q s dx dy ?_
    show (bO (cNe x y h) h).wp _
    rw [e]; exact w1
end
end
end WK
set_option Elab.async false
set_option linter.all false
set_option maxRecDepth 100000
set_option maxHeartbeats 4000000
/-! tuple * 1 -/
namespace WK
noncomputable section
open PySem PySem.Spec PyProof.Rows L2
theorem tuple_mul1 (l : Addr) (items : Array Value) (n : Nat) (dd : Option Addr) (sl : Array (Option Value)) (u : Tok) :
    Meets (Builtin.«tuple.__mul__» ⟨[.ref l, .int 1 u], []⟩) (fun _ R s => s.heap.get? l = some { cls := .type "tuple", dict := dd, data := .seq items n, slots := sl } ∧ R (.ok (.ret (Value.ref l))) s) :=
  .of_wp fun prog w A R s h => by
    obtain ⟨hp, g, d, tk, os⟩ := s
    obtain ⟨hl, h⟩ := h
    have f1 := AutoSeq1.idx_int
    have c0 : (decide ((1 : Int) < -(2 ^ 63)) || decide ((1 : Int) ≥ 2 ^ 63)) = false := by decide
    have c1 : (items.isEmpty || (1 : Int) == 1) = true := by
      rw [Bool.or_comm]; rfl
    wp_walk using wpAny_loadPart' hl
    repeat (first
      | (refine wpAny_ite_false (decide_eq_false (by rw [c0]; exact Bool.false_ne_true)) ?_; wp_walk using wpAny_loadPart' hl)
      | (refine wpAny_ite_true (decide_eq_true c1) ?_; wp_walk using wpAny_loadPart' hl))
    all_goals first | exact ⟨_, rfl, h⟩ | exact h | skip
def rRepT1 (K : PySem.W.Frag) : R2 := fun x y H Q => ∃ l xs, x = .ref l ∧ y = .int 1 ∧ SqT K H l xs ∧ Q (.ref l) H
section
variable {T : Tb} {X : Cx}
theorem op_repT1 : OpR X (binaryOp .Mult) (rRepT1 X.K) := by
  intro pins s σ H x y v u Q I rx ry h
  obtain ⟨l, xs, rfl, rfl, hT, q⟩ := h
  cases rx
  obtain ⟨t, rfl⟩ := ry
  obtain ⟨its, r, ⟨⟨cls, dd, data, sl⟩, ho, hc, n, hd⟩, hs⟩ := I.tuple hT
  simp only at hc hd
  subst hc hd
  refine wpAny_binaryOp_repeat_ref (T := "tuple") (U := "int") (by decide) ⟨_, ho, rfl⟩ (fun s' => typeIs_int s' 1 t) noFill_tuple_mul F.fills_int_mul F.slot_int_rmul repeat_tuple F.slot_int_index.lookup
    (call_meets F.slot_int_rmul (typeIs_int s 1 t) F.entry_int_rmul (F.args_int_rmul_2 _ _) (int_rmul_tuple 1 t l its.toArray n dd sl)
      ⟨ho, rfl, ⟨_, ho, rfl⟩, call_meets F.slot_tuple_mul ⟨_, ho, rfl⟩ F.entry_tuple_mul (F.args_tuple_mul_2 _ _) (tuple_mul1 l its.toArray n dd sl t) ⟨ho, ?_⟩⟩)
  exact ⟨.ref l, H, I, rfl, q⟩
def opMulT (x y : MV) (h : MH) : Tr ER := match x, y with
  | .tup xs, .int 1 => okE (.tup xs) h
  | x, y => opMul false x y h
theorem op_mulT : OpR X (binaryOp .Mult) (fun x y H Q => rRepT1 X.K x y H Q ∨ rMulA X.K x y H Q) := op_repT1.or op_mulA
theorem opMulT_ok : OpS T X (fun x y H Q => rRepT1 X.K x y H Q ∨ rMulA X.K x y H Q) opMulT := fun ρ h H x y v u E ms Q s dx dy w => by
  unfold opMulT at w
  split at w
  · have dx' := dx
    obtain ⟨a, vs, rfl, r, d⟩ := den_tup dx
    cases dy
    exact .inl ⟨a, vs, rfl, rfl, r, post_den s dx' w⟩
  · exact .inr (opMul_ok false ρ h H _ _ v u E ms Q s dx dy w)
/-! text * number -/
def mulS (z : Str) (n : Int) : Str := match decide (n = 1) with
  | true => z
  | false => ⟨(List.replicate n.toNat z.cps).foldl (· ++ ·) #[]⟩
theorem foldl_size {a : Array Nat} : ∀ (m : Nat) (acc : Array Nat), ((List.replicate m a).foldl (· ++ ·) acc).size = acc.size + m * a.size
  | 0, acc => by simp
  | m + 1, acc => by
    rw [List.replicate_succ, List.foldl_cons, foldl_size m, Array.size_append, Nat.succ_mul]
    omega
theorem op_mulS : OpR X (binaryOp .Mult) (fun x y H Q => ∃ (z : Str) (n : Int), x = .str z ∧ y = .int n ∧ z.length = 1 ∧ 1 ≤ n ∧ n ≤ 100 ∧ Q (.str (mulS z n)) H) := by
  intro pins s σ H x y v u Q I rx ry h
  obtain ⟨z, n, rfl, rfl, hz, h1, h2, q⟩ := h
  obtain ⟨t, rfl⟩ := rx
  obtain ⟨t', rfl⟩ := ry
  refine P.mul_str (by rw [decide_eq_false (by omega), decide_eq_false (by omega)]; rfl) (fun _ _ => ?_) (fun _ _ => ?_) ?_
  · rw [hz]
    have h0 : n ≠ 0 := by omega
    have : (1 : Int) ≤ (2 ^ 63 - 1) / n := by
      rw [Int.le_ediv_iff_mul_le (by omega)]
      omega
    show ¬ ((1 : Nat) : Int) > _
    omega
  · unfold Builtin.Str.tooLong
    rw [hz, sizeLine_eq]
    exact decide_eq_false (by omega)
  · rw [if_neg (by omega)]
    by_cases e : n = 1
    · subst e
      rw [if_pos (by rfl)]
      exact ⟨.str z, H, I, ⟨t, rfl⟩, q⟩
    · rw [if_neg (by rw [hz]; simp [e])]
      refine ⟨?_, .str (mulS z n), H, I.tok _, ⟨s.toks, ?_⟩, q⟩
      · show (⟨_⟩ : Str).length ≤ _
        unfold Str.length
        rw [foldl_size, sizeLine_eq]
        have hz' : z.cps.size = 1 := hz
        rw [hz']
        show 0 + n.toNat * 1 ≤ _
        omega
      · unfold mulS
        rw [decide_eq_false e]
def opMulS (x y : MV) (h : MH) : Tr ER := match x, y with
  | .str z, .int n => ifT (Nat.beq z.length 1 && (decide (1 ≤ n) && decide (n ≤ 100))) (okE (.str (mulS z n)) h)
  | _, _ => .bad
theorem opMulS_ok : OpS T X (fun x y H Q => ∃ (z : Str) (n : Int), x = .str z ∧ y = .int n ∧ z.length = 1 ∧ 1 ≤ n ∧ n ≤ 100 ∧ Q (.str (mulS z n)) H) opMulS := fun ρ h H x y v u E ms Q s dx dy w => by
  unfold opMulS at w
  split at w
  · obtain ⟨c, w⟩ := ifT_wp w
    obtain ⟨c1, c⟩ := Bool.and_eq_true_iff.mp c
    obtain ⟨c2, c3⟩ := Bool.and_eq_true_iff.mp c
    cases dx; cases dy
    exact ⟨_, _, rfl, rfl, Nat.eq_of_beq_eq_true c1, of_decide_eq_true c2, of_decide_eq_true c3, post_str s w⟩
  · exact w.elim
end
end
end WK
set_option Elab.async false
set_option linter.all false
set_option maxRecDepth 100000
set_option maxHeartbeats 0
namespace WK
noncomputable section
open PySem PySem.Spec PyProof.Rows L2

abbrev cN : RunE := fun _ h => okE .non h
abbrev cB (b : Bool) : RunE := fun _ h => okE (.bl b) h
abbrev cS (x : Str) : RunE := fun _ h => okE (.str x) h
abbrev cLeP : Int → Int → Bool := fun i j => decide (i ≤ j)
abbrev cGtP : Int → Int → Bool := fun i j => decide (j < i)
abbrev cGeP : Int → Int → Bool := fun i j => decide (j ≤ i)
abbrev allB2 : List Bool → Bool := fun bs => bs.all id
section
variable {T : Tb} {X : Cx} {E : XW}
theorem cn {j : Nat} {p : Pos} : SE T X E (.Constant .none j p) cN := s_con pe_non (fun _ _ _ => .non) fun _ => rfl
theorem cb {b : Bool} {j : Nat} {p : Pos} : SE T X E (.Constant (.bool b) j p) (cB b) := s_con pe_bl (fun _ _ _ => .bl b) fun _ => rfl
theorem ci {i : Int} {j : Nat} {p : Pos} : SE T X E (.Constant (.int i) j p) (cI i) := s_con pe_int (fun _ _ _ => .int i) fun _ => rfl
theorem cs {x : Str} {j : Nat} {p : Pos} : SE T X E (.Constant (.str x) j p) (cS x) := s_con pe_str (fun _ _ _ => .str x) fun _ => rfl
end
theorem u0 {k : Nat} {A : Around} (hr : Room k A) : A.units < cLine := hr.units0
theorem u64 {k : Nat} {A : Around} (hr : Room k A) : A.units + 64 < cLine := hr.units
theorem u12 {k : Nat} {A : Around} (hr : Room k A) : A.units + 12 < cLine := by have := hr.units; omega
theorem u65 {k : Nat} {A : Around} (hr : Room k A) : A.units + 65 < cLine := by have := hr.un; omega
theorem u200 {k : Nat} {A : Around} (hr : Room k A) : A.units + 200 < cLine := by have := hr.un; omega
theorem owns_cx {P : Program} {w : World} {K : PySem.W.Frag} {mg : Str → Option Value} {base : Heap} {N : List Str} {qual : Str} {scope : Scope} {f : Addr} {cdv : Value} {A : Around} {outer : List Env} {s : Shared} {H : Hp} {EK : XK} :
    PassesOwn (model P w) (cxOf (L2.CX P w) P w K mg base N qual scope f cdv A outer s H EK).A (cxOf (L2.CX P w) P w K mg base N qual scope f cdv A outer s H EK).env (cxOf (L2.CX P w) P w K mg base N qual scope f cdv A outer s H EK).xe :=
  passes_of (X := cxOf (L2.CX P w) P w K mg base N qual scope f cdv A outer s H EK) rfl
abbrev FnP (K : PySem.W.Frag) (x : Str) (i : Nat) (f : Addr) (fd : FuncData) : Prop := FunD K x x (defArgs (top i)) (defBody (top i)) (defScope (top i)) [] [] f fd
/-- a statement of a class's body -/
abbrev mb (i j : Nat) : Stmt := match top i with
  | .ClassDef (body := b) .. => b.getD j (.Pass ⟨0, 0, 0, 0⟩)
  | s => s
def nm73 : List Str := ["word", "name", "length", "workshop", "lines", "things", "past", "future", "room", "many_states", "pairs", "run", "reply", "answer", "change", "apply", "apply_all", "run_command", "check_new", "add_row", "graph", "row", "edges", "following", "leaving", "check_state"]
theorem nm_at {T : Tb} {l : List Str} {f : Nat} {n : Str} (h : T.nm = l) (e : l.getD f "" = n) : nmS T f = n := by
  unfold nmS; rw [h]; exact e
theorem nm_lt {T : Tb} {l : List Str} {f : Nat} (h : T.nm = l) (e : f < l.length) : f < T.nm.length := by rw [h]; exact e
def tb_SIZES_console : List (Str × Int) := [("names", 0), ("undo", 0), ("redo", 0), ("show", 1), ("remove", 1), ("drop", 2), ("closed", 2), ("kin", 2)]
def tb_SIZES_workshop : List (Str × Int) := [("graph", 4), ("row", 4), ("code", 6), ("lead", 4), ("drop", 3), ("step", 3), ("remove", 2)]
/-- a draw, asked for -/
def runPullA (xs : List MV) (h : MH) : Tr ER := match xs with
  | [.ref l, .int n] => match h.get l with
    | some .bag => ifT (decide (0 < n) && Nat.ble n.natAbs (10 ^ 30)) (.ask n fun r => okE (.int r) h)
    | _ => .bad
  | _ => .bad
theorem pull_okA {T : Tb} {K : PySem.W.Frag} {P : Program} {w : World} {mg : Str → Option Value} {base : Heap} {k : Nat} {f : Addr} {fd : FuncData} {ps : List Str} (F : FnOk P w K mg base (L2.CX P w) k f fd ps (spF T K 2 (runDef 3 rPull))) : FnOk P w K mg base (L2.CX P w) k f fd ps (spF T K 2 runPullA) := by
  refine F.imp fun vs H Q E h => ?_
  obtain ⟨hl, ρ, xs, h, s, d, w⟩ := h
  refine ⟨hl, ?_⟩
  unfold runPullA at w
  split at w
  · rename_i l n
    split at w
    · rename_i e
      obtain ⟨c, w⟩ := ifT_wp w
      obtain ⟨c1, c2⟩ := Bool.and_eq_true_iff.mp c
      have n0 : (0 : Int) < n := of_decide_eq_true c1
      have n1 : n.natAbs ≤ 10 ^ 30 := Nat.le_of_ble_eq_true c2
      obtain ⟨ns, i, z, q, i0, z0, q0, q1, s2⟩ := ObR.open s e
      have e2 : (h.put l (bagL (ns.map .int) i z q)).get l = some (bagL (ns.map .int) i z q) := by rw [put_get e, if_pos rfl]
      obtain ⟨r, i', z', q', r0, r1, i0', z0', q0', q1', hr⟩ := pull_run (n := n) (a := none) (b := none) (c := none) e2 i0 z0 q0 q1 n0 n1
      refine ⟨ρ, _, _, s2, d.le (Le.view e), ?_⟩
      show ((rPull _ _).bind _).wp _
      have hr' : rPull (appS [.ref l, .int n] (slots 3)) (h.put l (bagL (ns.map .int) i z q)) = _ := hr
      rw [hr']
      show postF T K ρ _ H Q E (.ok (.int r) _)
      intro ρ' H' v l' s' dv
      cases dv
      rw [put_put] at l' s'
      have e3 : (h.put l (bagL (ns.map .int) i' z' q')).get l = some (bagL (ns.map .int) i' z' q') := by rw [put_get e, if_pos rfl]
      have s3 := ObR.close s' e3 i0' z0' q0' q1'
      rw [put_put, put_self e] at s3
      exact (w r r0 r1 : postF T K ρ h H Q E (.ok (.int r) h)) ρ' H' _ ((Le.view e).trans (l'.trans (Le.view' e))) s3 (.int r)
    · exact w.elim
  · exact w.elim
def kLenD : List MV → MH → Tr ER := fun xs h => match xs with
  | [x] => match asD h x with
    | some (true, kvs) => okE (.int kvs.length) h
    | _ => .bad
  | _ => .bad
theorem kLenD_ok {T : Tb} {X : Cx} : CallS T X (fun xs H Q => ∃ a kvs, xs = [V.ref a] ∧ H a = some (.dK kvs) ∧ Q (.int kvs.length) H) kLenD := fun ρ h H xs vs m E Q s d w => by
  unfold kLenD at w
  split at w
  · split at w
    · rename_i kvs e1
      cases d with
      | cons d1 d2 =>
        cases d2
        obtain ⟨a, rfl, ps, ea, dk⟩ := den_asD s e1 d1
        refine ⟨a, ps, rfl, ea, ?_⟩
        rw [← dk.length]
        exact post_int s w
    · exact w.elim
  · exact w.elim
abbrev minI : Int → Int → Int := fun i j => if j < i then j else i

abbrev N_of : List Str := ["_law_bag_here", "_law_things"]
theorem sc_of : FnScope N_of ["_law_bag_here", "_law_things"] (defScope (top 87)) := ⟨rfl, rfl, rfl, by decide +kernel, rfl, by decide +kernel, by decide +kernel⟩
def r_of : RunS := (runRet (run2 (runVar 1) (runArgs (runCons (runVar 0) (runCons (runArgs (runCons (runVar 1) runNil) kLen) runNil)) (runF false [] runPullA)) opIxA))
theorem ok_of {P : Program} {w : World} {K : PySem.W.Frag} {mg : Str → Option Value} {base : Heap} {T : Tb} (hP : P = T.P) (hw : w = T.w) (c__law_pull : Cal T P w K mg base "_law_pull" 1 2 runPullA) (m_len : mg "len" = none) {f : Addr} {fd : FuncData} (F : FunD K "_law_of" "_law_of" (defArgs (top 87)) (defBody (top 87)) (defScope (top 87)) [] [] f fd) :
    FnOk P w K mg base (L2.CX P w) 2 f fd ["_law_bag_here", "_law_things"] (spF T K 2 (runDef 0 r_of)) :=
  fn_run F sc_of rfl fun cdv A outer s H EK E hr tk =>
    (ss_one (s_ret (s_ixA hP hw (u12 hr) (s_var rfl (vis_by rfl) rfl rfl) (s_cal c__law_pull tk (hr.mono (by decide)) rfl (a_cons (s_var rfl (vis_by rfl) rfl rfl) (a_cons (s_biB cr_len kLen_ok (by rfl) m_len boot_len (a_cons (s_var rfl (vis_by rfl) rfl rfl) a_nil rfl) (by decide) rfl) a_nil rfl) rfl) rfl rfl) rfl)))
abbrev N_is_name : List Str := ["text", "sign"]
theorem sc_is_name : FnScope N_is_name ["text"] (defScope (top 80)) := ⟨rfl, rfl, rfl, by decide +kernel, rfl, by decide +kernel, by decide +kernel⟩
def r_is_name : RunS := (runRet (runAnd (runChain (cI 1) (runArgs (runCons (runVar 0) runNil) kLen) (cI 6) (cInt cLeP) (cInt cLeP)) (runArgs (runCons (runLc false (runSgn (runVar 0)) (gNm 1) yesR (run2 (runVar 1) (cS "abcdefghijklmnopqrstuvwxyz") (cOp cInA))) runNil) (kBools allB2))))
theorem ok_is_name {P : Program} {w : World} {K : PySem.W.Frag} {mg : Str → Option Value} {base : Heap} {T : Tb} (hP : P = T.P) (hw : w = T.w) (gi_LONGEST : ∃ t, mg "LONGEST" = some (.int 6 t)) (gs_LETTERS : ∃ t, mg "LETTERS" = some (.str "abcdefghijklmnopqrstuvwxyz" t)) (m_all : mg "all" = none) (m_len : mg "len" = none) {f : Addr} {fd : FuncData} (F : FunD K "is_name" "is_name" (defArgs (top 80)) (defBody (top 80)) (defScope (top 80)) [] [] f fd) :
    FnOk P w K mg base (L2.CX P w) 1 f fd ["text"] (spF T K 1 (runDef 1 r_is_name)) :=
  fn_run F sc_is_name rfl fun cdv A outer s H EK E hr tk =>
    (ss_one (s_ret (s_bool (sb_and (s_chain op_le op_le (cInt_ok cLeP) (cInt_ok cLeP) ci (s_biB cr_len kLen_ok (by rfl) m_len boot_len (a_cons (s_var rfl (vis_by rfl) rfl rfl) a_nil rfl) (by decide) rfl) (s_gint rfl gi_LONGEST rfl) rfl) (sb_and1 (s_biB (cr_all rfl) (kBools_ok allB2) rfl m_all (by decide +kernel) (a_cons (s_lc rfl sc_is_name.nd (i_sgn (s_var rfl (vis_by rfl) rfl rfl)) (own := [("sign", 1)]) (blkOk_by (N := N_is_name) (sc := (defScope (top 80))) (by decide +kernel)) (fun _ _ _ _ _ => (pg_name sc_is_name.nd rfl (loc_by rfl) (.inr rfl))) gc_nm (fun _ _ _ _ _ => pts_nil) ts_yes (fun _ _ _ _ _ => (s_cmp (op_inB hP hw (u65 hr)) cInA_ok (s_var rfl (vis_by rfl) rfl rfl) (s_gstr rfl gs_LETTERS rfl) rfl)) (fun _ => rfl)) a_nil rfl) (by decide) rfl))))))
abbrev N_is_count : List Str := ["text", "sign"]
theorem sc_is_count : FnScope N_is_count ["text"] (defScope (top 73)) := ⟨rfl, rfl, rfl, by decide +kernel, rfl, by decide +kernel, by decide +kernel⟩
def r_is_count : RunS := (runSeq (runIf (runOr (runNot (runChain (cI 1) (runArgs (runCons (runVar 0) runNil) kLen) (cI 9) (cInt cLeP) (cInt cLeP))) (runNot (runArgs (runCons (runLc false (runSgn (runVar 0)) (gNm 1) yesR (run2 (runVar 1) (cS "0123456789") (cOp cInA))) runNil) (kBools allB2)))) (runRet (cB false)) nxS)
    (runRet (runOr (run2 (runVar 0) (cS "0") (cOp cEq)) (run2 (run2 (runVar 0) (cI 0) opIxA) (cS "0") (cOp cNe)))))
theorem ok_is_count {P : Program} {w : World} {K : PySem.W.Frag} {mg : Str → Option Value} {base : Heap} {T : Tb} (hP : P = T.P) (hw : w = T.w) (gi_MOST_DIGITS_console : ∃ t, mg "MOST_DIGITS_console" = some (.int 9 t)) (gs_DIGITS_console : ∃ t, mg "DIGITS_console" = some (.str "0123456789" t)) (m_all : mg "all" = none) (m_len : mg "len" = none) {f : Addr} {fd : FuncData} (F : FunD K "is_count" "is_count" (defArgs (top 73)) (defBody (top 73)) (defScope (top 73)) [] [] f fd) :
    FnOk P w K mg base (L2.CX P w) 1 f fd ["text"] (spF T K 1 (runDef 1 r_is_count)) :=
  fn_run F sc_is_count rfl fun cdv A outer s H EK E hr tk =>
    (ss_cons (s_if (s_bool (sb_or (s_not (s_chain op_le op_le (cInt_ok cLeP) (cInt_ok cLeP) ci (s_biB cr_len kLen_ok (by rfl) m_len boot_len (a_cons (s_var rfl (vis_by rfl) rfl rfl) a_nil rfl) (by decide) rfl) (s_gint rfl gi_MOST_DIGITS_console rfl) rfl)) (sb_or1 (s_not (s_biB (cr_all rfl) (kBools_ok allB2) rfl m_all (by decide +kernel) (a_cons (s_lc rfl sc_is_count.nd (i_sgn (s_var rfl (vis_by rfl) rfl rfl)) (own := [("sign", 1)]) (blkOk_by (N := N_is_count) (sc := (defScope (top 73))) (by decide +kernel)) (fun _ _ _ _ _ => (pg_name sc_is_count.nd rfl (loc_by rfl) (.inr rfl))) gc_nm (fun _ _ _ _ _ => pts_nil) ts_yes (fun _ _ _ _ _ => (s_cmp (op_inB hP hw (u65 hr)) cInA_ok (s_var rfl (vis_by rfl) rfl rfl) (s_gstr rfl gs_DIGITS_console rfl) rfl)) (fun _ => rfl)) a_nil rfl) (by decide) rfl))))) (ss_one (s_ret cb)) ss_nil)
    (ss_one (s_ret (s_bool (sb_or (s_cmp (op_eqA (u64 hr)) cEq_ok (s_var rfl (vis_by rfl) rfl rfl) cs rfl) (sb_or1 (s_cmp (op_neA (u64 hr)) cNe_ok (s_ixA hP hw (u12 hr) (s_var rfl (vis_by rfl) rfl rfl) ci rfl) cs rfl)))))))
abbrev N_thing_of : List Str := ["things", "name", "kind"]
theorem sc_thing_of : FnScope N_thing_of ["things", "name", "kind"] (defScope (top 81)) := ⟨rfl, rfl, rfl, by decide +kernel, rfl, by decide +kernel, by decide +kernel⟩
def r_thing_of : RunS := (runSeq (runIf (runOr (run2 (runVar 1) (runVar 0) (cOp cNiA)) (run2 (run2 (run2 (runVar 0) (runVar 1) opIxA) (cI 0) opIxA) (runVar 2) (cOp cNe))) (runRaise1 0 1 0 "unknownname" (runVar 1)) nxS)
    (runRet (run2 (runVar 0) (runVar 1) opIxA)))
theorem ok_thing_of {P : Program} {w : World} {K : PySem.W.Frag} {mg : Str → Option Value} {base : Heap} {T : Tb} (hP : P = T.P) (hw : w = T.w) (hnm : T.nm = nm73) (mk_UnknownName : MkC T P w K mg base "UnknownName" 1 0 0 1 fun C => spI1 C "name" "unknownname") {f : Addr} {fd : FuncData} (F : FunD K "thing_of" "thing_of" (defArgs (top 81)) (defBody (top 81)) (defScope (top 81)) [] [] f fd) :
    FnOk P w K mg base (L2.CX P w) 3 f fd ["things", "name", "kind"] (spF T K 3 (runDef 0 r_thing_of)) :=
  fn_run F sc_thing_of rfl fun cdv A outer s H EK E hr tk =>
    (ss_cons (s_if (s_bool (sb_or (s_cmp (op_niB hP hw (u65 hr)) cNiA_ok (s_var rfl (vis_by rfl) rfl rfl) (s_var rfl (vis_by rfl) rfl rfl) rfl) (sb_or1 (s_cmp (op_neA (u64 hr)) cNe_ok (s_ixA hP hw (u12 hr) (s_ixA hP hw (u12 hr) (s_var rfl (vis_by rfl) rfl rfl) (s_var rfl (vis_by rfl) rfl rfl) rfl) ci rfl) (s_var rfl (vis_by rfl) rfl rfl) rfl)))) (ss_one (s_raiseC rfl mk_UnknownName tk (hr.mono (by decide)) rfl (s_var rfl (vis_by rfl) rfl rfl) (nm_lt hnm (by decide)) (nm_at hnm rfl) (nm_lt hnm (by decide)) (nm_at hnm rfl) rfl rfl)) ss_nil)
    (ss_one (s_ret (s_ixA hP hw (u12 hr) (s_var rfl (vis_by rfl) rfl rfl) (s_var rfl (vis_by rfl) rfl rfl) rfl))))
abbrev N_need_length : List Str := ["length", "most"]
theorem sc_need_length : FnScope N_need_length ["length", "most"] (defScope (top 27)) := ⟨rfl, rfl, rfl, by decide +kernel, rfl, by decide +kernel, by decide +kernel⟩
def r_need_length : RunS := (runIf (runNot (runChain (cI 1) (runVar 0) (runVar 1) (cInt cLeP) (cInt cLeP))) (runRaise1 1 2 0 "invalidlength" (runVar 0)) nxS)
theorem ok_need_length {P : Program} {w : World} {K : PySem.W.Frag} {mg : Str → Option Value} {base : Heap} {T : Tb} (hP : P = T.P) (hw : w = T.w) (hnm : T.nm = nm73) (mk_InvalidLength : MkC T P w K mg base "InvalidLength" 1 1 0 1 fun C => spI1 C "length" "invalidlength") {f : Addr} {fd : FuncData} (F : FunD K "need_length" "need_length" (defArgs (top 27)) (defBody (top 27)) (defScope (top 27)) [] [] f fd) :
    FnOk P w K mg base (L2.CX P w) 3 f fd ["length", "most"] (spF T K 2 (runDef 0 r_need_length)) :=
  fn_run F sc_need_length rfl fun cdv A outer s H EK E hr tk =>
    (ss_one (s_if (s_not (s_chain op_le op_le (cInt_ok cLeP) (cInt_ok cLeP) ci (s_var rfl (vis_by rfl) rfl rfl) (s_var rfl (vis_by rfl) rfl rfl) rfl)) (ss_one (s_raiseC rfl mk_InvalidLength tk (hr.mono (by decide)) rfl (s_var rfl (vis_by rfl) rfl rfl) (nm_lt hnm (by decide)) (nm_at hnm rfl) (nm_lt hnm (by decide)) (nm_at hnm rfl) rfl rfl)) ss_nil))
abbrev N_shortest : List Str := ["cycle", "size"]
theorem sc_shortest : FnScope N_shortest ["cycle"] (defScope (top 35)) := ⟨rfl, rfl, rfl, by decide +kernel, rfl, by decide +kernel, by decide +kernel⟩
def r_shortest : RunS := (runSeq (runFor (runRng2 (runCons (cI 1) (runCons (runArgs (runCons (runVar 0) runNil) kLen) runNil))) (gNm 1) (runIf (runAnd (run2 (run2 (runArgs (runCons (runVar 0) runNil) kLen) (runVar 1) opMod) (cI 0) (cOp cEq)) (run2 (run2 (runSl false (runVar 0) runNoP (runPt (runVar 1))) (run2 (runArgs (runCons (runVar 0) runNil) kLen) (runVar 1) opFdiv) opMulT) (runVar 0) (cOp cEq))) (runRet (runSl false (runVar 0) runNoP (runPt (runVar 1)))) nxS))
    (runRet (runVar 0)))
theorem ok_shortest {P : Program} {w : World} {K : PySem.W.Frag} {mg : Str → Option Value} {base : Heap} {T : Tb} (hP : P = T.P) (hw : w = T.w) (m_len : mg "len" = none) (m_range : mg "range" = none) {f : Addr} {fd : FuncData} (F : FunD K "shortest" "shortest" (defArgs (top 35)) (defBody (top 35)) (defScope (top 35)) [] [] f fd) :
    FnOk P w K mg base (L2.CX P w) 1 f fd ["cycle"] (spF T K 1 (runDef 1 r_shortest)) :=
  fn_run F sc_shortest rfl fun cdv A outer s H EK E hr tk =>
    (ss_cons (s_for owns_cx rfl (i_range2 rfl m_range (a_cons ci (a_cons (s_biB cr_len kLen_ok (by rfl) m_len boot_len (a_cons (s_var rfl (vis_by rfl) rfl rfl) a_nil rfl) (by decide) rfl) a_nil rfl) rfl) rfl rfl) (g_name sc_shortest.nd rfl (loc_by rfl) (.inl rfl)) (ss_one (s_if (s_bool (sb_and (s_cmp (op_eqA (u64 hr)) cEq_ok (s_bin op_modN opMod_ok (s_biB cr_len kLen_ok (by rfl) m_len boot_len (a_cons (s_var rfl (vis_by rfl) rfl rfl) a_nil rfl) (by decide) rfl) (s_var rfl (vis_by rfl) rfl rfl)) ci rfl) (sb_and1 (s_cmp (op_eqA (u64 hr)) cEq_ok (s_bin op_mulT opMulT_ok (s_sl false (s_var rfl (vis_by rfl) rfl rfl) o_none (o_some (s_var rfl (vis_by rfl) rfl rfl))) (s_bin op_fdivN opFdiv_ok (s_biB cr_len kLen_ok (by rfl) m_len boot_len (a_cons (s_var rfl (vis_by rfl) rfl rfl) a_nil rfl) (by decide) rfl) (s_var rfl (vis_by rfl) rfl rfl))) (s_var rfl (vis_by rfl) rfl rfl) rfl)))) (ss_one (s_ret (s_sl false (s_var rfl (vis_by rfl) rfl rfl) o_none (o_some (s_var rfl (vis_by rfl) rfl rfl))))) ss_nil)) (fun _ => rfl))
    (ss_one (s_ret (s_var rfl (vis_by rfl) rfl rfl))))
abbrev N_Graph_init : List Str := ["self", "states", "edges", "place", "source", "target"]
theorem sc_Graph_init : FnScope N_Graph_init ["self", "states", "edges"] (defScope (mb 45 2)) := ⟨rfl, rfl, rfl, by decide +kernel, rfl, by decide +kernel, by decide +kernel⟩
def r_Graph_init : RunS := (runSeq (runIf (run2 (runVar 1) (cI 1) (cOp cLt)) badS nxS)
    (runSeq (runIf (run2 (runVar 1) (cI 8) (cOp (cInt cGtP))) badS nxS)
    (runSeq (runIf (run2 (runArgs (runCons (runVar 2) runNil) kLen) (cI 24) (cOp (cInt cGtP))) badS nxS)
    (runSeq (runFor (runEnumT (runVar 2)) (gTp 2 (gsCons (gNm 3) (gsCons (gTp 2 (gsCons (gNm 4) (gsCons (gNm 5) gsNil))) gsNil))) (runIf (runOr (runNot (runChain (cI 0) (runVar 4) (runVar 1) (cInt cLeP) cLt)) (runNot (runChain (cI 0) (runVar 5) (runVar 1) (cInt cLeP) cLt))) badS nxS))
    (runSeq (runIf (run2 (runLenSet (runSq (runVar 2)) (gTp 2 (gsCons (gNm 4) (gsCons (gNm 5) gsNil))) (runVar 4)) (runVar 1) (cOp cLt)) badS nxS)
    (runSeq (runAsg (runVar 1) (gFld [2] 9 (runVar 0)))
    (runAsg (runArgs (runCons (runVar 2) runNil) kTuple) (gFld [2] 10 (runVar 0)))))))))
theorem ok_Graph_init {P : Program} {w : World} {K : PySem.W.Frag} {mg : Str → Option Value} {base : Heap} {T : Tb} (hP : P = T.P) (hw : w = T.w) (cv_Graph_MAX_EDGES : CvP K mg "Graph" "MAX_EDGES" 24) (cv_Graph_MAX_STATES : CvP K mg "Graph" "MAX_STATES" 8) (fl_many_states : FldOk T K [2] 9) (fl_pairs : FldOk T K [2] 10) (hnm : T.nm = nm73) (m_enumerate : mg "enumerate" = none) (m_len : mg "len" = none) (m_tuple : mg "tuple" = none) {f : Addr} {fd : FuncData} (F : FunD K "__init__" "Graph.__init__" (defArgs (mb 45 2)) (defBody (mb 45 2)) (defScope (mb 45 2)) [] [] f fd) :
    FnOk P w K mg base (L2.CX P w) 1 f fd ["self", "states", "edges"] (spF T K 3 (runDef 3 r_Graph_init)) :=
  fn_run F sc_Graph_init rfl fun cdv A outer s H EK E hr tk =>
    (ss_cons (s_if (s_cmp (op_ltA (u0 hr)) cLt_ok (s_var rfl (vis_by rfl) rfl rfl) ci rfl) (ss_one (z_s _)) ss_nil)
    (ss_cons (s_if (s_cmp op_gt (cInt_ok cGtP) (s_var rfl (vis_by rfl) rfl rfl) (s_cvP rfl cv_Graph_MAX_STATES rfl) rfl) (ss_one (z_s _)) ss_nil)
    (ss_cons (s_if (s_cmp op_gt (cInt_ok cGtP) (s_biB cr_len kLen_ok (by rfl) m_len boot_len (a_cons (s_var rfl (vis_by rfl) rfl rfl) a_nil rfl) (by decide) rfl) (s_cvP rfl cv_Graph_MAX_EDGES rfl) rfl) (ss_one (z_s _)) ss_nil)
    (ss_cons (s_for owns_cx rfl (i_enumT rfl m_enumerate (s_var rfl (vis_by rfl) rfl rfl) rfl) (g_tup rfl (gs_cons (g_name sc_Graph_init.nd rfl (loc_by rfl) (.inl rfl)) (gs_cons (g_tup rfl (gs_cons (g_name sc_Graph_init.nd rfl (loc_by rfl) (.inl rfl)) (gs_cons (g_name sc_Graph_init.nd rfl (loc_by rfl) (.inl rfl)) gs_nil rfl) rfl) rfl rfl) gs_nil rfl) rfl) rfl rfl) (ss_one (s_if (s_bool (sb_or (s_not (s_chain op_le (op_ltA (u0 hr)) (cInt_ok cLeP) cLt_ok ci (s_var rfl (vis_by rfl) rfl rfl) (s_var rfl (vis_by rfl) rfl rfl) rfl)) (sb_or1 (s_not (s_chain op_le (op_ltA (u0 hr)) (cInt_ok cLeP) cLt_ok ci (s_var rfl (vis_by rfl) rfl rfl) (s_var rfl (vis_by rfl) rfl rfl) rfl))))) (ss_one (z_s _)) ss_nil)) (fun _ => rfl))
    (ss_cons (s_if (s_cmp (op_ltA (u0 hr)) cLt_ok (s_lenSet rfl sc_Graph_init.nd rfl m_len (i_seq (s_var rfl (vis_by rfl) rfl rfl)) (own := [("source", 4), ("target", 5)]) (blkOk_by (N := N_Graph_init) (sc := (defScope (mb 45 2))) (by decide +kernel)) (fun _ _ _ _ _ => (pg_tup rfl (pgs_cons (pg_name sc_Graph_init.nd rfl (loc_by rfl) (.inr rfl)) (pgs_cons (pg_name sc_Graph_init.nd rfl (loc_by rfl) (.inr rfl)) pgs_nil rfl) rfl) rfl rfl)) gc_2 (fun _ _ _ _ _ => (s_var rfl (vis_by rfl) rfl rfl)) (fun _ => rfl)) (s_var rfl (vis_by rfl) rfl rfl) rfl) (ss_one (z_s _)) ss_nil)
    (ss_cons (s_asg (s_var rfl (vis_by rfl) rfl rfl) (g_fld (s_var rfl (vis_by rfl) rfl rfl) (nm_at hnm rfl) (nm_lt hnm (by decide)) fl_many_states) rfl rfl rfl)
    (ss_one (s_asg (s_biT call_tuple_of kTuple_ok rfl m_tuple (by decide +kernel) (a_cons (s_var rfl (vis_by rfl) rfl rfl) a_nil rfl) (by decide) rfl) (g_fld (s_var rfl (vis_by rfl) rfl rfl) (nm_at hnm rfl) (nm_lt hnm (by decide)) fl_pairs) rfl rfl rfl))))))))
abbrev N_Graph_edges : List Str := ["self"]
theorem sc_Graph_edges : FnScope N_Graph_edges ["self"] (defScope (mb 45 5)) := ⟨rfl, rfl, rfl, by decide +kernel, rfl, by decide +kernel, by decide +kernel⟩
def r_Graph_edges : RunS := (runRet (runArgs (runCons (run1 (runVar 0) (opFld [2] 10)) runNil) (kList false)))
theorem ok_Graph_edges {P : Program} {w : World} {K : PySem.W.Frag} {mg : Str → Option Value} {base : Heap} {T : Tb} (hP : P = T.P) (hw : w = T.w) (fl_pairs : FldOk T K [2] 10) (hnm : T.nm = nm73) (m_list : mg "list" = none) {f : Addr} {fd : FuncData} (F : FunD K "edges" "Graph.edges" (defArgs (mb 45 5)) (defBody (mb 45 5)) (defScope (mb 45 5)) [] [] f fd) :
    FnOk P w K mg base (L2.CX P w) 1 f fd ["self"] (spF T K 1 (runDef 0 r_Graph_edges)) :=
  fn_run F sc_Graph_edges rfl fun cdv A outer s H EK E hr tk =>
    (ss_one (s_ret (s_biT call_list_of (kList_ok false) rfl m_list (by decide +kernel) (a_cons (s_fld (s_var rfl (vis_by rfl) rfl rfl) (nm_at hnm rfl) fl_pairs rfl) a_nil rfl) (by decide) rfl)))
abbrev N_Graph_check_state : List Str := ["self", "state"]
theorem sc_Graph_check_state : FnScope N_Graph_check_state ["self", "state"] (defScope (mb 45 7)) := ⟨rfl, rfl, rfl, by decide +kernel, rfl, by decide +kernel, by decide +kernel⟩
def r_Graph_check_state : RunS := (runIf (runNot (runChain (cI 0) (runVar 1) (run1 (runVar 0) (opFld [2] 9)) (cInt cLeP) cLt)) badS nxS)
theorem ok_Graph_check_state {P : Program} {w : World} {K : PySem.W.Frag} {mg : Str → Option Value} {base : Heap} {T : Tb} (hP : P = T.P) (hw : w = T.w) (fl_many_states : FldOk T K [2] 9) (hnm : T.nm = nm73) {f : Addr} {fd : FuncData} (F : FunD K "check_state" "Graph.check_state" (defArgs (mb 45 7)) (defBody (mb 45 7)) (defScope (mb 45 7)) [] [] f fd) :
    FnOk P w K mg base (L2.CX P w) 1 f fd ["self", "state"] (spF T K 2 (runDef 0 r_Graph_check_state)) :=
  fn_run F sc_Graph_check_state rfl fun cdv A outer s H EK E hr tk =>
    (ss_one (s_if (s_not (s_chain op_le (op_ltA (u0 hr)) (cInt_ok cLeP) cLt_ok ci (s_var rfl (vis_by rfl) rfl rfl) (s_fld (s_var rfl (vis_by rfl) rfl rfl) (nm_at hnm rfl) fl_many_states rfl) rfl)) (ss_one (z_s _)) ss_nil))
abbrev N_Graph_leaving : List Str := ["self", "state", "number", "pair"]
theorem sc_Graph_leaving : FnScope N_Graph_leaving ["self", "state"] (defScope (mb 45 8)) := ⟨rfl, rfl, rfl, by decide +kernel, rfl, by decide +kernel, by decide +kernel⟩
def r_Graph_leaving : RunS := (runSeq (runDrop (runMth [(2, (runDef 0 r_Graph_check_state))] false 25 (runVar 0) (runCons (runVar 1) runNil)))
    (runRet (runLc false (runEnumT (run1 (runVar 0) (opFld [2] 10))) (gTp 2 (gsCons (gNm 2) (gsCons (gNm 3) gsNil))) (run2 (run2 (runVar 3) (cI 0) opIxA) (runVar 1) (cOp cEq)) (runVar 2))))
theorem ok_Graph_leaving {P : Program} {w : World} {K : PySem.W.Frag} {mg : Str → Option Value} {base : Heap} {T : Tb} (hP : P = T.P) (hw : w = T.w) (fl_pairs : FldOk T K [2] 10) (hnm : T.nm = nm73) (m_enumerate : mg "enumerate" = none) (mt_check_state : MthP T P w K mg base 1 2 25 [(2, (runDef 0 r_Graph_check_state))]) {f : Addr} {fd : FuncData} (F : FunD K "leaving" "Graph.leaving" (defArgs (mb 45 8)) (defBody (mb 45 8)) (defScope (mb 45 8)) [] [] f fd) :
    FnOk P w K mg base (L2.CX P w) 2 f fd ["self", "state"] (spF T K 2 (runDef 2 r_Graph_leaving)) :=
  fn_run F sc_Graph_leaving rfl fun cdv A outer s H EK E hr tk =>
    (ss_cons (s_expr (s_mth tk (hr.mono (by decide)) mt_check_state (nm_at hnm rfl) (s_var rfl (vis_by rfl) rfl rfl) (a_cons (s_var rfl (vis_by rfl) rfl rfl) a_nil rfl) rfl) rfl)
    (ss_one (s_ret (s_lc rfl sc_Graph_leaving.nd (i_enumT rfl m_enumerate (s_fld (s_var rfl (vis_by rfl) rfl rfl) (nm_at hnm rfl) fl_pairs rfl) rfl) (own := [("number", 2), ("pair", 3)]) (blkOk_by (N := N_Graph_leaving) (sc := (defScope (mb 45 8))) (by decide +kernel)) (fun _ _ _ _ _ => (pg_tup rfl (pgs_cons (pg_name sc_Graph_leaving.nd rfl (loc_by rfl) (.inr rfl)) (pgs_cons (pg_name sc_Graph_leaving.nd rfl (loc_by rfl) (.inr rfl)) pgs_nil rfl) rfl) rfl rfl)) gc_2 (fun _ _ _ _ _ => pts_one ((s_cmp (op_eqA (u64 hr)) cEq_ok (s_ixA hP hw (u12 hr) (s_var rfl (vis_by rfl) rfl rfl) ci rfl) (s_var rfl (vis_by rfl) rfl rfl) rfl)).t) ts_one (fun _ _ _ _ _ => (s_var rfl (vis_by rfl) rfl rfl)) (fun _ => rfl)))))
abbrev N_Graph_following : List Str := ["self", "number"]
theorem sc_Graph_following : FnScope N_Graph_following ["self", "number"] (defScope (mb 45 10)) := ⟨rfl, rfl, rfl, by decide +kernel, rfl, by decide +kernel, by decide +kernel⟩
def r_Graph_following : RunS := (runRet (runMth [(2, (runDef 2 r_Graph_leaving))] false 24 (runVar 0) (runCons (run2 (run2 (run1 (runVar 0) (opFld [2] 10)) (runVar 1) opIxA) (cI 1) opIxA) runNil)))
theorem ok_Graph_following {P : Program} {w : World} {K : PySem.W.Frag} {mg : Str → Option Value} {base : Heap} {T : Tb} (hP : P = T.P) (hw : w = T.w) (fl_pairs : FldOk T K [2] 10) (hnm : T.nm = nm73) (mt_leaving : MthP T P w K mg base 2 2 24 [(2, (runDef 2 r_Graph_leaving))]) {f : Addr} {fd : FuncData} (F : FunD K "following" "Graph.following" (defArgs (mb 45 10)) (defBody (mb 45 10)) (defScope (mb 45 10)) [] [] f fd) :
    FnOk P w K mg base (L2.CX P w) 3 f fd ["self", "number"] (spF T K 2 (runDef 0 r_Graph_following)) :=
  fn_run F sc_Graph_following rfl fun cdv A outer s H EK E hr tk =>
    (ss_one (s_ret (s_mth tk (hr.mono (by decide)) mt_leaving (nm_at hnm rfl) (s_var rfl (vis_by rfl) rfl rfl) (a_cons (s_ixA hP hw (u12 hr) (s_ixA hP hw (u12 hr) (s_fld (s_var rfl (vis_by rfl) rfl rfl) (nm_at hnm rfl) fl_pairs rfl) (s_var rfl (vis_by rfl) rfl rfl) rfl) ci rfl) a_nil rfl) rfl)))
abbrev N_first_break : List Str := ["graph", "path", "many", "before", "place", "number"]
theorem sc_first_break : FnScope N_first_break ["graph", "path"] (defScope (top 26)) := ⟨rfl, rfl, rfl, by decide +kernel, rfl, by decide +kernel, by decide +kernel⟩
def r_first_break : RunS := (runSeq (runPar 2 3 (runCons (runArgs (runCons (runMth0 [(2, (runDef 0 r_Graph_edges))] false 22 (runVar 0)) runNil) kLen) (runCons cN runNil)))
    (runSeq (runFor (runEnumT (runVar 1)) (gTp 2 (gsCons (gNm 4) (gsCons (gNm 5) gsNil))) (runSeq (runIf (runOr (runNot (runChain (cI 0) (runVar 5) (runVar 2) (cInt cLeP) cLt)) (runAnd (run2 (runVar 3) cN (cOp cNotN)) (run2 (runVar 5) (runMth [(2, (runDef 0 r_Graph_following))] false 23 (runVar 0) (runCons (runVar 3) runNil)) (cOp cNiA)))) (runRet (runVar 4)) nxS)
    (runAsg (runVar 5) (gNm 3))))
    (runRet cN)))
theorem ok_first_break {P : Program} {w : World} {K : PySem.W.Frag} {mg : Str → Option Value} {base : Heap} {T : Tb} (hP : P = T.P) (hw : w = T.w) (hnm : T.nm = nm73) (m_enumerate : mg "enumerate" = none) (m_len : mg "len" = none) (mt_edges : MthP T P w K mg base 1 1 22 [(2, (runDef 0 r_Graph_edges))]) (mt_following : MthP T P w K mg base 3 2 23 [(2, (runDef 0 r_Graph_following))]) {f : Addr} {fd : FuncData} (F : FunD K "first_break" "first_break" (defArgs (top 26)) (defBody (top 26)) (defScope (top 26)) [] [] f fd) :
    FnOk P w K mg base (L2.CX P w) 4 f fd ["graph", "path"] (spF T K 2 (runDef 4 r_first_break)) :=
  fn_run F sc_first_break rfl fun cdv A outer s H EK E hr tk =>
    (ss_cons (s_par rfl sc_first_break.nd rfl rfl (by decide) rfl rfl (a_cons (s_biB cr_len kLen_ok (by rfl) m_len boot_len (a_cons (s_mth0 tk (hr.mono (by decide)) mt_edges (nm_at hnm rfl) (s_var rfl (vis_by rfl) rfl rfl) rfl) a_nil rfl) (by decide) rfl) (a_cons cn a_nil rfl) rfl) rfl rfl)
    (ss_cons (s_for owns_cx rfl (i_enumT rfl m_enumerate (s_var rfl (vis_by rfl) rfl rfl) rfl) (g_tup rfl (gs_cons (g_name sc_first_break.nd rfl (loc_by rfl) (.inl rfl)) (gs_cons (g_name sc_first_break.nd rfl (loc_by rfl) (.inl rfl)) gs_nil rfl) rfl) rfl rfl) (ss_cons (s_if (s_bool (sb_or (s_not (s_chain op_le (op_ltA (u0 hr)) (cInt_ok cLeP) cLt_ok ci (s_var rfl (vis_by rfl) rfl rfl) (s_var rfl (vis_by rfl) rfl rfl) rfl)) (sb_or1 (s_bool (sb_and (s_cmp op_notN cNotN_ok (s_var rfl (vis_by rfl) rfl rfl) cn rfl) (sb_and1 (s_cmp (op_niB hP hw (u65 hr)) cNiA_ok (s_var rfl (vis_by rfl) rfl rfl) (s_mth tk (hr.mono (by decide)) mt_following (nm_at hnm rfl) (s_var rfl (vis_by rfl) rfl rfl) (a_cons (s_var rfl (vis_by rfl) rfl rfl) a_nil rfl) rfl) rfl))))))) (ss_one (s_ret (s_var rfl (vis_by rfl) rfl rfl))) ss_nil)
    (ss_one (s_asg (s_var rfl (vis_by rfl) rfl rfl) (g_name sc_first_break.nd rfl (loc_by rfl) (.inl rfl)) rfl rfl rfl))) (fun _ => rfl))
    (ss_one (s_ret cn))))
abbrev N_Console_init : List Str := ["self", "workshop"]
theorem sc_Console_init : FnScope N_Console_init ["self", "workshop"] (defScope (mb 74 0)) := ⟨rfl, rfl, rfl, by decide +kernel, rfl, by decide +kernel, by decide +kernel⟩
def r_Console_init : RunS := (runSeq (runAsg (runVar 1) (gFld [3] 3 (runVar 0)))
    (runAsg (runArgs runNil (kLst true)) (gFld [3] 4 (runVar 0))))
theorem ok_Console_init {P : Program} {w : World} {K : PySem.W.Frag} {mg : Str → Option Value} {base : Heap} {T : Tb} (hP : P = T.P) (hw : w = T.w) (fl_lines : FldOk T K [3] 4) (fl_workshop : FldOk T K [3] 3) (hnm : T.nm = nm73) {f : Addr} {fd : FuncData} (F : FunD K "__init__" "Console.__init__" (defArgs (mb 74 0)) (defBody (mb 74 0)) (defScope (mb 74 0)) [] [] f fd) :
    FnOk P w K mg base (L2.CX P w) 1 f fd ["self", "workshop"] (spF T K 2 (runDef 0 r_Console_init)) :=
  fn_run F sc_Console_init rfl fun cdv A outer s H EK E hr tk =>
    (ss_cons (s_asg (s_var rfl (vis_by rfl) rfl rfl) (g_fld (s_var rfl (vis_by rfl) rfl rfl) (nm_at hnm rfl) (nm_lt hnm (by decide)) fl_workshop) rfl rfl rfl)
    (ss_one (s_asg (s_lst true a_nil (by decide)) (g_fld (s_var rfl (vis_by rfl) rfl rfl) (nm_at hnm rfl) (nm_lt hnm (by decide)) fl_lines) rfl rfl rfl)))
abbrev N_Workshop_init : List Str := ["self"]
theorem sc_Workshop_init : FnScope N_Workshop_init ["self"] (defScope (mb 83 0)) := ⟨rfl, rfl, rfl, by decide +kernel, rfl, by decide +kernel, by decide +kernel⟩
def r_Workshop_init : RunS := (runSeq (runAsg (kDnew true) (gFld [4] 5 (runVar 0)))
    (runSeq (runAsg (runArgs runNil (kLst true)) (gFld [4] 6 (runVar 0)))
    (runSeq (runAsg (runArgs runNil (kLst true)) (gFld [4] 7 (runVar 0)))
    (runAsg (cI 12) (gFld [4] 8 (runVar 0))))))
theorem ok_Workshop_init {P : Program} {w : World} {K : PySem.W.Frag} {mg : Str → Option Value} {base : Heap} {T : Tb} (hP : P = T.P) (hw : w = T.w) (fl_future : FldOk T K [4] 7) (fl_past : FldOk T K [4] 6) (fl_room : FldOk T K [4] 8) (fl_things : FldOk T K [4] 5) (gi_MAX_THINGS : ∃ t, mg "MAX_THINGS" = some (.int 12 t)) (hnm : T.nm = nm73) {f : Addr} {fd : FuncData} (F : FunD K "__init__" "Workshop.__init__" (defArgs (mb 83 0)) (defBody (mb 83 0)) (defScope (mb 83 0)) [] [] f fd) :
    FnOk P w K mg base (L2.CX P w) 1 f fd ["self"] (spF T K 1 (runDef 0 r_Workshop_init)) :=
  fn_run F sc_Workshop_init rfl fun cdv A outer s H EK E hr tk =>
    (ss_cons (s_asg s_dnewK (g_fld (s_var rfl (vis_by rfl) rfl rfl) (nm_at hnm rfl) (nm_lt hnm (by decide)) fl_things) rfl rfl rfl)
    (ss_cons (s_asg (s_lst true a_nil (by decide)) (g_fld (s_var rfl (vis_by rfl) rfl rfl) (nm_at hnm rfl) (nm_lt hnm (by decide)) fl_past) rfl rfl rfl)
    (ss_cons (s_asg (s_lst true a_nil (by decide)) (g_fld (s_var rfl (vis_by rfl) rfl rfl) (nm_at hnm rfl) (nm_lt hnm (by decide)) fl_future) rfl rfl rfl)
    (ss_one (s_asg (s_gint rfl gi_MAX_THINGS rfl) (g_fld (s_var rfl (vis_by rfl) rfl rfl) (nm_at hnm rfl) (nm_lt hnm (by decide)) fl_room) rfl rfl rfl)))))
abbrev N_Workshop_len : List Str := ["self"]
theorem sc_Workshop_len : FnScope N_Workshop_len ["self"] (defScope (mb 83 6)) := ⟨rfl, rfl, rfl, by decide +kernel, rfl, by decide +kernel, by decide +kernel⟩
def r_Workshop_len : RunS := (runRet (runArgs (runCons (run1 (runVar 0) (opFld [4] 5)) runNil) kLenD))
theorem ok_Workshop_len {P : Program} {w : World} {K : PySem.W.Frag} {mg : Str → Option Value} {base : Heap} {T : Tb} (hP : P = T.P) (hw : w = T.w) (fl_things : FldOk T K [4] 5) (hnm : T.nm = nm73) (m_len : mg "len" = none) {f : Addr} {fd : FuncData} (F : FunD K "__len__" "Workshop.__len__" (defArgs (mb 83 6)) (defBody (mb 83 6)) (defScope (mb 83 6)) [] [] f fd) :
    FnOk P w K mg base (L2.CX P w) 1 f fd ["self"] (spF T K 1 (runDef 0 r_Workshop_len)) :=
  fn_run F sc_Workshop_len rfl fun cdv A outer s H EK E hr tk =>
    (ss_one (s_ret (s_biB call_lenD kLenD_ok rfl m_len boot_len (a_cons (s_fld (s_var rfl (vis_by rfl) rfl rfl) (nm_at hnm rfl) fl_things rfl) a_nil rfl) (by decide) rfl)))
end
end WK
set_option Elab.async false
set_option linter.all false
set_option maxRecDepth 100000
set_option maxHeartbeats 0
namespace WK
noncomputable section
open PySem PySem.Spec PyProof.Rows L2

/-! what the rows' defs give -/
def runShort (xs : List MV) (h : MH) : Tr ER := match xs with
  | [.tup cs] => match intsR cs with
    | some cy => ifT (Nat.ble 1 cy.length && Nat.ble cy.length 100) (okE (.tup ((shortL cy).map .int)) h)
    | none => .bad
  | _ => .bad
def rowOf : MV → Option (List Int × List Int)
  | .tup [.tup hs, .tup cs] => match intsR hs, intsR cs with
    | some hd, some cy => some (hd, cy)
    | _, _ => none
  | _ => none
def okR (p : List Int × List Int) : Bool := !p.2.isEmpty && (Nat.ble p.1.length 8 && Nat.ble p.2.length 8)
def runNormC (xs : List MV) (h : MH) : Tr ER := match xs with
  | [x] => match rowOf x with
    | some p => ifT (okR p) (okE (rowM (normL p.1 p.2).1 (normL p.1 p.2).2) h)
    | none => .bad
  | _ => .bad
def runNormA (xs : List MV) (h : MH) : Tr ER := match xs with
  | [.row t] => okE (.row t) h
  | _ => .bad
def runDropC (xs : List MV) (h : MH) : Tr ER := match xs with
  | [x, .int n] => match rowOf x with
    | some p => ifT (okR p && decide (0 ≤ n)) (okE (rowM (dropL p.1 p.2 n).1 (dropL p.1 p.2 n).2) h)
    | none => .bad
  | _ => .bad
def runDropA (xs : List MV) (h : MH) : Tr ER := match xs with
  | [.row t, .num k] => okE (.row (.drp t k)) h
  | [.row t, .int n] => ifT (decide (n = 0)) (okE (.row t) h)
  | _ => .bad
def isG (fs : List (Nat × MV)) : Bool := match fs with
  | [(9, .int 1), (10, .tup [.tup [.int 0, .int 0], .tup [.int 0, .int 0]])] => true
  | _ => false
def runCheckA (xs : List MV) (h : MH) : Tr ER := match xs with
  | [.ins 2 fs, .row t] => ifT (isG fs) (okE .non h)
  | _ => .bad
def runCountA (xs : List MV) (h : MH) : Tr ER := match xs with
  | [.nst p l] => ifT (Nat.beq p.length 0) (okE (.bl true) h)
  | xs => runDef 1 r_is_count xs h

abbrev N_normal_row : List Str := ["row", "head", "cycle"]
theorem sc_normal_row : FnScope N_normal_row ["row"] (defScope (top 36)) := ⟨rfl, rfl, rfl, by decide +kernel, rfl, by decide +kernel, by decide +kernel⟩
def r_normal_row : RunS := (runSeq (runPar 1 2 (runCons (runArgs (runCons (run2 (runVar 0) (cI 0) opIxA) runNil) kTuple) (runCons (runArgs (runCons (runArgs (runCons (run2 (runVar 0) (cI 1) opIxA) runNil) kTuple) runNil) (runF false [] runShort)) runNil)))
    (runSeq (runWh (runAnd (run2 (runVar 1) (runArgs runNil kTup) (cOp cNe)) (run2 (run2 (runVar 1) (run1 (cI 1) opNeg) opIxA) (run2 (runVar 2) (run1 (cI 1) opNeg) opIxA) (cOp cEq))) (runPar 1 2 (runCons (runSl false (runVar 1) runNoP (runPt (run1 (cI 1) opNeg))) (runCons (run2 (runSl false (runVar 2) (runPt (run1 (cI 1) opNeg)) runNoP) (runSl false (runVar 2) runNoP (runPt (run1 (cI 1) opNeg))) (opAdd false)) runNil))) 40)
    (runRet (runArgs (runCons (runVar 1) (runCons (runVar 2) runNil)) kTup))))
theorem ok_normal_row {P : Program} {w : World} {K : PySem.W.Frag} {mg : Str → Option Value} {base : Heap} {T : Tb} (hP : P = T.P) (hw : w = T.w) (c_shortest : Cal T P w K mg base "shortest" 1 1 runShort) (m_tuple : mg "tuple" = none) {f : Addr} {fd : FuncData} (F : FunD K "normal_row" "normal_row" (defArgs (top 36)) (defBody (top 36)) (defScope (top 36)) [] [] f fd) :
    FnOk P w K mg base (L2.CX P w) 2 f fd ["row"] (spF T K 1 (runDef 2 r_normal_row)) :=
  fn_run F sc_normal_row rfl fun cdv A outer s H EK E hr tk =>
    (ss_cons (s_par rfl sc_normal_row.nd rfl rfl (by decide) rfl rfl (a_cons (s_biT call_tuple_of kTuple_ok rfl m_tuple (by decide +kernel) (a_cons (s_ixA hP hw (u12 hr) (s_var rfl (vis_by rfl) rfl rfl) ci rfl) a_nil rfl) (by decide) rfl) (a_cons (s_cal c_shortest tk (hr.mono (by decide)) rfl (a_cons (s_biT call_tuple_of kTuple_ok rfl m_tuple (by decide +kernel) (a_cons (s_ixA hP hw (u12 hr) (s_var rfl (vis_by rfl) rfl rfl) ci rfl) a_nil rfl) (by decide) rfl) a_nil rfl) rfl rfl) a_nil rfl) rfl) rfl rfl)
    (ss_cons (s_while 40 owns_cx (s_bool (sb_and (s_cmp (op_neA (u64 hr)) cNe_ok (s_var rfl (vis_by rfl) rfl rfl) (s_tup a_nil (by decide)) rfl) (sb_and1 (s_cmp (op_eqA (u64 hr)) cEq_ok (s_ixA hP hw (u12 hr) (s_var rfl (vis_by rfl) rfl rfl) (s_neg ci) rfl) (s_ixA hP hw (u12 hr) (s_var rfl (vis_by rfl) rfl rfl) (s_neg ci) rfl) rfl)))) (ss_one (s_par rfl sc_normal_row.nd rfl rfl (by decide) rfl rfl (a_cons (s_sl false (s_var rfl (vis_by rfl) rfl rfl) o_none (o_some (s_neg ci))) (a_cons (s_bin op_addA (opAdd_ok false) (s_sl false (s_var rfl (vis_by rfl) rfl rfl) (o_some (s_neg ci)) o_none) (s_sl false (s_var rfl (vis_by rfl) rfl rfl) o_none (o_some (s_neg ci)))) a_nil rfl) rfl) rfl rfl)))
    (ss_one (s_ret (s_tup (a_cons (s_var rfl (vis_by rfl) rfl rfl) (a_cons (s_var rfl (vis_by rfl) rfl rfl) a_nil rfl) rfl) (by decide))))))
abbrev N_drop : List Str := ["row", "count", "head", "cycle", "turn"]
theorem sc_drop : FnScope N_drop ["row", "count"] (defScope (top 38)) := ⟨rfl, rfl, rfl, by decide +kernel, rfl, by decide +kernel, by decide +kernel⟩
def r_drop : RunS := (runSeq (runIf (run2 (runVar 1) (cI 0) (cOp cLt)) badS nxS)
    (runSeq (runAsg (runVar 0) (gTp 2 (gsCons (gNm 2) (gsCons (gNm 3) gsNil))))
    (runSeq (runIf (run2 (runVar 1) (runArgs (runCons (runVar 2) runNil) kLen) (cOp cLt)) (runRet (runArgs (runCons (runArgs (runCons (runSl false (runVar 2) (runPt (runVar 1)) runNoP) (runCons (runVar 3) runNil)) kTup) runNil) (runF false [] runNormC))) nxS)
    (runSeq (runAsg (run2 (run2 (runVar 1) (runArgs (runCons (runVar 2) runNil) kLen) opSub) (runArgs (runCons (runVar 3) runNil) kLen) opMod) (gNm 4))
    (runRet (runArgs (runCons (runArgs (runCons (runArgs runNil kTup) (runCons (run2 (runArgs (runCons (runSl false (runVar 3) (runPt (runVar 4)) runNoP) runNil) kTuple) (runArgs (runCons (runSl false (runVar 3) runNoP (runPt (runVar 4))) runNil) kTuple) (opAdd false)) runNil)) kTup) runNil) (runF false [] runNormC)))))))
theorem ok_drop {P : Program} {w : World} {K : PySem.W.Frag} {mg : Str → Option Value} {base : Heap} {T : Tb} (hP : P = T.P) (hw : w = T.w) (c_normal_row : Cal T P w K mg base "normal_row" 2 1 runNormC) (m_len : mg "len" = none) (m_tuple : mg "tuple" = none) {f : Addr} {fd : FuncData} (F : FunD K "drop" "drop" (defArgs (top 38)) (defBody (top 38)) (defScope (top 38)) [] [("count", .int 1)] f fd) :
    FnOk P w K mg base (L2.CX P w) 3 f fd ["row", "count"] (spF T K 2 (runDef 3 r_drop)) :=
  fn_run F sc_drop rfl fun cdv A outer s H EK E hr tk =>
    (ss_cons (s_if (s_cmp (op_ltA (u0 hr)) cLt_ok (s_var rfl (vis_by rfl) rfl rfl) ci rfl) (ss_one (z_s _)) ss_nil)
    (ss_cons (s_asg (s_var rfl (vis_by rfl) rfl rfl) (g_tup rfl (gs_cons (g_name sc_drop.nd rfl (loc_by rfl) (.inl rfl)) (gs_cons (g_name sc_drop.nd rfl (loc_by rfl) (.inl rfl)) gs_nil rfl) rfl) rfl rfl) rfl rfl rfl)
    (ss_cons (s_if (s_cmp (op_ltA (u0 hr)) cLt_ok (s_var rfl (vis_by rfl) rfl rfl) (s_biB cr_len kLen_ok (by rfl) m_len boot_len (a_cons (s_var rfl (vis_by rfl) rfl rfl) a_nil rfl) (by decide) rfl) rfl) (ss_one (s_ret (s_cal c_normal_row tk (hr.mono (by decide)) rfl (a_cons (s_tup (a_cons (s_sl false (s_var rfl (vis_by rfl) rfl rfl) (o_some (s_var rfl (vis_by rfl) rfl rfl)) o_none) (a_cons (s_var rfl (vis_by rfl) rfl rfl) a_nil rfl) rfl) (by decide)) a_nil rfl) rfl rfl))) ss_nil)
    (ss_cons (s_asg (s_bin op_modN opMod_ok (s_bin op_sub opSub_ok (s_var rfl (vis_by rfl) rfl rfl) (s_biB cr_len kLen_ok (by rfl) m_len boot_len (a_cons (s_var rfl (vis_by rfl) rfl rfl) a_nil rfl) (by decide) rfl)) (s_biB cr_len kLen_ok (by rfl) m_len boot_len (a_cons (s_var rfl (vis_by rfl) rfl rfl) a_nil rfl) (by decide) rfl)) (g_name sc_drop.nd rfl (loc_by rfl) (.inl rfl)) rfl rfl rfl)
    (ss_one (s_ret (s_cal c_normal_row tk (hr.mono (by decide)) rfl (a_cons (s_tup (a_cons (s_tup a_nil (by decide)) (a_cons (s_bin op_addA (opAdd_ok false) (s_biT call_tuple_of kTuple_ok rfl m_tuple (by decide +kernel) (a_cons (s_sl false (s_var rfl (vis_by rfl) rfl rfl) (o_some (s_var rfl (vis_by rfl) rfl rfl)) o_none) a_nil rfl) (by decide) rfl) (s_biT call_tuple_of kTuple_ok rfl m_tuple (by decide +kernel) (a_cons (s_sl false (s_var rfl (vis_by rfl) rfl rfl) o_none (o_some (s_var rfl (vis_by rfl) rfl rfl))) a_nil rfl) (by decide) rfl)) a_nil rfl) rfl) (by decide)) a_nil rfl) rfl rfl)))))))
abbrev N_check_row : List Str := ["graph", "row", "head", "cycle", "place"]
theorem sc_check_row : FnScope N_check_row ["graph", "row"] (defScope (top 34)) := ⟨rfl, rfl, rfl, by decide +kernel, rfl, by decide +kernel, by decide +kernel⟩
def r_check_row : RunS := (runSeq (runAsg (runVar 1) (gTp 2 (gsCons (gNm 2) (gsCons (gNm 3) gsNil))))
    (runSeq (runIf (run2 (runArgs (runCons (runVar 3) runNil) kLen) (cI 0) (cOp cEq)) badS nxS)
    (runSeq (runAsg (runArgs (runCons (runVar 0) (runCons (run2 (run2 (runArgs (runCons (runVar 2) runNil) kTuple) (runArgs (runCons (runVar 3) runNil) kTuple) (opAdd false)) (runArgs (runCons (runSl false (runVar 3) runNoP (runPt (cI 1))) runNil) kTuple) (opAdd false)) runNil)) (runF false [] (runDef 4 r_first_break))) (gNm 4))
    (runIf (run2 (runVar 4) cN (cOp cNotN)) badS nxS))))
theorem ok_check_row {P : Program} {w : World} {K : PySem.W.Frag} {mg : Str → Option Value} {base : Heap} {T : Tb} (hP : P = T.P) (hw : w = T.w) (c_first_break : Cal T P w K mg base "first_break" 4 2 (runDef 4 r_first_break)) (m_len : mg "len" = none) (m_tuple : mg "tuple" = none) {f : Addr} {fd : FuncData} (F : FunD K "check_row" "check_row" (defArgs (top 34)) (defBody (top 34)) (defScope (top 34)) [] [] f fd) :
    FnOk P w K mg base (L2.CX P w) 5 f fd ["graph", "row"] (spF T K 2 (runDef 3 r_check_row)) :=
  fn_run F sc_check_row rfl fun cdv A outer s H EK E hr tk =>
    (ss_cons (s_asg (s_var rfl (vis_by rfl) rfl rfl) (g_tup rfl (gs_cons (g_name sc_check_row.nd rfl (loc_by rfl) (.inl rfl)) (gs_cons (g_name sc_check_row.nd rfl (loc_by rfl) (.inl rfl)) gs_nil rfl) rfl) rfl rfl) rfl rfl rfl)
    (ss_cons (s_if (s_cmp (op_eqA (u64 hr)) cEq_ok (s_biB cr_len kLen_ok (by rfl) m_len boot_len (a_cons (s_var rfl (vis_by rfl) rfl rfl) a_nil rfl) (by decide) rfl) ci rfl) (ss_one (z_s _)) ss_nil)
    (ss_cons (s_asg (s_cal c_first_break tk (hr.mono (by decide)) rfl (a_cons (s_var rfl (vis_by rfl) rfl rfl) (a_cons (s_bin op_addA (opAdd_ok false) (s_bin op_addA (opAdd_ok false) (s_biT call_tuple_of kTuple_ok rfl m_tuple (by decide +kernel) (a_cons (s_var rfl (vis_by rfl) rfl rfl) a_nil rfl) (by decide) rfl) (s_biT call_tuple_of kTuple_ok rfl m_tuple (by decide +kernel) (a_cons (s_var rfl (vis_by rfl) rfl rfl) a_nil rfl) (by decide) rfl)) (s_biT call_tuple_of kTuple_ok rfl m_tuple (by decide +kernel) (a_cons (s_sl false (s_var rfl (vis_by rfl) rfl rfl) o_none (o_some ci)) a_nil rfl) (by decide) rfl)) a_nil rfl) rfl) rfl rfl) (g_name sc_check_row.nd rfl (loc_by rfl) (.inl rfl)) rfl rfl rfl)
    (ss_one (s_if (s_cmp op_notN cNotN_ok (s_var rfl (vis_by rfl) rfl rfl) cn rfl) (ss_one (z_s _)) ss_nil)))))
abbrev N_normal : List Str := ["_law_row", "_law_head", "_law_cycle", "_law_sizes", "_law_size"]
theorem sc_normal : FnScope N_normal ["_law_row"] (defScope (top 88)) := ⟨rfl, rfl, rfl, by decide +kernel, rfl, by decide +kernel, by decide +kernel⟩
def r_normal : RunS := (runSeq (runAsg (runVar 0) (gTp 2 (gsCons (gNm 1) (gsCons (gNm 2) gsNil))))
    (runSeq (runAsg (runLc false (runRng2 (runCons (cI 1) (runCons (run2 (runArgs (runCons (runVar 2) runNil) kLen) (cI 1) (opAdd false)) runNil))) (gNm 4) (run2 (runVar 2) (runSl false (run2 (runSl false (runVar 2) runNoP (runPt (runVar 4))) (runArgs (runCons (runVar 2) runNil) kLen) opMulT) runNoP (runPt (runArgs (runCons (runVar 2) runNil) kLen))) (cOp cEq)) (runVar 4)) (gNm 3))
    (runSeq (runAsg (runSl false (runVar 2) runNoP (runPt (run2 (runLc false (runSq (runVar 3)) (gNm 4) (run2 (run2 (runArgs (runCons (runVar 2) runNil) kLen) (runVar 4) opMod) (cI 0) (cOp cEq)) (runVar 4)) (cI 0) opIxA))) (gNm 2))
    (runSeq (runWh (runAnd (run2 (runArgs (runCons (runVar 1) runNil) kLen) (cI 0) (cOp (cInt cGtP))) (run2 (run2 (runVar 1) (run1 (cI 1) opNeg) opIxA) (run2 (runVar 2) (run1 (cI 1) opNeg) opIxA) (cOp cEq))) (runAsg (runArgs (runCons (runSl false (runVar 1) runNoP (runPt (run1 (cI 1) opNeg))) (runCons (run2 (runArgs (runCons (run2 (runVar 2) (run1 (cI 1) opNeg) opIxA) runNil) kTup) (runSl false (runVar 2) runNoP (runPt (run1 (cI 1) opNeg))) (opAdd false)) runNil)) kTup) (gTp 2 (gsCons (gNm 1) (gsCons (gNm 2) gsNil)))) 40)
    (runRet (runArgs (runCons (runVar 1) (runCons (runVar 2) runNil)) kTup))))))
theorem ok_normal {P : Program} {w : World} {K : PySem.W.Frag} {mg : Str → Option Value} {base : Heap} {T : Tb} (hP : P = T.P) (hw : w = T.w) (m_len : mg "len" = none) (m_range : mg "range" = none) {f : Addr} {fd : FuncData} (F : FunD K "_law_normal" "_law_normal" (defArgs (top 88)) (defBody (top 88)) (defScope (top 88)) [] [] f fd) :
    FnOk P w K mg base (L2.CX P w) 1 f fd ["_law_row"] (spF T K 1 (runDef 4 r_normal)) :=
  fn_run F sc_normal rfl fun cdv A outer s H EK E hr tk =>
    (ss_cons (s_asg (s_var rfl (vis_by rfl) rfl rfl) (g_tup rfl (gs_cons (g_name sc_normal.nd rfl (loc_by rfl) (.inl rfl)) (gs_cons (g_name sc_normal.nd rfl (loc_by rfl) (.inl rfl)) gs_nil rfl) rfl) rfl rfl) rfl rfl rfl)
    (ss_cons (s_setLc rfl sc_normal.nd rfl rfl rfl (i_range2 rfl m_range (a_cons ci (a_cons (s_bin op_addA (opAdd_ok false) (s_biB cr_len kLen_ok (by rfl) m_len boot_len (a_cons (s_var rfl (vis_by rfl) rfl rfl) a_nil rfl) (by decide) rfl) ci) a_nil rfl) rfl) rfl rfl) (own := [("_law_size", 4)]) (blkOk_by (N := N_normal) (sc := (defScope (top 88))) (by decide +kernel)) (fun _ _ _ _ _ => (pg_name sc_normal.nd rfl (loc_by rfl) (.inr rfl))) gc_nm (fun _ _ _ _ _ => pts_one ((s_cmp (op_eqA (u64 hr)) cEq_ok (s_var rfl (vis_by rfl) rfl rfl) (s_sl false (s_bin op_mulT opMulT_ok (s_sl false (s_var rfl (vis_by rfl) rfl rfl) o_none (o_some (s_var rfl (vis_by rfl) rfl rfl))) (s_biB cr_len kLen_ok (by rfl) m_len boot_len (a_cons (s_var rfl (vis_by rfl) rfl rfl) a_nil rfl) (by decide) rfl)) o_none (o_some (s_biB cr_len kLen_ok (by rfl) m_len boot_len (a_cons (s_var rfl (vis_by rfl) rfl rfl) a_nil rfl) (by decide) rfl))) rfl)).t) ts_one (fun _ _ _ _ _ => (s_var rfl (vis_by rfl) rfl rfl)) (fun _ => rfl))
    (ss_cons (s_asg (s_sl false (s_var rfl (vis_by rfl) rfl rfl) o_none (o_some (s_ixA hP hw (u12 hr) (s_lc rfl sc_normal.nd (i_seq (s_var rfl (vis_by rfl) rfl rfl)) (own := [("_law_size", 4)]) (blkOk_by (N := N_normal) (sc := (defScope (top 88))) (by decide +kernel)) (fun _ _ _ _ _ => (pg_name sc_normal.nd rfl (loc_by rfl) (.inr rfl))) gc_nm (fun _ _ _ _ _ => pts_one ((s_cmp (op_eqA (u64 hr)) cEq_ok (s_bin op_modN opMod_ok (s_biB cr_len kLen_ok (by rfl) m_len boot_len (a_cons (s_var rfl (vis_by rfl) rfl rfl) a_nil rfl) (by decide) rfl) (s_var rfl (vis_by rfl) rfl rfl)) ci rfl)).t) ts_one (fun _ _ _ _ _ => (s_var rfl (vis_by rfl) rfl rfl)) (fun _ => rfl)) ci rfl))) (g_name sc_normal.nd rfl (loc_by rfl) (.inl rfl)) rfl rfl rfl)
    (ss_cons (s_while 40 owns_cx (s_bool (sb_and (s_cmp op_gt (cInt_ok cGtP) (s_biB cr_len kLen_ok (by rfl) m_len boot_len (a_cons (s_var rfl (vis_by rfl) rfl rfl) a_nil rfl) (by decide) rfl) ci rfl) (sb_and1 (s_cmp (op_eqA (u64 hr)) cEq_ok (s_ixA hP hw (u12 hr) (s_var rfl (vis_by rfl) rfl rfl) (s_neg ci) rfl) (s_ixA hP hw (u12 hr) (s_var rfl (vis_by rfl) rfl rfl) (s_neg ci) rfl) rfl)))) (ss_one (s_asg (s_tup (a_cons (s_sl false (s_var rfl (vis_by rfl) rfl rfl) o_none (o_some (s_neg ci))) (a_cons (s_bin op_addA (opAdd_ok false) (s_tup (a_cons (s_ixA hP hw (u12 hr) (s_var rfl (vis_by rfl) rfl rfl) (s_neg ci) rfl) a_nil rfl) (by decide)) (s_sl false (s_var rfl (vis_by rfl) rfl rfl) o_none (o_some (s_neg ci)))) a_nil rfl) rfl) (by decide)) (g_tup rfl (gs_cons (g_name sc_normal.nd rfl (loc_by rfl) (.inl rfl)) (gs_cons (g_name sc_normal.nd rfl (loc_by rfl) (.inl rfl)) gs_nil rfl) rfl) rfl rfl) rfl rfl rfl)))
    (ss_one (s_ret (s_tup (a_cons (s_var rfl (vis_by rfl) rfl rfl) (a_cons (s_var rfl (vis_by rfl) rfl rfl) a_nil rfl) rfl) (by decide))))))))
abbrev N_count_closed : List Str := ["graph", "length", "power", "left", "square", "state"]
theorem sc_count_closed : FnScope N_count_closed ["graph", "length"] (defScope (top 32)) := ⟨rfl, rfl, rfl, by decide +kernel, rfl, by decide +kernel, by decide +kernel⟩
def r_count_closed : RunS := (runSeq (runDrop (runArgs (runCons (runVar 1) (runCons (cI 2000) runNil)) (runF false [] (runDef 0 r_need_length))))
    (runSeq (runAsg (runArgs (runCons badE (runCons (run2 (runVar 1) (cI 1) opSub) runNil)) kTup) (gTp 2 (gsCons (gNm 2) (gsCons (gNm 3) gsNil))))
    (runSeq (runAsg (runVar 2) (gNm 4))
    (runSeq (runWh (run2 (runVar 3) (cI 0) (cOp (cInt cGtP))) (runSeq (runIf (run2 (run2 (runVar 3) (cI 2) opMod) (cI 1) (cOp cEq)) (runAsg badE (gNm 2)) nxS)
    (runSeq (runAsg badE (gNm 4))
    (runAsg (run2 (runVar 3) (cI 2) opFdiv) (gNm 3)))) 40)
    (runRet badE)))))
theorem ok_count_closed {P : Program} {w : World} {K : PySem.W.Frag} {mg : Str → Option Value} {base : Heap} {T : Tb} (hP : P = T.P) (hw : w = T.w) (c_need_length : Cal T P w K mg base "need_length" 3 2 (runDef 0 r_need_length)) (gi_MAX_COUNTED : ∃ t, mg "MAX_COUNTED" = some (.int 2000 t)) (m_len : mg "len" = none) (m_range : mg "range" = none) {f : Addr} {fd : FuncData} (F : FunD K "count_closed" "count_closed" (defArgs (top 32)) (defBody (top 32)) (defScope (top 32)) [] [] f fd) :
    FnOk P w K mg base (L2.CX P w) 4 f fd ["graph", "length"] (spF T K 2 (runDef 4 r_count_closed)) :=
  fn_run F sc_count_closed rfl fun cdv A outer s H EK E hr tk =>
    (ss_cons (s_expr (s_cal c_need_length tk (hr.mono (by decide)) rfl (a_cons (s_var rfl (vis_by rfl) rfl rfl) (a_cons (s_gint rfl gi_MAX_COUNTED rfl) a_nil rfl) rfl) rfl rfl) rfl)
    (ss_cons (s_asg (s_tup (a_cons (z_e _) (a_cons (s_bin op_sub opSub_ok (s_var rfl (vis_by rfl) rfl rfl) ci) a_nil rfl) rfl) (by decide)) (g_tup rfl (gs_cons (g_name sc_count_closed.nd rfl (loc_by rfl) (.inl rfl)) (gs_cons (g_name sc_count_closed.nd rfl (loc_by rfl) (.inl rfl)) gs_nil rfl) rfl) rfl rfl) rfl rfl rfl)
    (ss_cons (s_asg (s_var rfl (vis_by rfl) rfl rfl) (g_name sc_count_closed.nd rfl (loc_by rfl) (.inl rfl)) rfl rfl rfl)
    (ss_cons (s_while 40 owns_cx (s_cmp op_gt (cInt_ok cGtP) (s_var rfl (vis_by rfl) rfl rfl) ci rfl) (ss_cons (s_if (s_cmp (op_eqA (u64 hr)) cEq_ok (s_bin op_modN opMod_ok (s_var rfl (vis_by rfl) rfl rfl) ci) ci rfl) (ss_one (s_asg (z_e _) (g_name sc_count_closed.nd rfl (loc_by rfl) (.inl rfl)) rfl rfl rfl)) ss_nil)
    (ss_cons (s_asg (z_e _) (g_name sc_count_closed.nd rfl (loc_by rfl) (.inl rfl)) rfl rfl rfl)
    (ss_one (s_asg (s_bin op_fdivN opFdiv_ok (s_var rfl (vis_by rfl) rfl rfl) ci) (g_name sc_count_closed.nd rfl (loc_by rfl) (.inl rfl)) rfl rfl rfl)))))
    (ss_one (s_ret (z_e _)))))))
abbrev N_Workshop_graph : List Str := ["self", "name"]
theorem sc_Workshop_graph : FnScope N_Workshop_graph ["self", "name"] (defScope (mb 83 10)) := ⟨rfl, rfl, rfl, by decide +kernel, rfl, by decide +kernel, by decide +kernel⟩
def r_Workshop_graph : RunS := (runRet (run2 (runArgs (runCons (run1 (runVar 0) (opFld [4] 5)) (runCons (runVar 1) (runCons (cS "graph") runNil))) (runF false [] (runDef 0 r_thing_of))) (cI 1) opIxA))
theorem ok_Workshop_graph {P : Program} {w : World} {K : PySem.W.Frag} {mg : Str → Option Value} {base : Heap} {T : Tb} (hP : P = T.P) (hw : w = T.w) (c_thing_of : Cal T P w K mg base "thing_of" 3 3 (runDef 0 r_thing_of)) (fl_things : FldOk T K [4] 5) (hnm : T.nm = nm73) {f : Addr} {fd : FuncData} (F : FunD K "graph" "Workshop.graph" (defArgs (mb 83 10)) (defBody (mb 83 10)) (defScope (mb 83 10)) [] [] f fd) :
    FnOk P w K mg base (L2.CX P w) 4 f fd ["self", "name"] (spF T K 2 (runDef 0 r_Workshop_graph)) :=
  fn_run F sc_Workshop_graph rfl fun cdv A outer s H EK E hr tk =>
    (ss_one (s_ret (s_ixA hP hw (u12 hr) (s_cal c_thing_of tk (hr.mono (by decide)) rfl (a_cons (s_fld (s_var rfl (vis_by rfl) rfl rfl) (nm_at hnm rfl) fl_things rfl) (a_cons (s_var rfl (vis_by rfl) rfl rfl) (a_cons cs a_nil rfl) rfl) rfl) rfl rfl) ci rfl)))
abbrev N_Workshop_row : List Str := ["self", "name"]
theorem sc_Workshop_row : FnScope N_Workshop_row ["self", "name"] (defScope (mb 83 11)) := ⟨rfl, rfl, rfl, by decide +kernel, rfl, by decide +kernel, by decide +kernel⟩
def r_Workshop_row : RunS := (runRet (runSl false (runArgs (runCons (run1 (runVar 0) (opFld [4] 5)) (runCons (runVar 1) (runCons (cS "row") runNil))) (runF false [] (runDef 0 r_thing_of))) (runPt (cI 1)) runNoP))
theorem ok_Workshop_row {P : Program} {w : World} {K : PySem.W.Frag} {mg : Str → Option Value} {base : Heap} {T : Tb} (hP : P = T.P) (hw : w = T.w) (c_thing_of : Cal T P w K mg base "thing_of" 3 3 (runDef 0 r_thing_of)) (fl_things : FldOk T K [4] 5) (hnm : T.nm = nm73) {f : Addr} {fd : FuncData} (F : FunD K "row" "Workshop.row" (defArgs (mb 83 11)) (defBody (mb 83 11)) (defScope (mb 83 11)) [] [] f fd) :
    FnOk P w K mg base (L2.CX P w) 4 f fd ["self", "name"] (spF T K 2 (runDef 0 r_Workshop_row)) :=
  fn_run F sc_Workshop_row rfl fun cdv A outer s H EK E hr tk =>
    (ss_one (s_ret (s_sl false (s_cal c_thing_of tk (hr.mono (by decide)) rfl (a_cons (s_fld (s_var rfl (vis_by rfl) rfl rfl) (nm_at hnm rfl) fl_things rfl) (a_cons (s_var rfl (vis_by rfl) rfl rfl) (a_cons cs a_nil rfl) rfl) rfl) rfl rfl) (o_some ci) o_none)))
abbrev N_Workshop_check_new : List Str := ["self", "name"]
theorem sc_Workshop_check_new : FnScope N_Workshop_check_new ["self", "name"] (defScope (mb 83 13)) := ⟨rfl, rfl, rfl, by decide +kernel, rfl, by decide +kernel, by decide +kernel⟩
def r_Workshop_check_new : RunS := (runSeq (runIf (runNot (runArgs (runCons (runVar 1) runNil) (runF false [] (runDef 1 r_is_name)))) badS nxS)
    (runSeq (runIf (run2 (runVar 1) (run1 (runVar 0) (opFld [4] 5)) (cOp cInA)) badS nxS)
    (runIf (run2 (runArgs (runCons (run1 (runVar 0) (opFld [4] 5)) runNil) kLenD) (run1 (runVar 0) (opFld [4] 8)) (cOp (cInt cGeP))) badS nxS)))
theorem ok_Workshop_check_new {P : Program} {w : World} {K : PySem.W.Frag} {mg : Str → Option Value} {base : Heap} {T : Tb} (hP : P = T.P) (hw : w = T.w) (c_is_name : Cal T P w K mg base "is_name" 1 1 (runDef 1 r_is_name)) (fl_room : FldOk T K [4] 8) (fl_things : FldOk T K [4] 5) (hnm : T.nm = nm73) (m_len : mg "len" = none) {f : Addr} {fd : FuncData} (F : FunD K "check_new" "Workshop.check_new" (defArgs (mb 83 13)) (defBody (mb 83 13)) (defScope (mb 83 13)) [] [] f fd) :
    FnOk P w K mg base (L2.CX P w) 2 f fd ["self", "name"] (spF T K 2 (runDef 0 r_Workshop_check_new)) :=
  fn_run F sc_Workshop_check_new rfl fun cdv A outer s H EK E hr tk =>
    (ss_cons (s_if (s_not (s_cal c_is_name tk (hr.mono (by decide)) rfl (a_cons (s_var rfl (vis_by rfl) rfl rfl) a_nil rfl) rfl rfl)) (ss_one (z_s _)) ss_nil)
    (ss_cons (s_if (s_cmp (op_inB hP hw (u65 hr)) cInA_ok (s_var rfl (vis_by rfl) rfl rfl) (s_fld (s_var rfl (vis_by rfl) rfl rfl) (nm_at hnm rfl) fl_things rfl) rfl) (ss_one (z_s _)) ss_nil)
    (ss_one (s_if (s_cmp op_ge (cInt_ok cGeP) (s_biB call_lenD kLenD_ok rfl m_len boot_len (a_cons (s_fld (s_var rfl (vis_by rfl) rfl rfl) (nm_at hnm rfl) fl_things rfl) a_nil rfl) (by decide) rfl) (s_fld (s_var rfl (vis_by rfl) rfl rfl) (nm_at hnm rfl) fl_room rfl) rfl) (ss_one (z_s _)) ss_nil))))
abbrev N_Workshop_add_row : List Str := ["self", "name", "owner", "row"]
theorem sc_Workshop_add_row : FnScope N_Workshop_add_row ["self", "name", "owner", "row"] (defScope (mb 83 14)) := ⟨rfl, rfl, rfl, by decide +kernel, rfl, by decide +kernel, by decide +kernel⟩
def r_Workshop_add_row : RunS := (runSeq (runDrop (runArgs (runCons (runMth [(4, (runDef 0 r_Workshop_graph))] false 20 (runVar 0) (runCons (runVar 2) runNil)) (runCons (runVar 3) runNil)) (runF false [] runCheckA)))
    (runAsg (runArgs (runCons (cS "row") (runCons (runVar 2) (runCons (runArgs (runCons (runVar 3) runNil) (runF false [] runNormA)) runNil))) kTup) (gSubR (run1 (runVar 0) (opFld [4] 5)) (runVar 1))))
theorem ok_Workshop_add_row {P : Program} {w : World} {K : PySem.W.Frag} {mg : Str → Option Value} {base : Heap} {T : Tb} (hP : P = T.P) (hw : w = T.w) (c_check_row : Cal T P w K mg base "check_row" 5 2 runCheckA) (c_normal_row : Cal T P w K mg base "normal_row" 2 1 runNormA) (fl_things : FldOk T K [4] 5) (hnm : T.nm = nm73) (mt_graph : MthP T P w K mg base 4 2 20 [(4, (runDef 0 r_Workshop_graph))]) {f : Addr} {fd : FuncData} (F : FunD K "add_row" "Workshop.add_row" (defArgs (mb 83 14)) (defBody (mb 83 14)) (defScope (mb 83 14)) [] [] f fd) :
    FnOk P w K mg base (L2.CX P w) 6 f fd ["self", "name", "owner", "row"] (spF T K 4 (runDef 0 r_Workshop_add_row)) :=
  fn_run F sc_Workshop_add_row rfl fun cdv A outer s H EK E hr tk =>
    (ss_cons (s_expr (s_cal c_check_row tk (hr.mono (by decide)) rfl (a_cons (s_mth tk (hr.mono (by decide)) mt_graph (nm_at hnm rfl) (s_var rfl (vis_by rfl) rfl rfl) (a_cons (s_var rfl (vis_by rfl) rfl rfl) a_nil rfl) rfl) (a_cons (s_var rfl (vis_by rfl) rfl rfl) a_nil rfl) rfl) rfl rfl) rfl)
    (ss_one (s_asg (s_tup (a_cons cs (a_cons (s_var rfl (vis_by rfl) rfl rfl) (a_cons (s_cal c_normal_row tk (hr.mono (by decide)) rfl (a_cons (s_var rfl (vis_by rfl) rfl rfl) a_nil rfl) rfl rfl) a_nil rfl) rfl) rfl) (by decide)) (g_sub hP hw (u12 hr) (s_fld (s_var rfl (vis_by rfl) rfl rfl) (nm_at hnm rfl) fl_things rfl) (s_var rfl (vis_by rfl) rfl rfl) fun _ => rfl) rfl rfl rfl)))
abbrev N_Workshop_run_command : List Str := ["self", "command", "word", "name", "owner", "row", "parts"]
theorem sc_Workshop_run_command : FnScope N_Workshop_run_command ["self", "command"] (defScope (mb 83 19)) := ⟨rfl, rfl, rfl, by decide +kernel, rfl, by decide +kernel, by decide +kernel⟩
def r_Workshop_run_command : RunS := (runSeq (runAsg (runVar 1) (gSt 2 (gsCons (gNm 2) (gsCons (gNm 3) (gsCons (gNm 6) gsNil)))))
    (runSeq (runIf (run2 (runVar 2) (runArgs (runCons (cS "graph") (runCons (cS "row") (runCons (cS "code") (runCons (cS "lead") runNil)))) kTup) (cOp cInA)) (runDrop (runMth [(4, (runDef 0 r_Workshop_check_new))] false 18 (runVar 0) (runCons (runVar 3) runNil))) nxS)
    (runIf (run2 (runVar 2) (cS "graph") (cOp cEq)) (runAsg (runArgs (runCons (cS "graph") (runCons (run1 (runVar 6) (kNewSt 3 2 (runDef 3 r_Graph_init))) runNil)) kTup) (gSubR (run1 (runVar 0) (opFld [4] 5)) (runVar 3))) (runIf (run2 (runVar 2) (cS "row") (cOp cEq)) (runDrop (runMthSt 4 [(4, (runDef 0 r_Workshop_add_row))] 19 (runVar 0) (runVar 3) (runVar 6))) (runIf (run2 (runVar 2) (cS "code") (cOp cEq)) (runDrop badE) (runIf (run2 (runVar 2) (cS "lead") (cOp cEq)) (runDrop badE) (runIf (run2 (runVar 2) (cS "drop") (cOp cEq)) (runSeq (runAsg (runMth [(4, (runDef 0 r_Workshop_row))] false 21 (runVar 0) (runCons (runVar 3) runNil)) (gTp 2 (gsCons (gNm 4) (gsCons (gNm 5) gsNil))))
    (runAsg (runArgs (runCons (cS "row") (runCons (runVar 4) (runCons (runCallK runDropA (runVar 5) (run2 (runVar 6) (cI 0) opIxA)) runNil))) kTup) (gSubR (run1 (runVar 0) (opFld [4] 5)) (runVar 3)))) (runIf (run2 (runVar 2) (cS "step") (cOp cEq)) (runDrop badE) (runDrop badE)))))))))
theorem ok_Workshop_run_command {P : Program} {w : World} {K : PySem.W.Frag} {mg : Str → Option Value} {base : Heap} {T : Tb} (hP : P = T.P) (hw : w = T.w) (ck_drop : CalK T P w K mg base "drop" "count" 3 runDropA) (fl_things : FldOk T K [4] 5) (hnm : T.nm = nm73) (mt_add_row : MthP T P w K mg base 6 4 19 [(4, (runDef 0 r_Workshop_add_row))]) (mt_check_new : MthP T P w K mg base 2 2 18 [(4, (runDef 0 r_Workshop_check_new))]) (mt_row : MthP T P w K mg base 4 2 21 [(4, (runDef 0 r_Workshop_row))]) (nw_Graph : NewP T P w K mg base "Graph" 1 2 3 (runDef 3 r_Graph_init)) {f : Addr} {fd : FuncData} (F : FunD K "run_command" "Workshop.run_command" (defArgs (mb 83 19)) (defBody (mb 83 19)) (defScope (mb 83 19)) [] [] f fd) :
    FnOk P w K mg base (L2.CX P w) 7 f fd ["self", "command"] (spF T K 2 (runDef 5 r_Workshop_run_command)) :=
  fn_run F sc_Workshop_run_command rfl fun cdv A outer s H EK E hr tk =>
    (ss_cons (s_asg (s_var rfl (vis_by rfl) rfl rfl) (g_star rfl (gs_cons (g_name sc_Workshop_run_command.nd rfl (loc_by rfl) (.inl rfl)) (gs_cons (g_name sc_Workshop_run_command.nd rfl (loc_by rfl) (.inl rfl)) (gs_last (g_name sc_Workshop_run_command.nd rfl (loc_by rfl) (.inl rfl))) rfl) rfl) rfl rfl) rfl rfl rfl)
    (ss_cons (s_if (s_cmp (op_inB hP hw (u65 hr)) cInA_ok (s_var rfl (vis_by rfl) rfl rfl) (s_tup (a_cons cs (a_cons cs (a_cons cs (a_cons cs a_nil rfl) rfl) rfl) rfl) (by decide)) rfl) (ss_one (s_expr (s_mth tk (hr.mono (by decide)) mt_check_new (nm_at hnm rfl) (s_var rfl (vis_by rfl) rfl rfl) (a_cons (s_var rfl (vis_by rfl) rfl rfl) a_nil rfl) rfl) rfl)) ss_nil)
    (ss_one (s_if (s_cmp (op_eqA (u64 hr)) cEq_ok (s_var rfl (vis_by rfl) rfl rfl) cs rfl) (ss_one (s_asg (s_tup (a_cons cs (a_cons (s_newStP tk (hr.mono (by decide)) nw_Graph rfl (s_var rfl (vis_by rfl) rfl rfl) rfl rfl) a_nil rfl) rfl) (by decide)) (g_sub hP hw (u12 hr) (s_fld (s_var rfl (vis_by rfl) rfl rfl) (nm_at hnm rfl) fl_things rfl) (s_var rfl (vis_by rfl) rfl rfl) fun _ => rfl) rfl rfl rfl)) (ss_one (s_if (s_cmp (op_eqA (u64 hr)) cEq_ok (s_var rfl (vis_by rfl) rfl rfl) cs rfl) (ss_one (s_expr (s_mthSt tk (hr.mono (by decide)) mt_add_row (nm_at hnm rfl) (s_var rfl (vis_by rfl) rfl rfl) (s_var rfl (vis_by rfl) rfl rfl) (s_var rfl (vis_by rfl) rfl rfl) rfl rfl) rfl)) (ss_one (s_if (s_cmp (op_eqA (u64 hr)) cEq_ok (s_var rfl (vis_by rfl) rfl rfl) cs rfl) (ss_one (s_expr (z_e _) rfl)) (ss_one (s_if (s_cmp (op_eqA (u64 hr)) cEq_ok (s_var rfl (vis_by rfl) rfl rfl) cs rfl) (ss_one (s_expr (z_e _) rfl)) (ss_one (s_if (s_cmp (op_eqA (u64 hr)) cEq_ok (s_var rfl (vis_by rfl) rfl rfl) cs rfl) (ss_cons (s_asg (s_mth tk (hr.mono (by decide)) mt_row (nm_at hnm rfl) (s_var rfl (vis_by rfl) rfl rfl) (a_cons (s_var rfl (vis_by rfl) rfl rfl) a_nil rfl) rfl) (g_tup rfl (gs_cons (g_name sc_Workshop_run_command.nd rfl (loc_by rfl) (.inl rfl)) (gs_cons (g_name sc_Workshop_run_command.nd rfl (loc_by rfl) (.inl rfl)) gs_nil rfl) rfl) rfl rfl) rfl rfl rfl)
    (ss_one (s_asg (s_tup (a_cons cs (a_cons (s_var rfl (vis_by rfl) rfl rfl) (a_cons (s_calK tk ck_drop (hr.mono (by decide)) rfl (s_var rfl (vis_by rfl) rfl rfl) (s_ixA hP hw (u12 hr) (s_var rfl (vis_by rfl) rfl rfl) ci rfl) rfl rfl rfl rfl rfl) a_nil rfl) rfl) rfl) (by decide)) (g_sub hP hw (u12 hr) (s_fld (s_var rfl (vis_by rfl) rfl rfl) (nm_at hnm rfl) fl_things rfl) (s_var rfl (vis_by rfl) rfl rfl) fun _ => rfl) rfl rfl rfl))) (ss_one (s_if (s_cmp (op_eqA (u64 hr)) cEq_ok (s_var rfl (vis_by rfl) rfl rfl) cs rfl) (ss_one (s_expr (z_e _) rfl)) (ss_one (s_expr (z_e _) rfl))))))))))))))))
abbrev N_Workshop_apply_all : List Str := ["self", "commands", "position", "command", "before", "restore"]
theorem sc_Workshop_apply_all : FnScope N_Workshop_apply_all ["self", "commands"] (defScope (mb 83 21)) := ⟨rfl, rfl, rfl, by decide +kernel, rfl, by decide +kernel, by decide +kernel⟩
def r_Workshop_apply_all : RunS := (runSeq (runFor (runEnum (runVar 1)) (gTp 2 (gsCons (gNm 2) (gsCons (gNm 3) gsNil))) (runIf (runOr (run2 (runArgs (runCons (runVar 3) runNil) kLen) (cI 0) (cOp cEq)) (run2 (runKGet tb_SIZES_workshop (run2 (runVar 3) (cI 0) opIxA) (cI 0)) (runArgs (runCons (runVar 3) runNil) kLen) (cOp cNe))) badS nxS))
    (runSeq (runAsg2 (run1 (runVar 0) (opFld [4] 5)) (gNm 4) (gNm 5))
    (runSeq (runAsg (runArgs (runCons (runVar 4) runNil) kDictC) (gFld [4] 5 (runVar 0)))
    (runSeq (runFin (runSeq (runFor (runSq (runVar 1)) (gNm 3) (runDrop (runMth [(4, (runDef 5 r_Workshop_run_command))] false 17 (runVar 0) (runCons (runVar 3) runNil))))
    (runAsg cN (gNm 5))) (noExS (runIf (run2 (runVar 5) cN (cOp cNotN)) (runAsg (runVar 5) (gFld [4] 5 (runVar 0))) nxS)))
    (runSeq (runDrop (runBm .list (run1 (runVar 0) (opFld [4] 6)) (runCons (runVar 4) runNil) kAppend))
    (runAsg (runArgs runNil (kLst true)) (gFld [4] 7 (runVar 0))))))))
theorem ok_Workshop_apply_all {P : Program} {w : World} {K : PySem.W.Frag} {mg : Str → Option Value} {base : Heap} {T : Tb} (hP : P = T.P) (hw : w = T.w) (fl_future : FldOk T K [4] 7) (fl_past : FldOk T K [4] 6) (fl_things : FldOk T K [4] 5) (hnm : T.nm = nm73) (kt_SIZES_workshop : KTabP K w mg "SIZES_workshop" tb_SIZES_workshop) (m_dict : mg "dict" = none) (m_enumerate : mg "enumerate" = none) (m_len : mg "len" = none) (mt_run_command : MthP T P w K mg base 7 2 17 [(4, (runDef 5 r_Workshop_run_command))]) {f : Addr} {fd : FuncData} (F : FunD K "apply_all" "Workshop.apply_all" (defArgs (mb 83 21)) (defBody (mb 83 21)) (defScope (mb 83 21)) [] [] f fd) :
    FnOk P w K mg base (L2.CX P w) 8 f fd ["self", "commands"] (spF T K 2 (runDef 4 r_Workshop_apply_all)) :=
  fn_run F sc_Workshop_apply_all rfl fun cdv A outer s H EK E hr tk =>
    (ss_cons (s_for owns_cx rfl (i_enum rfl m_enumerate (s_var rfl (vis_by rfl) rfl rfl) rfl) (g_tup rfl (gs_cons (g_name sc_Workshop_apply_all.nd rfl (loc_by rfl) (.inl rfl)) (gs_cons (g_name sc_Workshop_apply_all.nd rfl (loc_by rfl) (.inl rfl)) gs_nil rfl) rfl) rfl rfl) (ss_one (s_if (s_bool (sb_or (s_cmp (op_eqA (u64 hr)) cEq_ok (s_biB cr_len kLen_ok (by rfl) m_len boot_len (a_cons (s_var rfl (vis_by rfl) rfl rfl) a_nil rfl) (by decide) rfl) ci rfl) (sb_or1 (s_cmp (op_neA (u64 hr)) cNe_ok (s_kgetP rfl kt_SIZES_workshop (s_ixA hP hw (u12 hr) (s_var rfl (vis_by rfl) rfl rfl) ci rfl) ci rfl ⟨rfl, rfl, rfl, rfl⟩) (s_biB cr_len kLen_ok (by rfl) m_len boot_len (a_cons (s_var rfl (vis_by rfl) rfl rfl) a_nil rfl) (by decide) rfl) rfl)))) (ss_one (z_s _)) ss_nil)) (fun _ => rfl))
    (ss_cons (s_asg2 (s_fld (s_var rfl (vis_by rfl) rfl rfl) (nm_at hnm rfl) fl_things rfl) (g_name sc_Workshop_apply_all.nd rfl (loc_by rfl) (.inl rfl)) (g_name sc_Workshop_apply_all.nd rfl (loc_by rfl) (.inl rfl)) rfl rfl)
    (ss_cons (s_asg (s_biT call_dictD kDictC_ok rfl m_dict (by decide +kernel) (a_cons (s_var rfl (vis_by rfl) rfl rfl) a_nil rfl) (by decide) rfl) (g_fld (s_var rfl (vis_by rfl) rfl rfl) (nm_at hnm rfl) (nm_lt hnm (by decide)) fl_things) rfl rfl rfl)
    (ss_cons (s_tryFin (ss_cons (s_for PassesOwn.never rfl (i_seq (s_var rfl (vis_by rfl) rfl rfl)) (g_name sc_Workshop_apply_all.nd rfl (loc_by rfl) (.inl rfl)) (ss_one (s_expr (s_mth takesF (hr.mono (by decide)) mt_run_command (nm_at hnm rfl) (s_var rfl (vis_by rfl) rfl rfl) (a_cons (s_var rfl (vis_by rfl) rfl rfl) a_nil rfl) rfl) rfl)) (fun _ => rfl))
    (ss_one (s_asg cn (g_name sc_Workshop_apply_all.nd rfl (loc_by rfl) (.inl rfl)) rfl rfl rfl))) (ss_one (s_if (s_cmp op_notN cNotN_ok (s_var rfl (vis_by rfl) rfl rfl) cn rfl) (ss_one (s_asg (s_var rfl (vis_by rfl) rfl rfl) (g_fld (s_var rfl (vis_by rfl) rfl rfl) (nm_at hnm rfl) (nm_lt hnm (by decide)) fl_things) rfl rfl rfl)) ss_nil)))
    (ss_cons (s_expr (s_bm (t := .list) hP hw PySem.F.plainAttrs_list PySem.F.slot_list_append PySem.F.type_list_append mt_append kAppend_ok (s_fld (s_var rfl (vis_by rfl) rfl rfl) (nm_at hnm rfl) fl_past rfl) (a_cons (s_var rfl (vis_by rfl) rfl rfl) a_nil rfl) rfl rfl rfl) rfl)
    (ss_one (s_asg (s_lst true a_nil (by decide)) (g_fld (s_var rfl (vis_by rfl) rfl rfl) (nm_at hnm rfl) (nm_lt hnm (by decide)) fl_future) rfl rfl rfl)))))))
abbrev N_Workshop_apply : List Str := ["self", "command"]
theorem sc_Workshop_apply : FnScope N_Workshop_apply ["self", "command"] (defScope (mb 83 20)) := ⟨rfl, rfl, rfl, by decide +kernel, rfl, by decide +kernel, by decide +kernel⟩
def r_Workshop_apply : RunS := (runDrop (runMth [(4, (runDef 4 r_Workshop_apply_all))] false 16 (runVar 0) (runCons (runArgs (runCons (runVar 1) runNil) (kLst false)) runNil)))
theorem ok_Workshop_apply {P : Program} {w : World} {K : PySem.W.Frag} {mg : Str → Option Value} {base : Heap} {T : Tb} (hP : P = T.P) (hw : w = T.w) (hnm : T.nm = nm73) (mt_apply_all : MthP T P w K mg base 8 2 16 [(4, (runDef 4 r_Workshop_apply_all))]) {f : Addr} {fd : FuncData} (F : FunD K "apply" "Workshop.apply" (defArgs (mb 83 20)) (defBody (mb 83 20)) (defScope (mb 83 20)) [] [] f fd) :
    FnOk P w K mg base (L2.CX P w) 9 f fd ["self", "command"] (spF T K 2 (runDef 0 r_Workshop_apply)) :=
  fn_run F sc_Workshop_apply rfl fun cdv A outer s H EK E hr tk =>
    (ss_one (s_expr (s_mth tk (hr.mono (by decide)) mt_apply_all (nm_at hnm rfl) (s_var rfl (vis_by rfl) rfl rfl) (a_cons (s_lst false (a_cons (s_var rfl (vis_by rfl) rfl rfl) a_nil rfl) (by decide)) a_nil rfl) rfl) rfl))
abbrev N_Console_change : List Str := ["self", "command"]
theorem sc_Console_change : FnScope N_Console_change ["self", "command"] (defScope (mb 74 4)) := ⟨rfl, rfl, rfl, by decide +kernel, rfl, by decide +kernel, by decide +kernel⟩
def r_Console_change : RunS := (runSeq (runDrop (runMth [(4, (runDef 0 r_Workshop_apply))] false 15 (run1 (runVar 0) (opFld [3] 3)) (runCons (runVar 1) runNil)))
    (runRet (cS "ok")))
theorem ok_Console_change {P : Program} {w : World} {K : PySem.W.Frag} {mg : Str → Option Value} {base : Heap} {T : Tb} (hP : P = T.P) (hw : w = T.w) (fl_workshop : FldOk T K [3] 3) (hnm : T.nm = nm73) (mt_apply : MthP T P w K mg base 9 2 15 [(4, (runDef 0 r_Workshop_apply))]) {f : Addr} {fd : FuncData} (F : FunD K "change" "Console.change" (defArgs (mb 74 4)) (defBody (mb 74 4)) (defScope (mb 74 4)) [] [] f fd) :
    FnOk P w K mg base (L2.CX P w) 10 f fd ["self", "command"] (spF T K 2 (runDef 0 r_Console_change)) :=
  fn_run F sc_Console_change rfl fun cdv A outer s H EK E hr tk =>
    (ss_cons (s_expr (s_mth tk (hr.mono (by decide)) mt_apply (nm_at hnm rfl) (s_fld (s_var rfl (vis_by rfl) rfl rfl) (nm_at hnm rfl) fl_workshop rfl) (a_cons (s_var rfl (vis_by rfl) rfl rfl) a_nil rfl) rfl) rfl)
    (ss_one (s_ret cs)))
def tbl_len : List (Nat × (List MV → MH → Tr ER)) := [(4, (runDef 0 r_Workshop_len))]
abbrev N_Console_answer : List Str := ["self", "words", "word", "parts"]
theorem sc_Console_answer : FnScope N_Console_answer ["self", "words"] (defScope (mb 74 6)) := ⟨rfl, rfl, rfl, by decide +kernel, rfl, by decide +kernel, by decide +kernel⟩
def r_Console_answer : RunS := (runSeq (runAsg (runVar 1) (gSt 1 (gsCons (gNm 2) (gsCons (gNm 3) gsNil))))
    (runSeq (runIf (runOr (run2 (runKGet tb_SIZES_console (runVar 2) (run1 (cI 1) opNeg)) (runArgs (runCons (runVar 3) runNil) kLen) (cOp cNe)) (runAnd (run2 (runVar 2) (runArgs (runCons (cS "drop") (runCons (cS "closed") runNil)) kTup) (cOp cInA)) (runNot (runArgs (runCons (run2 (runVar 3) (cI 1) opIxA) runNil) (runF false [] runCountA))))) (runRet cN) nxS)
    (runMat (runVar 2) (runMv "names" (runRet (runIfE (run2 (runLenOwn tbl_len (run1 (runVar 0) (opFld [3] 3))) (cI 0) (cOp (cInt cGtP))) badE (cS "none"))) (runMv2 "undo" "redo" (runRet badE) (runMv "show" (runRet badE) (runMv "remove" (runRet (runMth [(3, (runDef 0 r_Console_change))] false 14 (runVar 0) (runCons (runArgs (runCons (cS "remove") (runCons (run2 (runVar 3) (cI 0) opIxA) runNil)) kTup) runNil))) (runMv "drop" (runRet (runMth [(3, (runDef 0 r_Console_change))] false 14 (runVar 0) (runCons (runArgs (runCons (cS "drop") (runCons (run2 (runVar 3) (cI 0) opIxA) (runCons (runArgs (runCons (run2 (runVar 3) (cI 1) opIxA) runNil) kIntT) runNil))) kTup) runNil))) (runMv "closed" (runRet (runArgs (runCons (runArgs (runCons (runMth [(4, (runDef 0 r_Workshop_graph))] false 20 (run1 (runVar 0) (opFld [3] 3)) (runCons (run2 (runVar 3) (cI 0) opIxA) runNil)) (runCons (runArgs (runCons (run2 (runVar 3) (cI 1) opIxA) runNil) kIntT) runNil)) (runF false [] (runDef 4 r_count_closed))) runNil) kStrT)) (fun _ => (runRet (runIfE badE (cS "kin") (cS "apart")))))))))))))
theorem ok_Console_answer {P : Program} {w : World} {K : PySem.W.Frag} {mg : Str → Option Value} {base : Heap} {T : Tb} (hP : P = T.P) (hw : w = T.w) (c_count_closed : Cal T P w K mg base "count_closed" 4 2 (runDef 4 r_count_closed)) (c_is_count : Cal T P w K mg base "is_count" 1 1 runCountA) (fl_workshop : FldOk T K [3] 3) (hnm : T.nm = nm73) (kt_SIZES_console : KTabP K w mg "SIZES_console" tb_SIZES_console) (ln_len : LenP T P w K mg base 1 tbl_len) (m_int : mg "int" = none) (m_len : mg "len" = none) (m_str : mg "str" = none) (mt_change : MthP T P w K mg base 10 2 14 [(3, (runDef 0 r_Console_change))]) (mt_graph : MthP T P w K mg base 4 2 20 [(4, (runDef 0 r_Workshop_graph))]) {f : Addr} {fd : FuncData} (F : FunD K "answer" "Console.answer" (defArgs (mb 74 6)) (defBody (mb 74 6)) (defScope (mb 74 6)) [] [] f fd) :
    FnOk P w K mg base (L2.CX P w) 11 f fd ["self", "words"] (spF T K 2 (runDef 2 r_Console_answer)) :=
  fn_run F sc_Console_answer rfl fun cdv A outer s H EK E hr tk =>
    (ss_cons (s_asg (s_var rfl (vis_by rfl) rfl rfl) (g_star rfl (gs_cons (g_name sc_Console_answer.nd rfl (loc_by rfl) (.inl rfl)) (gs_last (g_name sc_Console_answer.nd rfl (loc_by rfl) (.inl rfl))) rfl) rfl rfl) rfl rfl rfl)
    (ss_cons (s_if (s_bool (sb_or (s_cmp (op_neA (u64 hr)) cNe_ok (s_kgetP rfl kt_SIZES_console (s_var rfl (vis_by rfl) rfl rfl) (s_neg ci) rfl ⟨rfl, rfl, rfl, rfl⟩) (s_biB cr_len kLen_ok (by rfl) m_len boot_len (a_cons (s_var rfl (vis_by rfl) rfl rfl) a_nil rfl) (by decide) rfl) rfl) (sb_or1 (s_bool (sb_and (s_cmp (op_inB hP hw (u65 hr)) cInA_ok (s_var rfl (vis_by rfl) rfl rfl) (s_tup (a_cons cs (a_cons cs a_nil rfl) rfl) (by decide)) rfl) (sb_and1 (s_not (s_cal c_is_count tk (hr.mono (by decide)) rfl (a_cons (s_ixA hP hw (u12 hr) (s_var rfl (vis_by rfl) rfl rfl) ci rfl) a_nil rfl) rfl rfl)))))))) (ss_one (s_ret cn)) ss_nil)
    (ss_one (s_match (s_var rfl (vis_by rfl) rfl rfl) (m_val (ss_one (s_ret (s_ifE (s_cmp op_gt (cInt_ok cGtP) (s_lenP tk (hr.mono (by decide)) ln_len rfl m_len (s_fld (s_var rfl (vis_by rfl) rfl rfl) (nm_at hnm rfl) fl_workshop rfl) rfl) ci rfl) (z_e _) cs))) (m_val2 (ss_one (s_ret (z_e _))) (m_val (ss_one (s_ret (z_e _))) (m_val (ss_one (s_ret (s_mth tk (hr.mono (by decide)) mt_change (nm_at hnm rfl) (s_var rfl (vis_by rfl) rfl rfl) (a_cons (s_tup (a_cons cs (a_cons (s_ixA hP hw (u12 hr) (s_var rfl (vis_by rfl) rfl rfl) ci rfl) a_nil rfl) rfl) (by decide)) a_nil rfl) rfl))) (m_val (ss_one (s_ret (s_mth tk (hr.mono (by decide)) mt_change (nm_at hnm rfl) (s_var rfl (vis_by rfl) rfl rfl) (a_cons (s_tup (a_cons cs (a_cons (s_ixA hP hw (u12 hr) (s_var rfl (vis_by rfl) rfl rfl) ci rfl) (a_cons (s_biT call_int_str kIntT_ok rfl m_int (by decide +kernel) (a_cons (s_ixA hP hw (u12 hr) (s_var rfl (vis_by rfl) rfl rfl) ci rfl) a_nil rfl) (by decide) rfl) a_nil rfl) rfl) rfl) (by decide)) a_nil rfl) rfl))) (m_val (ss_one (s_ret (s_biT call_str_int kStrT_ok rfl m_str (by decide +kernel) (a_cons (s_cal c_count_closed tk (hr.mono (by decide)) rfl (a_cons (s_mth tk (hr.mono (by decide)) mt_graph (nm_at hnm rfl) (s_fld (s_var rfl (vis_by rfl) rfl rfl) (nm_at hnm rfl) fl_workshop rfl) (a_cons (s_ixA hP hw (u12 hr) (s_var rfl (vis_by rfl) rfl rfl) ci rfl) a_nil rfl) rfl) (a_cons (s_biT call_int_str kIntT_ok rfl m_int (by decide +kernel) (a_cons (s_ixA hP hw (u12 hr) (s_var rfl (vis_by rfl) rfl rfl) ci rfl) a_nil rfl) (by decide) rfl) a_nil rfl) rfl) rfl rfl) a_nil rfl) (by decide) rfl))) (m_any (ss_one (s_ret (s_ifE (z_e _) cs cs))))))))))))))
abbrev N_Console_reply : List Str := ["self", "line", "words", "found", "e"]
theorem sc_Console_reply : FnScope N_Console_reply ["self", "line"] (defScope (mb 74 7)) := ⟨rfl, rfl, rfl, by decide +kernel, rfl, by decide +kernel, by decide +kernel⟩
def r_Console_reply : RunS := (runSeq (runAsg (runSplit (runVar 1)) (gNm 2))
    (runSeq (runIf (run2 (cS "") (runVar 2) (cOp cInT)) (runRet (cS "invalid")) nxS)
    (runSeq (runTry2 (runIf (runAnd (run2 (run2 (runVar 2) (cI 0) opIxA) (cS "step") (cOp cEq)) (run2 (runArgs (runCons (runVar 2) runNil) kLen) (cI 2) (cOp (cInt cGtP)))) (runAsg (runMth [(3, (runDef 0 r_Console_change))] false 14 (runVar 0) (runCons (runArgs (runCons (cS "step") (runCons (run2 (runVar 2) (cI 1) opIxA) (runCons badE runNil))) kTup) runNil)) (gNm 3)) (runAsg (runMth [(3, (runDef 2 r_Console_answer))] false 13 (runVar 0) (runCons (runVar 2) runNil)) (gNm 3))) "error " 4 [0, 1] 0)
    (runRet (runIfE (run2 (runVar 3) cN (cOp cNotN)) (runVar 3) (cS "invalid"))))))
theorem ok_Console_reply {P : Program} {w : World} {K : PySem.W.Frag} {mg : Str → Option Value} {base : Heap} {T : Tb} {c1 c2 c3 : Value} (hP : P = T.P) (hw : w = T.w) (hcat : CatOk T K c1 c2 c3 [0, 1]) (hnm : T.nm = nm73) (m_len : mg "len" = none) (mt_answer : MthP T P w K mg base 11 2 13 [(3, (runDef 2 r_Console_answer))]) (mt_change : MthP T P w K mg base 10 2 14 [(3, (runDef 0 r_Console_change))]) (n_Absent : mg "Absent" = some c3) (n_ParseError : mg "ParseError" = some c1) (n_WindowError : mg "WindowError" = some c2) {f : Addr} {fd : FuncData} (F : FunD K "reply" "Console.reply" (defArgs (mb 74 7)) (defBody (mb 74 7)) (defScope (mb 74 7)) [] [] f fd) :
    FnOk P w K mg base (L2.CX P w) 12 f fd ["self", "line"] (spF T K 2 (runDef 3 r_Console_reply)) :=
  fn_run F sc_Console_reply rfl fun cdv A outer s H EK E hr tk =>
    (ss_cons (s_asg (s_split (s_var rfl (vis_by rfl) rfl rfl) rfl rfl rfl) (g_name sc_Console_reply.nd rfl (loc_by rfl) (.inl rfl)) rfl rfl rfl)
    (ss_cons (s_if (s_cmp (op_inA (u65 hr)) cInT_ok cs (s_var rfl (vis_by rfl) rfl rfl) rfl) (ss_one (s_ret cs)) ss_nil)
    (ss_cons (s_try2 rfl rfl sc_Console_reply.nd rfl rfl ⟨rfl, rfl, .inl n_ParseError⟩ ⟨rfl, rfl, .inl n_WindowError⟩ ⟨rfl, rfl, .inl n_Absent⟩ hcat (nm_at hnm rfl) rfl rfl (fun E' pn xe tk' hp' => (ss_one (s_if (s_bool (sb_and (s_cmp (op_eqA (u64 hr)) cEq_ok (s_ixA hP hw (u12 hr) (s_var rfl (vis_by rfl) rfl rfl) ci rfl) cs rfl) (sb_and1 (s_cmp op_gt (cInt_ok cGtP) (s_biB cr_len kLen_ok (by rfl) m_len boot_len (a_cons (s_var rfl (vis_by rfl) rfl rfl) a_nil rfl) (by decide) rfl) ci rfl)))) (ss_one (s_asg (s_mth tk' (hr.mono (by decide)) mt_change (nm_at hnm rfl) (s_var rfl (vis_by rfl) rfl rfl) (a_cons (s_tup (a_cons cs (a_cons (s_ixA hP hw (u12 hr) (s_var rfl (vis_by rfl) rfl rfl) ci rfl) (a_cons (z_e _) a_nil rfl) rfl) rfl) (by decide)) a_nil rfl) rfl) (g_name sc_Console_reply.nd rfl (loc_by rfl) (.inl rfl)) rfl rfl rfl)) (ss_one (s_asg (s_mth tk' (hr.mono (by decide)) mt_answer (nm_at hnm rfl) (s_var rfl (vis_by rfl) rfl rfl) (a_cons (s_var rfl (vis_by rfl) rfl rfl) a_nil rfl) rfl) (g_name sc_Console_reply.nd rfl (loc_by rfl) (.inl rfl)) rfl rfl rfl))))))
    (ss_one (s_ret (s_ifE (s_cmp op_notN cNotN_ok (s_var rfl (vis_by rfl) rfl rfl) cn rfl) (s_var rfl (vis_by rfl) rfl rfl) cs))))))
abbrev N_Console_run : List Str := ["self", "line", "result"]
theorem sc_Console_run : FnScope N_Console_run ["self", "line"] (defScope (mb 74 8)) := ⟨rfl, rfl, rfl, by decide +kernel, rfl, by decide +kernel, by decide +kernel⟩
def r_Console_run : RunS := (runSeq (runAsg (runMth [(3, (runDef 3 r_Console_reply))] false 12 (runVar 0) (runCons (runVar 1) runNil)) (gNm 2))
    (runSeq (runDrop (runBm .list (run1 (runVar 0) (opFld [3] 4)) (runCons (runArgs (runCons (runVar 1) (runCons (runVar 2) runNil)) kTup) runNil) kAppend))
    (runRet (runVar 2))))
theorem ok_Console_run {P : Program} {w : World} {K : PySem.W.Frag} {mg : Str → Option Value} {base : Heap} {T : Tb} (hP : P = T.P) (hw : w = T.w) (fl_lines : FldOk T K [3] 4) (hnm : T.nm = nm73) (mt_reply : MthP T P w K mg base 12 2 12 [(3, (runDef 3 r_Console_reply))]) {f : Addr} {fd : FuncData} (F : FunD K "run" "Console.run" (defArgs (mb 74 8)) (defBody (mb 74 8)) (defScope (mb 74 8)) [] [] f fd) :
    FnOk P w K mg base (L2.CX P w) 13 f fd ["self", "line"] (spF T K 2 (runDef 1 r_Console_run)) :=
  fn_run F sc_Console_run rfl fun cdv A outer s H EK E hr tk =>
    (ss_cons (s_asg (s_mth tk (hr.mono (by decide)) mt_reply (nm_at hnm rfl) (s_var rfl (vis_by rfl) rfl rfl) (a_cons (s_var rfl (vis_by rfl) rfl rfl) a_nil rfl) rfl) (g_name sc_Console_run.nd rfl (loc_by rfl) (.inl rfl)) rfl rfl rfl)
    (ss_cons (s_expr (s_bm (t := .list) hP hw PySem.F.plainAttrs_list PySem.F.slot_list_append PySem.F.type_list_append mt_append kAppend_ok (s_fld (s_var rfl (vis_by rfl) rfl rfl) (nm_at hnm rfl) fl_lines rfl) (a_cons (s_tup (a_cons (s_var rfl (vis_by rfl) rfl rfl) (a_cons (s_var rfl (vis_by rfl) rfl rfl) a_nil rfl) rfl) (by decide)) a_nil rfl) rfl rfl rfl) rfl)
    (ss_one (s_ret (s_var rfl (vis_by rfl) rfl rfl)))))
end
end WK
set_option Elab.async false
set_option linter.all false
set_option maxRecDepth 100000
set_option maxHeartbeats 0
/-! runs over tuples of whole numbers; shortest -/
namespace WK
noncomputable section
open PySem PySem.Spec PyProof.Rows L2
abbrev tI_ (xs : List Int) : MV := .tup (xs.map .int)
theorem intsR_map : ∀ xs : List Int, intsR (xs.map .int) = some xs
  | [] => rfl
  | x :: r => by
    show (match intsR (r.map MV.int) with
      | some l => some (x :: l)
      | none => none) = _
    rw [intsR_map r]
theorem intsR_eq : ∀ {xs : List MV} {ns : List Int}, intsR xs = some ns → xs = ns.map .int
  | [], ns, e => by cases e; rfl
  | x :: r, ns, e => by
    cases x <;> first | cases e | skip
    rename_i i
    have e : (match intsR r with
      | some l => some (i :: l)
      | none => none) = some ns := e
    cases q : intsR r with
    | none => rw [q] at e; cases e
    | some l => rw [q] at e; cases e; rw [intsR_eq q]; rfl
theorem toPDs_ints (h : MH) : ∀ (xs : List Int) (n : Nat), xs.length + 2 ≤ n → toPDs h n (xs.map .int) = some (xs.map .int)
  | [], n + 1, _ => rfl
  | x :: r, n + 1, hn => by
    have hn : r.length + 1 + 2 ≤ n + 1 := hn
    obtain ⟨k, rfl⟩ : ∃ k, n = k + 1 := ⟨n - 1, by omega⟩
    rw [List.map_cons, List.map_cons]
    unfold toPDs
    rw [toPDs_ints h r (k + 1) (by omega)]
    rfl
theorem eqv_ints : ∀ xs ys : List Int, PyData.eqvAll (xs.map .int) (ys.map .int) = decide (xs = ys)
  | [], [] => rfl
  | [], _ :: _ => by simp [PyData.eqvAll]
  | _ :: _, [] => by simp [PyData.eqvAll]
  | x :: xs, y :: ys => by
    rw [List.map_cons, List.map_cons, PyData.eqvAll, eqv_ints xs ys]
    by_cases e : x = y <;> by_cases e2 : xs = ys <;> simp [PyData.eqv, e, e2]
theorem sh_ints (xs : List Int) : shB (.tuple (xs.map .int)) = true := by
  have h1 := dep_ints xs
  unfold shB SeqAt.shaped
  refine Bool.and_eq_true_iff.mpr ⟨?_, decide_eq_true ?_⟩
  · simp only [PyData.canLay0, lay_ints]
  · simp only [PyData.depth]; omega
theorem toPD_tI (h : MH) {xs : List Int} (hl : xs.length ≤ 1000) : toPD h pdN (tI_ xs) = some (.tuple (xs.map .int)) := by
  unfold pdN toPD
  show (toPDs h 99999 (xs.map MV.int)).map PyData.tuple = _
  rw [toPDs_ints h xs 99999 (by omega)]; rfl
theorem cEq_tI {h : MH} {xs ys : List Int} (hx : xs.length ≤ 1000) (hy : ys.length ≤ 1000) : cEq (tI_ xs) (tI_ ys) h = some (decide (xs = ys)) := by
  show (match toPD h pdN (tI_ xs), toPD h pdN (tI_ ys) with
    | some d, some e => match shB d && shB e with
      | true => some (PyData.eqv d e)
      | false => none
    | _, _ => none) = _
  rw [toPD_tI h hx, toPD_tI h hy]
  simp only [sh_ints, Bool.and_self]
  rw [PyData.eqv, eqv_ints]
theorem cNe_tI {h : MH} {xs ys : List Int} (hx : xs.length ≤ 1000) (hy : ys.length ≤ 1000) : cNe (tI_ xs) (tI_ ys) h = some (!decide (xs = ys)) := by
  have z := cEq_tI (h := h) hx hy
  unfold cEq at z
  unfold cNe
  rw [z]; rfl
theorem len_tI {h : MH} {xs : List Int} : kLen [tI_ xs] h = okE (.int xs.length) h := by
  show okE (.int ((xs.map MV.int).length : Nat)) h = _
  rw [List.length_map]
theorem leB_of {n m : Nat} (h : n ≤ m) : leB n m = true := Nat.ble_eq.mpr h
theorem big {n : Nat} (h : n ≤ 10000) : leB n sizeLine = true := leB_of (by rw [sizeLine_eq]; omega)
theorem add_tI {h : MH} {xs ys : List Int} (hl : xs.length + ys.length ≤ 10000) : opAdd false (tI_ xs) (tI_ ys) h = okE (tI_ (xs ++ ys)) h := by
  show ifT (leB ((xs.map MV.int).length + (ys.map MV.int).length) sizeLine) (okE (.tup (xs.map MV.int ++ ys.map MV.int)) h) = _
  rw [List.length_map, List.length_map, big hl, ← List.map_append]; rfl
theorem rep_map (k : Nat) (xs : List Int) : repV k (xs.map MV.int) = ((List.replicate k xs).flatten).map MV.int := by
  unfold repV
  induction k with
  | zero => rfl
  | succ k ih => rw [List.replicate_succ, List.replicate_succ, List.flatten_cons, List.flatten_cons, ih, List.map_append]
theorem mul_tI {h : MH} {xs : List Int} {k : Nat} (h1 : 1 ≤ xs.length) (h2 : xs.length ≤ 1000) (k1 : 1 ≤ k) (k2 : k ≤ 1000) : opMulT (tI_ xs) (.int k) h = okE (tI_ ((List.replicate k xs).flatten)) h := by
  by_cases e : k = 1
  · subst e
    show okE (tI_ xs) h = _
    simp
  · obtain ⟨j, rfl⟩ : ∃ j, k = j + 2 := ⟨k - 2, by omega⟩
    show opMul false (tI_ xs) (.int ((j + 2 : Nat) : Int)) h = _
    show ifT (leB 1 (xs.map MV.int).length && leB (xs.map MV.int).length 1000 && decide ((2 : Int) ≤ ((j + 2 : Nat) : Int)) && decide (((j + 2 : Nat) : Int) ≤ 1000)) (okE (.tup (repV ((j + 2 : Nat) : Int).toNat (xs.map MV.int))) h) = _
    rw [List.length_map, leB_of h1, leB_of h2, decide_eq_true (by omega), decide_eq_true (by omega), Int.toNat_natCast, rep_map]; rfl
/-! slices -/
theorem sl_tI {h : MH} {xs : List Int} {lo hi : Option Int} : opSl false (tI_ xs) lo hi h = okE (tI_ ((xs.drop (HT.sIx xs.length 0 lo)).take (HT.sIx xs.length xs.length hi - HT.sIx xs.length 0 lo))) h := by
  show (match decide (HT.sIx (xs.map MV.int).length 0 lo = 0 ∧ HT.sIx (xs.map MV.int).length (xs.map MV.int).length hi = (xs.map MV.int).length) with
    | true => okE (.tup (xs.map MV.int)) h
    | false => okE (.tup (cutM (xs.map MV.int) lo hi)) h) = _
  rw [List.length_map]
  unfold cutM
  rw [List.length_map, ← List.map_drop, ← List.map_take]
  cases c : decide (HT.sIx xs.length 0 lo = 0 ∧ HT.sIx xs.length xs.length hi = xs.length) with
  | false => rfl
  | true =>
    obtain ⟨c1, c2⟩ := of_decide_eq_true c
    rw [c1, c2]
    simp
theorem sl_to {h : MH} {xs : List Int} {k : Nat} : opSl false (tI_ xs) none (some (k : Int)) h = okE (tI_ (xs.take k)) h := by
  rw [sl_tI, HT.sIx_none, HT.sIx_nat]
  congr 2
  rw [List.drop_zero, Nat.sub_zero]
  by_cases z : k ≤ xs.length
  · rw [Nat.min_eq_left z]
  · rw [Nat.min_eq_right (by omega), List.take_of_length_le (Nat.le_refl _), List.take_of_length_le (by omega : xs.length ≤ k)]
theorem sl_from {h : MH} {xs : List Int} {k : Nat} : opSl false (tI_ xs) (some (k : Int)) none h = okE (tI_ (xs.drop k)) h := by
  rw [sl_tI, HT.sIx_none, HT.sIx_nat]
  congr 2
  by_cases z : k ≤ xs.length
  · rw [Nat.min_eq_left z, List.take_of_length_le (by rw [List.length_drop]; exact Nat.le_refl _)]
  · rw [Nat.min_eq_right (by omega), List.drop_of_length_le (by omega : xs.length ≤ k)]
    simp
theorem sIx_m1 (n d : Nat) : HT.sIx n d (some (-1)) = n - 1 := by
  show (if (-1 : Int) < 0 then (-1 + (n : Int)).toNat else min (-1 : Int).toNat n) = _
  rw [if_pos (by decide)]
  omega
theorem sl_but {h : MH} {xs : List Int} : opSl false (tI_ xs) none (some (-1)) h = okE (tI_ xs.dropLast) h := by
  rw [sl_tI, HT.sIx_none, sIx_m1, List.drop_zero, Nat.sub_zero, List.dropLast_eq_take]
theorem sl_last {h : MH} {xs : List Int} : opSl false (tI_ xs) (some (-1)) none h = okE (tI_ (xs.drop (xs.length - 1))) h := by
  rw [sl_tI, HT.sIx_none, sIx_m1]
  congr 2
  rw [List.take_of_length_le (by rw [List.length_drop]; exact Nat.le_refl _)]
theorem fmod_nat (a b : Nat) : ((a : Int).fmod (b : Int)) = ((a % b : Nat) : Int) := by
  rw [Int.fmod_eq_emod_of_nonneg _ (by omega)]; rfl
theorem fdiv_nat (a b : Nat) : ((a : Int).fdiv (b : Int)) = ((a / b : Nat) : Int) := by
  rw [Int.fdiv_eq_ediv_of_nonneg _ (by omega)]; rfl
theorem be_ok {α : Type} {v : MV} {h : MH} {f g : MV → MH → Tr α} : Tr.be (okE v h) f g = f v h := rfl
theorem bl_ok {α : Type} {v : List MV} {h : MH} {f : List MV → MH → Tr α} {g : MV → MH → Tr α} : Tr.bl (.ret (.ok v h)) f g = f v h := rfl
theorem bo_some {b : Bool} {h : MH} : bO (some b) h = okE (.bl b) h := rfl
theorem br_bl {α : Type} {h : MH} {b : Bool} {t f : Tr α} : br h (.bl b) t f = if b = true then t else f := by cases b <;> rfl
/-! ### shortest -/
abbrev pS (cy : List Int) (s : Nat) : Bool := cy.length % s == 0 && ((List.replicate (cy.length / s) (cy.take s)).flatten == cy)
abbrev bodyS : RunS := runIf (runAnd (run2 (run2 (runArgs (runCons (runVar 0) runNil) kLen) (runVar 1) opMod) (cI 0) (cOp cEq)) (run2 (run2 (runSl false (runVar 0) runNoP (runPt (runVar 1))) (run2 (runArgs (runCons (runVar 0) runNil) kLen) (runVar 1) opFdiv) opMulT) (runVar 0) (cOp cEq))) (runRet (runSl false (runVar 0) runNoP (runPt (runVar 1)))) nxS
theorem flat_len (k : Nat) (xs : List Int) : ((List.replicate k xs).flatten).length = k * xs.length := by
  induction k with
  | zero => simp
  | succ k ih => rw [List.replicate_succ, List.flatten_cons, List.length_append, ih, Nat.succ_mul]; omega
theorem mod_nat {h : MH} {a b : Nat} (hb : 1 ≤ b) : opMod (.int a) (.int b) h = okE (.int ((a % b : Nat) : Int)) h := by
  show ifT (decide ((b : Int) ≠ 0)) (okE (.int ((a : Int).fmod b)) h) = _
  rw [decide_eq_true (by omega), fmod_nat]; rfl
theorem div_nat {h : MH} {a b : Nat} (hb : 1 ≤ b) (hb2 : b ≤ 1000) : opFdiv (.int a) (.int b) h = okE (.int ((a / b : Nat) : Int)) h := by
  show ifT (decide ((b : Int) ≠ 0) && decide ((b : Int).natAbs < 1073741824)) (okE (.int ((a : Int).fdiv b)) h) = _
  rw [decide_eq_true (by omega), decide_eq_true (by omega), fdiv_nat]; rfl
theorem body_run {h : MH} {cy : List Int} {s : Nat} (h1 : 1 ≤ s) (h2 : s < cy.length) (h3 : cy.length ≤ 100) : bodyS [some (tI_ cy), some (.int s)] h = if pS cy s = true then .ret (.rt (tI_ (cy.take s)) h) else nxS [some (tI_ cy), some (.int s)] h := by
  have v0 : runVar 0 [some (tI_ cy), some (.int s)] h = okE (tI_ cy) h := rfl
  have v1 : runVar 1 [some (tI_ cy), some (.int s)] h = okE (.int s) h := rfl
  have ln : runArgs (runCons (runVar 0) runNil) kLen [some (tI_ cy), some (.int s)] h = okE (.int cy.length) h := len_tI
  have sl : runSl false (runVar 0) runNoP (runPt (runVar 1)) [some (tI_ cy), some (.int s)] h = okE (tI_ (cy.take s)) h := sl_to
  have c1 : run2 (run2 (runArgs (runCons (runVar 0) runNil) kLen) (runVar 1) opMod) (cI 0) (cOp cEq) [some (tI_ cy), some (.int s)] h = okE (.bl (decide (((cy.length % s : Nat) : Int) = 0))) h := by
    unfold run2
    rw [ln, be_ok, v1, be_ok, mod_nat h1]
    rfl
  have tk : (cy.take s).length = s := by rw [List.length_take]; omega
  have q1 : 1 ≤ cy.length / s := by rw [Nat.le_div_iff_mul_le (by omega)]; omega
  have q2 : cy.length / s ≤ 100 := Nat.le_trans (Nat.div_le_self _ _) h3
  have c2 : run2 (run2 (runSl false (runVar 0) runNoP (runPt (runVar 1))) (run2 (runArgs (runCons (runVar 0) runNil) kLen) (runVar 1) opFdiv) opMulT) (runVar 0) (cOp cEq) [some (tI_ cy), some (.int s)] h = okE (.bl (decide ((List.replicate (cy.length / s) (cy.take s)).flatten = cy))) h := by
    unfold run2
    rw [sl, be_ok, ln, be_ok, v1, be_ok, div_nat h1 (by omega), be_ok, mul_tI (by omega) (by omega) q1 (by omega), be_ok, v0, be_ok]
    show bO (cEq _ _ h) h = _
    rw [cEq_tI (by rw [flat_len, tk]; have := Nat.div_mul_le_self cy.length s; omega) (by omega)]
    rfl
  unfold bodyS runIf runAnd
  rw [c1, be_ok, br_bl]
  by_cases e : cy.length % s = 0
  · rw [decide_eq_true (by omega : ((cy.length % s : Nat) : Int) = 0), if_pos rfl, c2, be_ok, br_bl]
    by_cases e2 : (List.replicate (cy.length / s) (cy.take s)).flatten = cy
    · rw [decide_eq_true e2, if_pos rfl, if_pos (by simp [pS, e, e2])]
      unfold runRet
      rw [sl]; rfl
    · rw [decide_eq_false e2, if_neg (by simp), if_neg (by simp [pS, e2])]
  · rw [decide_eq_false (by omega : ¬ ((cy.length % s : Nat) : Int) = 0), if_neg (by simp), be_ok, br_bl, if_neg (by simp), if_neg (by simp [pS, e])]
theorem loop_run {h : MH} {cy : List Int} (h3 : cy.length ≤ 100) : ∀ (k lo : Nat) (x : Option MV), 1 ≤ lo → lo + k ≤ cy.length → ∃ x', loopF (gNm 1) bodyS (rngM (lo : Int) k) [some (tI_ cy), x] h = match (List.range' lo k).find? (pS cy) with
    | some s => .ret (.rt (tI_ (cy.take s)) h)
    | none => nxS [some (tI_ cy), x'] h
  | 0, lo, x, _, _ => ⟨x, rfl⟩
  | k + 1, lo, x, h1, h2 => by
    obtain ⟨x', e⟩ := loop_run (h := h) h3 k (lo + 1) (some (.int lo)) (by omega) (by omega)
    refine ⟨x', ?_⟩
    show (bodyS [some (tI_ cy), some (.int lo)] h).bind _ = _
    rw [body_run h1 (by omega) h3, List.range'_succ, List.find?_cons]
    cases c : pS cy lo with
    | true => rw [if_pos rfl]; rfl
    | false =>
      rw [if_neg (by simp)]
      have e1 : ((lo + 1 : Nat) : Int) = (lo : Int) + 1 := by omega
      rw [e1] at e
      exact e
theorem bd_nat {n : Nat} (h : n ≤ 1000) : bd62 (n : Int) = true := by
  unfold bd62
  rw [decide_eq_true (by omega), decide_eq_true (by omega)]
  rfl
theorem rng2_in {f : RunL} {m : MS} {h : MH} {a b : Int} (e : f m h = .ret (.ok [.int a, .int b] h)) (ha : bd62 a = true) (hb : bd62 b = true) : runRng2 f m h = .ret (.ok (rngM a (b - a).toNat) h) := by
  unfold runRng2
  rw [e, bl_ok]
  dsimp only
  rw [ha, hb]
  rfl
theorem rng2_run {f : RunL} {m : MS} {h : MH} {a b : Nat} (e : f m h = .ret (.ok [.int a, .int b] h)) (ha : a ≤ 1000) (hb : b ≤ 1000) : runRng2 f m h = .ret (.ok (rngM a ((b : Int) - a).toNat) h) := rng2_in e (bd_nat ha) (bd_nat hb)
theorem short_run {h : MH} {cy : List Int} (h1 : 1 ≤ cy.length) (h3 : cy.length ≤ 100) : runDef 1 r_shortest [tI_ cy] h = okE (tI_ (shortL cy)) h := by
  obtain ⟨x', e⟩ := loop_run (h := h) h3 (cy.length - 1) 1 none (Nat.le_refl _) (by omega)
  have it : (runRng2 (runCons (cI 1) (runCons (runArgs (runCons (runVar 0) runNil) kLen) runNil))) [some (tI_ cy), none] h = .ret (.ok (rngM 1 (cy.length - 1)) h) := by
    have ln : runArgs (runCons (runVar 0) runNil) kLen [some (tI_ cy), none] h = okE (.int cy.length) h := len_tI
    have A2 : runCons (runArgs (runCons (runVar 0) runNil) kLen) runNil [some (tI_ cy), none] h = .ret (.ok [.int cy.length] h) := by
      show Tr.be (runArgs (runCons (runVar 0) runNil) kLen [some (tI_ cy), none] h) _ _ = _
      rw [ln]; rfl
    have A1 : runCons (cI 1) (runCons (runArgs (runCons (runVar 0) runNil) kLen) runNil) [some (tI_ cy), none] h = .ret (.ok [.int 1, .int cy.length] h) := by
      show Tr.be (okE (.int 1) h) (fun v h1 => Tr.bl (runCons (runArgs (runCons (runVar 0) runNil) kLen) runNil [some (tI_ cy), none] h1) (fun vs h2 => .ret (.ok (v :: vs) h2)) exL) exL = _
      rw [be_ok, A2]; rfl
    rw [rng2_run (a := 1) A1 (by omega) (by omega), show ((cy.length : Int) - ((1 : Nat) : Int)).toNat = cy.length - 1 from by omega]
    rfl
  have st : r_shortest [some (tI_ cy), none] h = .ret (.rt (tI_ (shortL cy)) h) := by
    unfold r_shortest runSeq runFor
    rw [it, bl_ok]
    rw [show loopF (gNm 1) _ (rngM 1 (cy.length - 1)) [some (tI_ cy), none] h = _ from e]
    unfold shortL
    cases c : (List.range' 1 (cy.length - 1)).find? (pS cy) with
    | some s => rfl
    | none => rfl
  show endD (r_shortest [some (tI_ cy), none] h) = _
  rw [st]; rfl
end
end WK
set_option Elab.async false
set_option linter.all false
set_option maxRecDepth 100000
set_option maxHeartbeats 0
/-! normal_row, drop -/
namespace WK
noncomputable section
open PySem PySem.Spec PyProof.Rows L2
theorem nth_get : ∀ (xs : List MV) (i : Nat), nth xs i = xs[i]?
  | [], _ => by simp [nth]
  | _ :: _, 0 => rfl
  | _ :: r, i + 1 => by
    show nth r i = _
    rw [nth_get r i]; simp
theorem ix_last {h : MH} {ys : List Int} {x : Int} : opIxA (tI_ (ys ++ [x])) (.int (-1)) h = okE (.int x) h := by
  show (match atM ((ys ++ [x]).map MV.int) (Int.negSucc 0) with
    | some v => okE v h
    | none => .bad) = _
  have e : atM ((ys ++ [x]).map MV.int) (Int.negSucc 0) = some (.int x) := by
    show (match Nat.ble (0 + 1) ((ys ++ [x]).map MV.int).length with
      | true => nthR ((ys ++ [x]).map MV.int) (((ys ++ [x]).map MV.int).length - (0 + 1))
      | false => none) = _
    rw [show Nat.ble (0 + 1) ((ys ++ [x]).map MV.int).length = true from Nat.ble_eq.mpr (by simp), nthR_eq, nth_get]
    simp
  rw [e]
abbrev neg1 : RunE := run1 (cI 1) opNeg
theorem neg1_run {m : MS} {h : MH} : neg1 m h = okE (.int (-1)) h := rfl
theorem pt_neg {m : MS} {h : MH} : runPt neg1 m h = .ret (.ok (some (-1)) h) := rfl
theorem sl_butR {m : MS} {h : MH} {f : RunE} {xs : List Int} (e : f m h = okE (tI_ xs) h) : runSl false f runNoP (runPt neg1) m h = okE (tI_ xs.dropLast) h := by
  unfold runSl
  rw [e, be_ok]
  exact sl_but
theorem sl_lastR {m : MS} {h : MH} {f : RunE} {ys : List Int} {x : Int} (e : f m h = okE (tI_ (ys ++ [x])) h) : runSl false f (runPt neg1) runNoP m h = okE (tI_ [x]) h := by
  unfold runSl
  rw [e, be_ok]
  refine Eq.trans sl_last ?_
  congr 2
  simp
theorem cons_run {m : MS} {h : MH} {f : RunE} {g : RunL} {x : MV} {xs : List MV} (e : f m h = okE x h) (e2 : g m h = .ret (.ok xs h)) : runCons f g m h = .ret (.ok (x :: xs) h) := by
  show Tr.be (f m h) _ _ = _
  rw [e, be_ok, e2]; rfl
theorem nil_run {m : MS} {h : MH} : runNil m h = .ret (.ok [] h) := rfl
theorem args_run {m : MS} {h : MH} {f : RunL} {k : List MV → MH → Tr ER} {xs : List MV} (e : f m h = .ret (.ok xs h)) : runArgs f k m h = k xs h := by
  unfold runArgs
  rw [e, bl_ok]
theorem run2_run {m : MS} {h : MH} {f g : RunE} {op : MV → MV → MH → Tr ER} {x y : MV} (e : f m h = okE x h) (e2 : g m h = okE y h) : run2 f g op m h = op x y h := by
  unfold run2
  rw [e, be_ok, e2, be_ok]
abbrev condN (i j : Nat) : RunE := runAnd (run2 (runVar i) (runArgs runNil kTup) (cOp cNe)) (run2 (run2 (runVar i) neg1 opIxA) (run2 (runVar j) neg1 opIxA) (cOp cEq))
abbrev bodyN : RunS := runPar 1 2 (runCons (runSl false (runVar 1) runNoP (runPt neg1)) (runCons (run2 (runSl false (runVar 2) (runPt neg1) runNoP) (runSl false (runVar 2) runNoP (runPt neg1)) (opAdd false)) runNil))
theorem cEq_int {h : MH} {a b : Int} : cOp cEq (.int a) (.int b) h = okE (.bl (decide (a = b))) h := rfl
theorem last_of {cy : List Int} (h : cy ≠ []) : ∃ ys x, cy = ys ++ [x] ∧ cy.getLast? = some x ∧ cy.dropLast = ys := by
  rcases List.eq_nil_or_concat cy with e | ⟨ys, x, e⟩
  · exact absurd e h
  · rw [List.concat_eq_append] at e
    exact ⟨ys, x, e, by rw [e]; simp, by rw [e]; simp⟩
theorem while_run {h : MH} {row : MV} : ∀ (r : List Int) (cy : List Int) (n : Nat), cy ≠ [] → r.length < n → r.length + cy.length ≤ 100 → runWh (condN 1 2) bodyN n [some row, some (tI_ r.reverse), some (tI_ cy)] h = nxS [some row, some (tI_ (pullR r cy).1), some (tI_ (pullR r cy).2)] h
  | [], cy, n + 1, _, _, hz => by
    have c : condN 1 2 [some row, some (tI_ [].reverse), some (tI_ cy)] h = okE (.bl false) h := by
      unfold condN runAnd
      rw [run2_run (x := tI_ []) (y := tI_ []) rfl rfl]
      show Tr.be (bO (cNe (tI_ []) (tI_ []) h) h) _ _ = _
      rw [cNe_tI (by simp) (by simp)]
      rfl
    show Tr.be (condN 1 2 _ h) _ _ = _
    rw [c, be_ok]; rfl
  | x :: r, cy, n + 1, hc, hn, hz => by
    obtain ⟨ys, z, e1, e2, e3⟩ := last_of hc
    have er : (x :: r).reverse = r.reverse ++ [x] := List.reverse_cons
    have hz' : r.length + 1 + cy.length ≤ 100 := hz
    have v1 : runVar 1 [some row, some (tI_ (r.reverse ++ [x])), some (tI_ (ys ++ [z]))] h = okE (tI_ (r.reverse ++ [x])) h := rfl
    have v2 : runVar 2 [some row, some (tI_ (r.reverse ++ [x])), some (tI_ (ys ++ [z]))] h = okE (tI_ (ys ++ [z])) h := rfl
    have ly : ys.length + 1 = cy.length := by rw [e1]; simp
    have c : condN 1 2 [some row, some (tI_ (r.reverse ++ [x])), some (tI_ (ys ++ [z]))] h = okE (.bl (decide (x = z))) h := by
      unfold condN runAnd
      rw [run2_run (x := tI_ (r.reverse ++ [x])) (y := tI_ []) rfl rfl]
      show Tr.be (bO (cNe (tI_ (r.reverse ++ [x])) (tI_ []) h) h) _ _ = _
      rw [cNe_tI (by simp; omega) (by simp), decide_eq_false (by simp)]
      show Tr.be (okE (.bl true) h) _ _ = _
      rw [be_ok, br_bl, if_pos rfl, run2_run (x := .int x) (y := .int z) (by rw [run2_run v1 neg1_run]; exact ix_last) (by rw [run2_run v2 neg1_run]; exact ix_last)]
      rfl
    show Tr.be (condN 1 2 [some row, some (tI_ (x :: r).reverse), some (tI_ cy)] h) _ _ = _
    have pq : pullR (x :: r) cy = (match decide (cy.getLast? = some x) with
      | true => pullR r (x :: cy.dropLast)
      | false => ((x :: r).reverse, cy)) := rfl
    rw [pq, er, e2, e3]
    subst e1
    rw [c, be_ok, br_bl]
    by_cases q : x = z
    · subst q
      rw [decide_eq_true rfl, if_pos rfl, decide_eq_true rfl]
      have b : bodyN [some row, some (tI_ (r.reverse ++ [x])), some (tI_ (ys ++ [x]))] h = nxS [some row, some (tI_ r.reverse), some (tI_ (x :: ys))] h := by
        unfold bodyN runPar
        rw [cons_run (sl_butR v1) (cons_run (by rw [run2_run (sl_lastR v2) (sl_butR v2)]; exact add_tI (by simp; omega)) nil_run), bl_ok]
        rw [List.dropLast_concat, List.dropLast_concat]
        rfl
      rw [b]
      exact while_run r (x :: ys) n (by simp) (by simp at hn; omega) (by simp; omega)
    · rw [decide_eq_false q, if_neg (by simp), decide_eq_false (by intro z'; exact q (Option.some.inj z').symm)]
theorem pull_len : ∀ (r cy : List Int), cy ≠ [] → (pullR r cy).2.length = cy.length ∧ (pullR r cy).1.length ≤ r.length ∧ (pullR r cy).2 ≠ []
  | [], cy, h => ⟨rfl, Nat.le_refl _, h⟩
  | x :: r, cy, h => by
    have pq : pullR (x :: r) cy = (match decide (cy.getLast? = some x) with
      | true => pullR r (x :: cy.dropLast)
      | false => ((x :: r).reverse, cy)) := rfl
    rw [pq]
    cases decide (cy.getLast? = some x) with
    | true =>
      obtain ⟨a, b, c⟩ := pull_len r (x :: cy.dropLast) (by simp)
      have : cy.length ≠ 0 := fun z => h (List.eq_nil_of_length_eq_zero z)
      refine ⟨?_, Nat.le_succ_of_le b, c⟩
      rw [a, List.length_cons, List.length_dropLast]
      omega
    | false => exact ⟨rfl, by simp, h⟩
theorem short_ne {cy : List Int} (h : cy ≠ []) : shortL cy ≠ [] ∧ (shortL cy).length ≤ cy.length := by
  unfold shortL
  split
  · rename_i s e
    have hs := List.mem_of_find?_eq_some e
    rw [List.mem_range'_1] at hs
    have hl : cy.length ≠ 0 := fun z => h (List.eq_nil_of_length_eq_zero z)
    refine ⟨fun z => ?_, by rw [List.length_take]; omega⟩
    have := congrArg List.length z
    rw [List.length_take, List.length_nil] at this
    omega
  · exact ⟨h, Nat.le_refl _⟩
theorem ix0 {h : MH} {hd cy : List Int} : opIxA (rowM hd cy) (.int 0) h = okE (tI_ hd) h := rfl
theorem ix1 {h : MH} {hd cy : List Int} : opIxA (rowM hd cy) (.int 1) h = okE (tI_ cy) h := rfl
theorem shortC_run {h : MH} {cy : List Int} (h1 : 1 ≤ cy.length) (h2 : cy.length ≤ 100) : runShort [tI_ cy] h = okE (tI_ (shortL cy)) h := by
  show (match intsR (cy.map MV.int) with
    | some cy => ifT (Nat.ble 1 cy.length && Nat.ble cy.length 100) (okE (.tup ((shortL cy).map .int)) h)
    | none => .bad) = _
  rw [intsR_map]
  dsimp only
  rw [Nat.ble_eq.mpr h1, Nat.ble_eq.mpr h2]; rfl
theorem norm_run {h : MH} {hd cy : List Int} (hc : cy ≠ []) (hz : hd.length + cy.length ≤ 30) : runDef 2 r_normal_row [rowM hd cy] h = okE (rowM (normL hd cy).1 (normL hd cy).2) h := by
  obtain ⟨s1, s2⟩ := short_ne hc
  have st : r_normal_row [some (rowM hd cy), none, none] h = .ret (.rt (rowM (normL hd cy).1 (normL hd cy).2) h) := by
    have v0 : runVar 0 [some (rowM hd cy), none, none] h = okE (rowM hd cy) h := rfl
    have A : runArgs (runCons (run2 (runVar 0) (cI 0) opIxA) runNil) kTuple [some (rowM hd cy), none, none] h = okE (tI_ hd) h := by
      rw [args_run (cons_run (by rw [run2_run v0 rfl]; exact ix0) nil_run)]; rfl
    have B1 : runArgs (runCons (run2 (runVar 0) (cI 1) opIxA) runNil) kTuple [some (rowM hd cy), none, none] h = okE (tI_ cy) h := by
      rw [args_run (cons_run (by rw [run2_run v0 rfl]; exact ix1) nil_run)]; rfl
    have B : runArgs (runCons (runArgs (runCons (run2 (runVar 0) (cI 1) opIxA) runNil) kTuple) runNil) (runF false [] runShort) [some (rowM hd cy), none, none] h = okE (tI_ (shortL cy)) h := by
      rw [args_run (cons_run B1 nil_run)]
      exact shortC_run (List.length_pos_iff.mpr hc) (by omega)
    have P1 : runPar 1 2 (runCons (runArgs (runCons (run2 (runVar 0) (cI 0) opIxA) runNil) kTuple) (runCons (runArgs (runCons (runArgs (runCons (run2 (runVar 0) (cI 1) opIxA) runNil) kTuple) runNil) (runF false [] runShort)) runNil)) [some (rowM hd cy), none, none] h = nxS [some (rowM hd cy), some (tI_ hd), some (tI_ (shortL cy))] h := by
      unfold runPar
      rw [cons_run A (cons_run B nil_run), bl_ok]; rfl
    have W := while_run (h := h) (row := rowM hd cy) hd.reverse (shortL cy) 40 s1 (by simp; omega) (by simp; omega)
    rw [List.reverse_reverse] at W
    unfold r_normal_row runSeq
    rw [P1]
    show Tr.bind (runWh (condN 1 2) bodyN 40 [some (rowM hd cy), some (tI_ hd), some (tI_ (shortL cy))] h) _ = _
    rw [W]; rfl
  show endD (r_normal_row [some (rowM hd cy), none, none] h) = _
  rw [st]; rfl
end
end WK
set_option Elab.async false
set_option linter.all false
set_option maxRecDepth 100000
set_option maxHeartbeats 0
/-! drop -/
namespace WK
noncomputable section
open PySem PySem.Spec PyProof.Rows L2
theorem normC_run {h : MH} {hd cy : List Int} (hc : cy ≠ []) (h1 : hd.length ≤ 8) (h2 : cy.length ≤ 8) : runNormC [rowM hd cy] h = okE (rowM (normL hd cy).1 (normL hd cy).2) h := by
  have e : rowOf (rowM hd cy) = some (hd, cy) := by
    show (match intsR (hd.map MV.int), intsR (cy.map MV.int) with
      | some hd, some cy => some (hd, cy)
      | _, _ => none) = _
    rw [intsR_map, intsR_map]
  have o : okR (hd, cy) = true := by
    unfold okR
    have : cy.isEmpty = false := by cases cy with
      | nil => exact absurd rfl hc
      | cons _ _ => rfl
    rw [show (hd, cy).2.isEmpty = false from this, Nat.ble_eq.mpr h1, Nat.ble_eq.mpr h2]; rfl
  show (match rowOf (rowM hd cy) with
    | some p => ifT (okR p) (okE (rowM (normL p.1 p.2).1 (normL p.1 p.2).2) h)
    | none => .bad) = _
  rw [e]
  dsimp only
  rw [o]; rfl
theorem seq_nx {f g : RunS} {m m' : MS} {h h' : MH} (e : f m h = nxS m' h') : runSeq f g m h = g m' h' := by
  unfold runSeq
  rw [e]; rfl
theorem if_run {c : RunE} {f g : RunS} {m : MS} {h : MH} {b : Bool} (e : c m h = okE (.bl b) h) : runIf c f g m h = if b = true then f m h else g m h := by
  unfold runIf
  rw [e, be_ok, br_bl]
theorem ret_run {f : RunE} {m : MS} {h : MH} {v : MV} (e : f m h = okE v h) : runRet f m h = .ret (.rt v h) := by
  unfold runRet
  rw [e]; rfl
theorem asg_nm {f : RunE} {m : MS} {h : MH} {v : MV} {i : Nat} (e : f m h = okE v h) : runAsg f (gNm i) m h = nxS (setS m i v) h := by
  unfold runAsg
  rw [e]; rfl
theorem tup_run {m : MS} {h : MH} {f : RunL} {xs : List MV} (e : f m h = .ret (.ok xs h)) : runArgs f kTup m h = okE (.tup xs) h := args_run e
theorem slR_from {m : MS} {h : MH} {f g : RunE} {xs : List Int} {k : Nat} (e : f m h = okE (tI_ xs) h) (e2 : g m h = okE (.int (k : Int)) h) : runSl false f (runPt g) runNoP m h = okE (tI_ (xs.drop k)) h := by
  unfold runSl
  rw [e, be_ok]
  unfold runPt
  rw [e2, be_ok]
  exact sl_from
theorem slR_to {m : MS} {h : MH} {f g : RunE} {xs : List Int} {k : Nat} (e : f m h = okE (tI_ xs) h) (e2 : g m h = okE (.int (k : Int)) h) : runSl false f runNoP (runPt g) m h = okE (tI_ (xs.take k)) h := by
  unfold runSl
  rw [e, be_ok]
  unfold runPt
  show Tr.bo (.ret (.ok none h)) _ _ = _
  show Tr.bo ((g m h).be _ _) _ _ = _
  rw [e2, be_ok]
  exact sl_to
theorem kTuple_tI {h : MH} {xs : List MV} : kTuple [.tup xs] h = okE (.tup xs) h := rfl
theorem drop_run {h : MH} {hd cy : List Int} {k : Nat} (hc : cy ≠ []) (h1 : hd.length ≤ 8) (h2 : cy.length ≤ 8) : runDef 3 r_drop [rowM hd cy, .int k] h = okE (rowM (dropL hd cy k).1 (dropL hd cy k).2) h := by
  have cl : cy.length ≠ 0 := fun z => hc (List.eq_nil_of_length_eq_zero z)
  have v1 : ∀ x, runVar 1 [some (rowM hd cy), some (.int k), some (tI_ hd), some (tI_ cy), x] h = okE (.int (k : Int)) h := fun x => rfl
  have v2 : ∀ x, runVar 2 [some (rowM hd cy), some (.int k), some (tI_ hd), some (tI_ cy), x] h = okE (tI_ hd) h := fun x => rfl
  have v3 : ∀ x, runVar 3 [some (rowM hd cy), some (.int k), some (tI_ hd), some (tI_ cy), x] h = okE (tI_ cy) h := fun x => rfl
  have ln2 : runArgs (runCons (runVar 2) runNil) kLen [some (rowM hd cy), some (.int k), some (tI_ hd), some (tI_ cy), none] h = okE (.int hd.length) h := by rw [args_run (cons_run (v2 _) nil_run)]; exact len_tI
  have ln3 : runArgs (runCons (runVar 3) runNil) kLen [some (rowM hd cy), some (.int k), some (tI_ hd), some (tI_ cy), none] h = okE (.int cy.length) h := by rw [args_run (cons_run (v3 _) nil_run)]; exact len_tI
  have st : r_drop [some (rowM hd cy), some (.int k), none, none, none] h = .ret (.rt (rowM (dropL hd cy k).1 (dropL hd cy k).2) h) := by
    unfold r_drop
    have c0 : run2 (runVar 1) (cI 0) (cOp cLt) [some (rowM hd cy), some (.int k), none, none, none] h = okE (.bl (decide ((k : Int) < 0))) h := rfl
    have s1 : runIf (run2 (runVar 1) (cI 0) (cOp cLt)) badS nxS [some (rowM hd cy), some (.int k), none, none, none] h = nxS [some (rowM hd cy), some (.int k), none, none, none] h := by
      rw [if_run c0, decide_eq_false (by omega), if_neg (by simp)]
    have s2 : runAsg (runVar 0) (gTp 2 (gsCons (gNm 2) (gsCons (gNm 3) gsNil))) [some (rowM hd cy), some (.int k), none, none, none] h = nxS [some (rowM hd cy), some (.int k), some (tI_ hd), some (tI_ cy), none] h := rfl
    rw [seq_nx s1, seq_nx s2]
    have c1 : run2 (runVar 1) (runArgs (runCons (runVar 2) runNil) kLen) (cOp cLt) [some (rowM hd cy), some (.int k), some (tI_ hd), some (tI_ cy), none] h = okE (.bl (decide ((k : Int) < (hd.length : Int)))) h := by
      rw [run2_run (v1 _) ln2]; rfl
    by_cases q : k < hd.length
    · have q' : (k : Int) < (hd.length : Int) := by omega
      unfold runSeq
      rw [if_run c1, decide_eq_true q', if_pos rfl, ret_run (v := rowM (normL (hd.drop k) cy).1 (normL (hd.drop k) cy).2)]
      · show Tr.ret _ = _
        unfold dropL
        rw [decide_eq_true q']
        rfl
      · rw [args_run (cons_run (tup_run (cons_run (slR_from (v2 _) (v1 _)) (cons_run (v3 _) nil_run))) nil_run)]
        exact normC_run hc (by rw [List.length_drop]; omega) h2
    · have q' : ¬ (k : Int) < (hd.length : Int) := by omega
      have s3 : runIf (run2 (runVar 1) (runArgs (runCons (runVar 2) runNil) kLen) (cOp cLt)) (runRet (runArgs (runCons (runArgs (runCons (runSl false (runVar 2) (runPt (runVar 1)) runNoP) (runCons (runVar 3) runNil)) kTup) runNil) (runF false [] runNormC))) nxS [some (rowM hd cy), some (.int k), some (tI_ hd), some (tI_ cy), none] h = nxS [some (rowM hd cy), some (.int k), some (tI_ hd), some (tI_ cy), none] h := by
        rw [if_run c1, decide_eq_false q', if_neg (by simp)]
      rw [seq_nx s3]
      have t0 : ((k : Int) - (hd.length : Int)) % (cy.length : Int) = (((k - hd.length) % cy.length : Nat) : Int) := by
        rw [show ((k : Int) - (hd.length : Int)) = ((k - hd.length : Nat) : Int) from by omega]; rfl
      have c2 : run2 (run2 (runVar 1) (runArgs (runCons (runVar 2) runNil) kLen) opSub) (runArgs (runCons (runVar 3) runNil) kLen) opMod [some (rowM hd cy), some (.int k), some (tI_ hd), some (tI_ cy), none] h = okE (.int (((k - hd.length) % cy.length : Nat) : Int)) h := by
        rw [run2_run (x := .int ((k - hd.length : Nat) : Int)) (by rw [run2_run (v1 _) ln2]; show okE (.int ((k : Int) - (hd.length : Int))) h = _; rw [show ((k : Int) - (hd.length : Int)) = ((k - hd.length : Nat) : Int) from by omega]) ln3]
        exact mod_nat (by omega)
      rw [seq_nx (asg_nm c2)]
      show runRet _ [some (rowM hd cy), some (.int k), some (tI_ hd), some (tI_ cy), some (.int (((k - hd.length) % cy.length : Nat) : Int))] h = _
      have v4 : runVar 4 [some (rowM hd cy), some (.int k), some (tI_ hd), some (tI_ cy), some (.int (((k - hd.length) % cy.length : Nat) : Int))] h = okE (.int (((k - hd.length) % cy.length : Nat) : Int)) h := rfl
      rw [ret_run (v := rowM (normL [] (cy.drop ((k - hd.length) % cy.length) ++ cy.take ((k - hd.length) % cy.length))).1 (normL [] (cy.drop ((k - hd.length) % cy.length) ++ cy.take ((k - hd.length) % cy.length))).2)]
      · unfold dropL
        rw [decide_eq_false q']
        dsimp only
        rw [t0, Int.toNat_natCast]
      · rw [args_run (cons_run (tup_run (cons_run (tup_run nil_run) (cons_run (by
          rw [run2_run (by rw [args_run (cons_run (slR_from (v3 _) v4) nil_run)]; exact kTuple_tI) (by rw [args_run (cons_run (slR_to (v3 _) v4) nil_run)]; exact kTuple_tI)]
          exact add_tI (by rw [List.length_drop, List.length_take]; omega)) nil_run))) nil_run)]
        refine normC_run (hd := []) (fun z => ?_) (by simp) (by rw [List.length_append, List.length_drop, List.length_take]; omega)
        have := congrArg List.length z
        rw [List.length_append, List.length_drop, List.length_take, List.length_nil] at this
        omega
  show endD (r_drop [some (rowM hd cy), some (.int k), none, none, none] h) = _
  rw [st]; rfl
end
end WK
set_option Elab.async false
set_option linter.all false
set_option maxRecDepth 100000
set_option maxHeartbeats 0
/-! check_row of a graph with two loops at its one state -/
namespace WK
noncomputable section
open PySem PySem.Spec PyProof.Rows L2
abbrev G2 : MV := .ins 2 [(9, .int 1), (10, .tup [.tup [.int 0, .int 0], .tup [.int 0, .int 0]])]
abbrev stepF : RunS := runSeq (runIf (runOr (runNot (runChain (cI 0) (runVar 5) (runVar 2) (cInt cLeP) cLt)) (runAnd (run2 (runVar 3) cN (cOp cNotN)) (run2 (runVar 5) (runMth [(2, (runDef 0 r_Graph_following))] false 23 (runVar 0) (runCons (runVar 3) runNil)) (cOp cNiA)))) (runRet (runVar 4)) nxS)
    (runAsg (runVar 5) (gNm 3))
abbrev gF : RunG := gTp 2 (gsCons (gNm 4) (gsCons (gNm 5) gsNil))
theorem step_run {h : MH} {P pl : MV} {x : Int} {b : MV} (hx : x = 0 ∨ x = 1) (hb : b = .non ∨ b = .int 0 ∨ b = .int 1) : stepF [some G2, some P, some (.int 2), some b, some pl, some (.int x)] h = nxS [some G2, some P, some (.int 2), some (.int x), some pl, some (.int x)] h := by
  rcases hx with rfl | rfl <;> rcases hb with rfl | rfl | rfl <;> rfl
theorem first_loop {h : MH} {P : MV} : ∀ (xs : List Int) (k : Nat) (b : MV) (pl nu : Option MV), (∀ x ∈ xs, x = 0 ∨ x = 1) → (b = .non ∨ b = .int 0 ∨ b = .int 1) → ∃ b' pl' nu', loopF gF stepF (enumM k (xs.map .int)) [some G2, some P, some (.int 2), some b, pl, nu] h = nxS [some G2, some P, some (.int 2), some b', pl', nu'] h
  | [], k, b, pl, nu, _, _ => ⟨b, pl, nu, rfl⟩
  | x :: xs, k, b, pl, nu, hx, hb => by
    have h0 := hx x List.mem_cons_self
    obtain ⟨b', pl', nu', e⟩ := first_loop (h := h) (P := P) xs (k + 1) (.int x) (some (.int k)) (some (.int x)) (fun y hy => hx y (List.mem_cons_of_mem _ hy)) (by rcases h0 with rfl | rfl <;> simp)
    refine ⟨b', pl', nu', ?_⟩
    show Tr.bind (stepF [some G2, some P, some (.int 2), some b, some (.int k), some (.int x)] h) _ = _
    rw [step_run h0 hb]
    exact e
theorem first_run {h : MH} {xs : List Int} (hx : ∀ x ∈ xs, x = 0 ∨ x = 1) : runDef 4 r_first_break [G2, tI_ xs] h = okE .non h := by
  have st : r_first_break [some G2, some (tI_ xs), none, none, none, none] h = .ret (.rt .non h) := by
    obtain ⟨b', pl', nu', e⟩ := first_loop (h := h) (P := tI_ xs) xs 0 .non none none hx (.inl rfl)
    have f2 : runFor (runEnumT (runVar 1)) gF stepF [some G2, some (tI_ xs), some (.int 2), some .non, none, none] h = nxS [some G2, some (tI_ xs), some (.int 2), some b', pl', nu'] h := e
    unfold r_first_break
    rw [seq_nx (f := runPar 2 3 _) (m' := [some G2, some (tI_ xs), some (.int 2), some .non, none, none]) (h' := h) rfl]
    rw [seq_nx f2]
    rfl
  show endD (r_first_break [some G2, some (tI_ xs), none, none, none, none] h) = _
  rw [st]; rfl
theorem check_run {h : MH} {hd cy : List Int} (hc : cy ≠ []) (h1 : hd.length ≤ 100) (h2 : cy.length ≤ 100) (hx : ∀ x ∈ hd ++ cy, x = 0 ∨ x = 1) : runDef 3 r_check_row [G2, rowM hd cy] h = okE .non h := by
  have cl : cy.length ≠ 0 := fun z => hc (List.eq_nil_of_length_eq_zero z)
  have v0 : runVar 0 [some G2, some (rowM hd cy), some (tI_ hd), some (tI_ cy), none] h = okE G2 h := rfl
  have v2 : runVar 2 [some G2, some (rowM hd cy), some (tI_ hd), some (tI_ cy), none] h = okE (tI_ hd) h := rfl
  have v3 : runVar 3 [some G2, some (rowM hd cy), some (tI_ hd), some (tI_ cy), none] h = okE (tI_ cy) h := rfl
  have st : r_check_row [some G2, some (rowM hd cy), none, none, none] h = nxS [some G2, some (rowM hd cy), some (tI_ hd), some (tI_ cy), some .non] h := by
    unfold r_check_row
    have s2 : runAsg (runVar 1) (gTp 2 (gsCons (gNm 2) (gsCons (gNm 3) gsNil))) [some G2, some (rowM hd cy), none, none, none] h = nxS [some G2, some (rowM hd cy), some (tI_ hd), some (tI_ cy), none] h := rfl
    have c : run2 (runArgs (runCons (runVar 3) runNil) kLen) (cI 0) (cOp cEq) [some G2, some (rowM hd cy), some (tI_ hd), some (tI_ cy), none] h = okE (.bl false) h := by
      rw [run2_run (by rw [args_run (cons_run v3 nil_run)]; exact len_tI) rfl, cEq_int, decide_eq_false (by omega)]
    have s3 : runIf (run2 (runArgs (runCons (runVar 3) runNil) kLen) (cI 0) (cOp cEq)) badS nxS [some G2, some (rowM hd cy), some (tI_ hd), some (tI_ cy), none] h = nxS [some G2, some (rowM hd cy), some (tI_ hd), some (tI_ cy), none] h := by
      rw [if_run c, if_neg (by simp)]
    rw [seq_nx s2, seq_nx s3]
    have p : run2 (run2 (runArgs (runCons (runVar 2) runNil) kTuple) (runArgs (runCons (runVar 3) runNil) kTuple) (opAdd false)) (runArgs (runCons (runSl false (runVar 3) runNoP (runPt (cI 1))) runNil) kTuple) (opAdd false) [some G2, some (rowM hd cy), some (tI_ hd), some (tI_ cy), none] h = okE (tI_ (hd ++ cy ++ cy.take 1)) h := by
      rw [run2_run (x := tI_ (hd ++ cy)) (y := tI_ (cy.take 1)) (by
        rw [run2_run (by rw [args_run (cons_run v2 nil_run)]; exact kTuple_tI) (by rw [args_run (cons_run v3 nil_run)]; exact kTuple_tI)]
        exact add_tI (by omega)) (by rw [args_run (cons_run (slR_to (k := 1) v3 rfl) nil_run)]; exact kTuple_tI)]
      exact add_tI (by rw [List.length_append, List.length_take]; omega)
    have f : runArgs (runCons (runVar 0) (runCons (run2 (run2 (runArgs (runCons (runVar 2) runNil) kTuple) (runArgs (runCons (runVar 3) runNil) kTuple) (opAdd false)) (runArgs (runCons (runSl false (runVar 3) runNoP (runPt (cI 1))) runNil) kTuple) (opAdd false)) runNil)) (runF false [] (runDef 4 r_first_break)) [some G2, some (rowM hd cy), some (tI_ hd), some (tI_ cy), none] h = okE .non h := by
      rw [args_run (cons_run v0 (cons_run p nil_run))]
      refine first_run fun x hm => ?_
      rcases List.mem_append.mp hm with hm | hm
      · exact hx x hm
      · exact hx x (List.mem_append_right _ (List.mem_of_mem_take hm))
    rw [seq_nx (asg_nm f)]
    rfl
  show endD (r_check_row [some G2, some (rowM hd cy), none, none, none] h) = _
  rw [st]; rfl
end
end WK
set_option Elab.async false
set_option linter.all false
set_option maxRecDepth 100000
set_option maxHeartbeats 0
/-! the law's own normal form -/
namespace WK
noncomputable section
open PySem PySem.Spec PyProof.Rows L2
theorem loopC_int {g : RunG} {c f : RunE} {m : MS} {h : MH} {p : Int → Bool} {mk : Int → MS} (hg : ∀ x, g (.int x) m h = .ret (.ok (mk x) h)) : ∀ (xs : List Int) (acc : List MV), (∀ x ∈ xs, c (mk x) h = okE (.bl (p x)) h ∧ f (mk x) h = okE (.int x) h) → loopC g c f (xs.map .int) m h acc = .ret (.ok (acc.reverse ++ (xs.filter p).map .int) h)
  | [], acc, _ => by
    show Tr.ret (EL.ok acc.reverse h) = _
    simp
  | x :: xs, acc, hx => by
    obtain ⟨c1, c2⟩ := hx x List.mem_cons_self
    show Tr.bg (g (.int x) m h) (fun m1 h1 => (c m1 h1).be (fun b h2 => br h2 b ((f m1 h2).be (fun y h3 => loopC g c f (xs.map .int) m h3 (y :: acc)) (fun _ _ => .bad)) (loopC g c f (xs.map .int) m h2 acc)) (fun _ _ => .bad)) (fun _ _ _ => .bad) = _
    rw [hg x]
    show (c (mk x) h).be _ _ = _
    rw [c1, be_ok, br_bl]
    have ih := fun acc => loopC_int hg xs acc fun y hy => hx y (List.mem_cons_of_mem _ hy)
    by_cases q : p x = true
    · rw [if_pos q, c2, be_ok, ih, List.filter_cons, if_pos q]
      simp
    · rw [if_neg q, ih, List.filter_cons, if_neg q]
theorem lc_int {it : RunI} {g : RunG} {c f : RunE} {m : MS} {h : MH} {p : Int → Bool} {mk : Int → MS} {xs : List Int} (hi : it m h = .ret (.ok (xs.map .int) h)) (hl : xs.length ≤ 10000) (hg : ∀ x, g (.int x) m h = .ret (.ok (mk x) h)) (hx : ∀ x ∈ xs, c (mk x) h = okE (.bl (p x)) h ∧ f (mk x) h = okE (.int x) h) : runLc false it g c f m h = okE (.lst ((xs.filter p).map .int)) h := by
  unfold runLc
  rw [hi, bl_ok, List.length_map, big hl]
  show Tr.bl (loopC g c f (xs.map .int) m h []) (newL false) (fun _ _ => .bad) = _
  rw [loopC_int hg xs [] hx]
  rfl
theorem rngM_int : ∀ (k : Nat) (lo : Nat), rngM (lo : Int) k = ((List.range' lo k).map fun s => ((s : Nat) : Int)).map MV.int
  | 0, _ => rfl
  | k + 1, lo => by
    show MV.int (lo : Int) :: rngM ((lo : Int) + 1) k = _
    have e1 : (lo : Int) + 1 = ((lo + 1 : Nat) : Int) := by omega
    rw [e1, rngM_int k (lo + 1), List.range'_succ]
    rfl
abbrev lenV (i : Nat) : RunE := runArgs (runCons (runVar i) runNil) kLen
theorem lenV_run {m : MS} {h : MH} {i : Nat} {xs : List Int} (e : runVar i m h = okE (tI_ xs) h) : lenV i m h = okE (.int xs.length) h := by
  show runArgs (runCons (runVar i) runNil) kLen m h = _
  rw [args_run (cons_run e nil_run)]; exact len_tI
/-! the sizes -/
def q1 (cy : List Int) (s : Int) : Bool := decide (cy = ((List.replicate cy.length (cy.take s.toNat)).flatten).take cy.length)
def q2 (cy : List Int) (s : Int) : Bool := decide (((cy.length % s.toNat : Nat) : Int) = 0)
theorem rep_take (x : List Int) : ∀ (a b : Nat), ((List.replicate (a + b) x).flatten).take (a * x.length) = (List.replicate a x).flatten
  | 0, b => by simp
  | a + 1, b => by
    rw [show a + 1 + b = (a + b) + 1 from by omega, List.replicate_succ, List.replicate_succ, List.flatten_cons, List.flatten_cons, Nat.succ_mul, Nat.add_comm (a * x.length)]
    rw [List.take_length_add_append, rep_take x a b]
theorem q12 {cy : List Int} {s : Nat} (h1 : 1 ≤ s) (h2 : s ≤ cy.length) : (q1 cy s && q2 cy s) = pS cy s := by
  have e0 : ((s : Int)).toNat = s := Int.toNat_natCast s
  unfold q1 q2 pS
  rw [e0]
  by_cases d : cy.length % s = 0
  · have hq : cy.length / s * s = cy.length := by
      have := Nat.div_add_mod cy.length s
      rw [d, Nat.mul_comm] at this; omega
    have tl : (cy.take s).length = s := by rw [List.length_take]; omega
    have hle : cy.length / s ≤ cy.length := Nat.div_le_self _ _
    have e := rep_take (cy.take s) (cy.length / s) (cy.length - cy.length / s)
    rw [tl, hq, show cy.length / s + (cy.length - cy.length / s) = cy.length from by omega] at e
    rw [e, d]
    by_cases z : (List.replicate (cy.length / s) (cy.take s)).flatten = cy
    · simp [z]
    · have z' : ¬ cy = (List.replicate (cy.length / s) (cy.take s)).flatten := fun q => z q.symm
      simp [z, z']
  · have d' : ¬ ((cy.length % s : Nat) : Int) = 0 := by omega
    rw [decide_eq_false d', Bool.and_false]
    simp [d]
theorem pS_len {cy : List Int} (h : cy ≠ []) : pS cy cy.length = true := by
  have : 0 < cy.length := List.length_pos_iff.mpr h
  simp [pS, Nat.div_self this]
theorem short_find {cy : List Int} (h : cy ≠ []) : ∃ s, (List.range' 1 cy.length).find? (pS cy) = some s ∧ cy.take s = shortL cy ∧ 1 ≤ s ∧ s ≤ cy.length := by
  have hp : 0 < cy.length := List.length_pos_iff.mpr h
  have e : List.range' 1 cy.length = List.range' 1 (cy.length - 1) ++ [cy.length] := by
    obtain ⟨n, hn⟩ : ∃ n, cy.length = n + 1 := ⟨cy.length - 1, by omega⟩
    rw [hn, List.range'_concat]
    simp
    omega
  rw [e, List.find?_append]
  unfold shortL
  cases c : (List.range' 1 (cy.length - 1)).find? (pS cy) with
  | some s =>
    have hs := List.mem_of_find?_eq_some c
    rw [List.mem_range'_1] at hs
    exact ⟨s, rfl, rfl, by omega, by omega⟩
  | none =>
    refine ⟨cy.length, ?_, ?_, by omega, Nat.le_refl _⟩
    · show (List.find? (pS cy) [cy.length]) = _
      simp [pS_len h]
    · exact List.take_length
theorem find_filter (p : Nat → Bool) : ∀ (l : List Nat) (s : Nat), l.find? p = some s → ∃ r, l.filter p = s :: r
  | [], s, e => by cases e
  | x :: l, s, e => by
    rw [List.find?_cons] at e
    rw [List.filter_cons]
    by_cases q : p x = true
    · rw [q] at e; cases e
      rw [if_pos q]; exact ⟨_, rfl⟩
    · rw [if_neg q]
      rw [Bool.eq_false_iff.mpr q] at e
      exact find_filter p l s e
/-! the walk -/
abbrev test1 : RunE := run2 (runVar 2) (runSl false (run2 (runSl false (runVar 2) runNoP (runPt (runVar 4))) (lenV 2) opMulT) runNoP (runPt (lenV 2))) (cOp cEq)
abbrev test2 : RunE := run2 (run2 (lenV 2) (runVar 4) opMod) (cI 0) (cOp cEq)
theorem v4_nat {row hd cy sz : Option MV} {h : MH} {s : Nat} : runVar 4 [row, hd, cy, sz, some (.int (s : Int))] h = okE (.int (s : Int)) h := rfl
theorem test1_run {row hd sz : Option MV} {h : MH} {cy : List Int} {s : Nat} (h1 : 1 ≤ s) (h2 : s ≤ cy.length) (h3 : cy.length ≤ 30) : test1 [row, hd, some (tI_ cy), sz, some (.int (s : Int))] h = okE (.bl (q1 cy s)) h := by
  have v2 : runVar 2 [row, hd, some (tI_ cy), sz, some (.int (s : Int))] h = okE (tI_ cy) h := rfl
  have tl : (cy.take s).length = s := by rw [List.length_take]; omega
  have A : run2 (runSl false (runVar 2) runNoP (runPt (runVar 4))) (lenV 2) opMulT [row, hd, some (tI_ cy), sz, some (.int (s : Int))] h = okE (tI_ ((List.replicate cy.length (cy.take s)).flatten)) h := by
    rw [run2_run (slR_to v2 rfl) (lenV_run v2)]
    exact mul_tI (by omega) (by omega) (by omega) (by omega)
  show run2 (runVar 2) _ (cOp cEq) _ h = _
  rw [run2_run v2 (slR_to A (lenV_run v2))]
  show bO (cEq _ _ h) h = _
  rw [cEq_tI (by omega) (by rw [List.length_take]; omega)]
  rfl
theorem test2_run {row hd sz : Option MV} {h : MH} {cy : List Int} {s : Nat} (h1 : 1 ≤ s) : test2 [row, hd, some (tI_ cy), sz, some (.int (s : Int))] h = okE (.bl (q2 cy s)) h := by
  have v2 : runVar 2 [row, hd, some (tI_ cy), sz, some (.int (s : Int))] h = okE (tI_ cy) h := rfl
  show run2 (run2 (lenV 2) (runVar 4) opMod) (cI 0) (cOp cEq) _ h = _
  rw [run2_run (by rw [run2_run (lenV_run v2) v4_nat]; exact mod_nat h1) rfl, cEq_int]
  unfold q2
  rw [Int.toNat_natCast]
abbrev condL : RunE := runAnd (run2 (lenV 1) (cI 0) (cOp (cInt cGtP))) (run2 (run2 (runVar 1) neg1 opIxA) (run2 (runVar 2) neg1 opIxA) (cOp cEq))
abbrev bodyL : RunS := runAsg (runArgs (runCons (runSl false (runVar 1) runNoP (runPt neg1)) (runCons (run2 (runArgs (runCons (run2 (runVar 2) neg1 opIxA) runNil) kTup) (runSl false (runVar 2) runNoP (runPt neg1)) (opAdd false)) runNil)) kTup) (gTp 2 (gsCons (gNm 1) (gsCons (gNm 2) gsNil)))
theorem whileL_run {h : MH} {row sz s4 : Option MV} : ∀ (r : List Int) (cy : List Int) (n : Nat), cy ≠ [] → r.length < n → r.length + cy.length ≤ 100 → runWh condL bodyL n [row, some (tI_ r.reverse), some (tI_ cy), sz, s4] h = nxS [row, some (tI_ (pullR r cy).1), some (tI_ (pullR r cy).2), sz, s4] h
  | [], cy, n + 1, _, _, hz => rfl
  | x :: r, cy, n + 1, hc, hn, hz => by
    obtain ⟨ys, z, e1, e2, e3⟩ := last_of hc
    have er : (x :: r).reverse = r.reverse ++ [x] := List.reverse_cons
    have hz' : r.length + 1 + cy.length ≤ 100 := hz
    have v1 : runVar 1 [row, some (tI_ (r.reverse ++ [x])), some (tI_ (ys ++ [z])), sz, s4] h = okE (tI_ (r.reverse ++ [x])) h := rfl
    have v2 : runVar 2 [row, some (tI_ (r.reverse ++ [x])), some (tI_ (ys ++ [z])), sz, s4] h = okE (tI_ (ys ++ [z])) h := rfl
    have ly : ys.length + 1 = cy.length := by rw [e1]; simp
    have c : condL [row, some (tI_ (r.reverse ++ [x])), some (tI_ (ys ++ [z])), sz, s4] h = okE (.bl (decide (x = z))) h := by
      unfold condL runAnd
      rw [run2_run (lenV_run v1) rfl]
      show Tr.be (okE (.bl (decide ((0 : Int) < (((r.reverse ++ [x]).length : Nat) : Int)))) h) _ _ = _
      rw [decide_eq_true (by rw [List.length_append]; simp), be_ok, br_bl, if_pos rfl, run2_run (x := .int x) (y := .int z) (by rw [run2_run v1 neg1_run]; exact ix_last) (by rw [run2_run v2 neg1_run]; exact ix_last)]
      rfl
    show Tr.be (condL [row, some (tI_ (x :: r).reverse), some (tI_ cy), sz, s4] h) _ _ = _
    have pq : pullR (x :: r) cy = (match decide (cy.getLast? = some x) with
      | true => pullR r (x :: cy.dropLast)
      | false => ((x :: r).reverse, cy)) := rfl
    rw [pq, er, e2, e3]
    subst e1
    rw [c, be_ok, br_bl]
    by_cases q : x = z
    · subst q
      rw [decide_eq_true rfl, if_pos rfl, decide_eq_true rfl]
      have b : bodyL [row, some (tI_ (r.reverse ++ [x])), some (tI_ (ys ++ [x])), sz, s4] h = nxS [row, some (tI_ r.reverse), some (tI_ (x :: ys)), sz, s4] h := by
        unfold bodyL runAsg
        rw [args_run (cons_run (sl_butR v1) (cons_run (x := tI_ (x :: ys)) (by
          rw [run2_run (x := tI_ [x]) (by rw [args_run (cons_run (x := .int x) (by rw [run2_run v2 neg1_run]; exact ix_last) nil_run)]; rfl) (sl_butR v2), List.dropLast_concat]
          exact add_tI (xs := [x]) (by simp; omega)) nil_run)), List.dropLast_concat]
        rfl
      rw [b]
      exact whileL_run r (x :: ys) n (by simp) (by simp at hn; omega) (by simp; omega)
    · rw [decide_eq_false q, if_neg (by simp), decide_eq_false (by intro z'; exact q (Option.some.inj z').symm)]
theorem normL_run {h : MH} {hd cy : List Int} (hc : cy ≠ []) (h1 : hd.length ≤ 20) (h2 : cy.length ≤ 20) : runDef 4 r_normal [rowM hd cy] h = okE (rowM (normL hd cy).1 (normL hd cy).2) h := by
  obtain ⟨s1, s2⟩ := short_ne hc
  have cl : cy.length ≠ 0 := fun z => hc (List.eq_nil_of_length_eq_zero z)
  obtain ⟨s, f1, f2, f3, f4⟩ := short_find hc
  have st : r_normal [some (rowM hd cy), none, none, none, none] h = .ret (.rt (rowM (normL hd cy).1 (normL hd cy).2) h) := by
    unfold r_normal
    have a1 : runAsg (runVar 0) (gTp 2 (gsCons (gNm 1) (gsCons (gNm 2) gsNil))) [some (rowM hd cy), none, none, none, none] h = nxS [some (rowM hd cy), some (tI_ hd), some (tI_ cy), none, none] h := rfl
    rw [seq_nx a1]
    have rg : ∀ s ∈ (List.range' 1 cy.length), 1 ≤ s ∧ s ≤ cy.length := fun s hs => by
      rw [List.mem_range'_1] at hs; omega
    have ar : runCons (cI 1) (runCons (run2 (lenV 2) (cI 1) (opAdd false)) runNil) [some (rowM hd cy), some (tI_ hd), some (tI_ cy), none, none] h = .ret (.ok [.int ((1 : Nat) : Int), .int ((cy.length + 1 : Nat) : Int)] h) := by
      refine cons_run rfl (cons_run ?_ nil_run)
      rw [run2_run (lenV_run (xs := cy) rfl) rfl]; rfl
    have it1 : runRng2 (runCons (cI 1) (runCons (run2 (lenV 2) (cI 1) (opAdd false)) runNil)) [some (rowM hd cy), some (tI_ hd), some (tI_ cy), none, none] h = .ret (.ok (((List.range' 1 cy.length).map fun s => ((s : Nat) : Int)).map MV.int) h) := by
      rw [rng2_run ar (by omega) (by omega), show (((cy.length + 1 : Nat) : Int) - ((1 : Nat) : Int)).toNat = cy.length from by omega, rngM_int]
    have l1 : runLc false (runRng2 (runCons (cI 1) (runCons (run2 (lenV 2) (cI 1) (opAdd false)) runNil))) (gNm 4) test1 (runVar 4) [some (rowM hd cy), some (tI_ hd), some (tI_ cy), none, none] h = okE (.lst ((((List.range' 1 cy.length).map fun s => ((s : Nat) : Int)).filter (q1 cy)).map .int)) h := by
      refine lc_int (mk := fun x => [some (rowM hd cy), some (tI_ hd), some (tI_ cy), none, some (.int x)]) it1 (by simp; omega) (fun x => rfl) fun x hx => ?_
      obtain ⟨s, hs, rfl⟩ := List.mem_map.mp hx
      obtain ⟨r1, r2⟩ := rg s hs
      exact ⟨test1_run r1 r2 (by omega), rfl⟩
    rw [seq_nx (asg_nm l1)]
    show runSeq _ _ [some (rowM hd cy), some (tI_ hd), some (tI_ cy), some (.lst ((((List.range' 1 cy.length).map fun s => ((s : Nat) : Int)).filter (q1 cy)).map .int)), none] h = _
    generalize hsz : (((List.range' 1 cy.length).map fun s => ((s : Nat) : Int)).filter (q1 cy)) = szs
    have l2 : runLc false (runSq (runVar 3)) (gNm 4) test2 (runVar 4) [some (rowM hd cy), some (tI_ hd), some (tI_ cy), some (.lst (szs.map .int)), none] h = okE (.lst ((szs.filter (q2 cy)).map .int)) h := by
      refine lc_int (mk := fun x => [some (rowM hd cy), some (tI_ hd), some (tI_ cy), some (.lst (szs.map .int)), some (.int x)]) rfl ?_ (fun x => rfl) fun x hx => ?_
      · rw [← hsz]
        refine Nat.le_trans (List.length_filter_le _ _) ?_
        simp; omega
      · rw [← hsz] at hx
        obtain ⟨s, hs, rfl⟩ := List.mem_map.mp (List.mem_filter.mp hx).1
        exact ⟨test2_run (rg s hs).1, rfl⟩
    obtain ⟨tl, ht⟩ : ∃ r, szs.filter (q2 cy) = ((s : Nat) : Int) :: r := by
      obtain ⟨r, hr⟩ := find_filter (pS cy) _ s f1
      refine ⟨r.map fun s => ((s : Nat) : Int), ?_⟩
      rw [← hsz, List.filter_filter, List.filter_map]
      have e : (List.range' 1 cy.length).filter ((fun x => q2 cy x && q1 cy x) ∘ fun s => ((s : Nat) : Int)) = (List.range' 1 cy.length).filter (pS cy) := by
        refine List.filter_congr fun x hx => ?_
        obtain ⟨r1, r2⟩ := rg x hx
        show (q2 cy x && q1 cy x) = _
        rw [Bool.and_comm, q12 r1 r2]
      rw [e, hr]
      rfl
    have ix : run2 (runLc false (runSq (runVar 3)) (gNm 4) test2 (runVar 4)) (cI 0) opIxA [some (rowM hd cy), some (tI_ hd), some (tI_ cy), some (.lst (szs.map .int)), none] h = okE (.int ((s : Nat) : Int)) h := by
      rw [run2_run l2 rfl, ht]
      rfl
    have a3 : runAsg (runSl false (runVar 2) runNoP (runPt (run2 (runLc false (runSq (runVar 3)) (gNm 4) test2 (runVar 4)) (cI 0) opIxA))) (gNm 2) [some (rowM hd cy), some (tI_ hd), some (tI_ cy), some (.lst (szs.map .int)), none] h = nxS [some (rowM hd cy), some (tI_ hd), some (tI_ (shortL cy)), some (.lst (szs.map .int)), none] h := by
      rw [asg_nm (slR_to (xs := cy) rfl ix), f2]; rfl
    rw [seq_nx a3]
    have W := whileL_run (h := h) (row := some (rowM hd cy)) (sz := some (.lst (szs.map .int))) (s4 := none) hd.reverse (shortL cy) 40 s1 (by simp; omega) (by simp; omega)
    rw [List.reverse_reverse] at W
    rw [seq_nx W]
    rfl
  show endD (r_normal [some (rowM hd cy), none, none, none, none] h) = _
  rw [st]; rfl
end
end WK
set_option Elab.async false
set_option linter.all false
set_option maxRecDepth 100000
set_option maxHeartbeats 0
/-! normal forms: plain laws -/
namespace WK
noncomputable section
open PySem PySem.Spec PyProof.Rows L2
theorem pull_idem : ∀ (r cy : List Int), pullR (pullR r cy).1.reverse (pullR r cy).2 = pullR r cy
  | [], cy => rfl
  | x :: r, cy => by
    have pq : pullR (x :: r) cy = (match decide (cy.getLast? = some x) with
      | true => pullR r (x :: cy.dropLast)
      | false => ((x :: r).reverse, cy)) := rfl
    cases c : decide (cy.getLast? = some x) with
    | true =>
      rw [c] at pq
      rw [pq]
      exact pull_idem r (x :: cy.dropLast)
    | false =>
      rw [c] at pq
      have e : pullR (x :: r) cy = ((x :: r).reverse, cy) := pq
      rw [e]
      show pullR (x :: r).reverse.reverse cy = _
      rw [List.reverse_reverse, e]
def NP (c : List Int) : Prop := ∀ s, 1 ≤ s → s < c.length → pS c s = false
theorem np_short {c : List Int} (h : NP c) : shortL c = c := by
  unfold shortL
  have e : (List.range' 1 (c.length - 1)).find? (pS c) = none := by
    rw [List.find?_eq_none]
    intro s hs
    rw [List.mem_range'_1] at hs
    rw [h s (by omega) (by omega)]
    simp
  rw [show (List.find? _ _) = none from e]
theorem find_first (p : Nat → Bool) : ∀ (k lo s : Nat), (List.range' lo k).find? p = some s → lo ≤ s ∧ s < lo + k ∧ p s = true ∧ ∀ t, lo ≤ t → t < s → p t = false
  | 0, lo, s, e => by cases e
  | k + 1, lo, s, e => by
    rw [List.range'_succ, List.find?_cons] at e
    cases c : p lo with
    | true =>
      rw [c] at e; cases e
      exact ⟨Nat.le_refl _, by omega, c, fun t h1 h2 => by omega⟩
    | false =>
      rw [c] at e
      obtain ⟨h1, h2, h3, h4⟩ := find_first p k (lo + 1) s e
      refine ⟨by omega, by omega, h3, fun t t1 t2 => ?_⟩
      by_cases z : t = lo
      · rw [z]; exact c
      · exact h4 t (by omega) t2
theorem rep_mul (u : List Int) (b : Nat) : ∀ a, (List.replicate (a * b) u).flatten = (List.replicate a ((List.replicate b u).flatten)).flatten
  | 0 => by simp
  | a + 1 => by
    rw [Nat.succ_mul, Nat.add_comm, ← List.replicate_append_replicate, List.flatten_append, rep_mul u b a, List.replicate_succ, List.flatten_cons]
theorem pS_iff {c : List Int} {s : Nat} : pS c s = true ↔ c.length % s = 0 ∧ (List.replicate (c.length / s) (c.take s)).flatten = c := by
  unfold pS
  rw [Bool.and_eq_true, beq_iff_eq, beq_iff_eq]
theorem short_np {cy : List Int} (h : cy ≠ []) : NP (shortL cy) := by
  obtain ⟨s, e, f, _, _⟩ := short_find h
  obtain ⟨h1, h2, h3, h4⟩ := find_first _ _ _ _ e
  rw [← f]
  intro t t1 t2
  cases c : pS (cy.take s) t with
  | false => rfl
  | true =>
    have ls : (cy.take s).length = s := by rw [List.length_take]; omega
    rw [ls] at t2
    obtain ⟨a1, a2⟩ := pS_iff.mp h3
    obtain ⟨b1, b2⟩ := pS_iff.mp c
    rw [ls] at b1 b2
    have tk : (cy.take s).take t = cy.take t := by rw [List.take_take, Nat.min_eq_left (by omega)]
    rw [tk] at b2
    have q := h4 t t1 t2
    have z : pS cy t = true := by
      obtain ⟨u, hu⟩ := Nat.dvd_of_mod_eq_zero b1
      obtain ⟨v, hv⟩ := Nat.dvd_of_mod_eq_zero a1
      refine pS_iff.mpr ⟨Nat.mod_eq_zero_of_dvd ⟨u * v, by rw [hv, hu, Nat.mul_assoc]⟩, ?_⟩
      have su : s / t = u := by rw [hu, Nat.mul_div_cancel_left _ (by omega)]
      have nv : cy.length / s = v := by rw [hv, Nat.mul_div_cancel_left _ (by omega)]
      have nt : cy.length / t = v * u := by rw [hv, hu, Nat.mul_assoc, Nat.mul_div_cancel_left _ (by omega), Nat.mul_comm]
      rw [su] at b2
      rw [nv] at a2
      rw [nt, rep_mul, b2, a2]
    rw [q] at z; cases z
theorem rot_flat (x : Int) (w : List Int) : ∀ k, (List.replicate k (x :: w)).flatten ++ [x] = x :: (List.replicate k (w ++ [x])).flatten
  | 0 => rfl
  | k + 1 => by
    rw [List.replicate_succ, List.flatten_cons, List.append_assoc, rot_flat x w k, List.replicate_succ, List.flatten_cons]
    simp
theorem np_rot {ys : List Int} {x : Int} (h : NP (ys ++ [x])) : NP (x :: ys) := by
  intro s s1 s2
  cases c : pS (x :: ys) s with
  | false => rfl
  | true =>
    obtain ⟨a1, a2⟩ := pS_iff.mp c
    have ln : (ys ++ [x]).length = (x :: ys).length := by simp
    obtain ⟨s', rfl⟩ : ∃ s', s = s' + 1 := ⟨s - 1, by omega⟩
    have tk : (x :: ys).take (s' + 1) = x :: ys.take s' := List.take_succ_cons
    rw [tk] at a2
    have wl : (ys.take s').length = s' := by rw [List.length_take]; simp at s2; omega
    have k1 : 1 ≤ (x :: ys).length / (s' + 1) := by rw [Nat.le_div_iff_mul_le (by omega)]; omega
    have e := rot_flat x (ys.take s') ((x :: ys).length / (s' + 1))
    rw [a2] at e
    have e2 : ys ++ [x] = (List.replicate ((x :: ys).length / (s' + 1)) (ys.take s' ++ [x])).flatten := by
      have : x :: (ys ++ [x]) = x :: (List.replicate ((x :: ys).length / (s' + 1)) (ys.take s' ++ [x])).flatten := e
      exact List.tail_eq_of_cons_eq this
    have t3 : (ys ++ [x]).take (s' + 1) = ys.take s' ++ [x] := by
      obtain ⟨k, hk⟩ : ∃ k, (x :: ys).length / (s' + 1) = k + 1 := ⟨(x :: ys).length / (s' + 1) - 1, by omega⟩
      rw [e2, hk, List.replicate_succ, List.flatten_cons]
      rw [List.take_append_of_le_length (by rw [List.length_append, wl]; simp)]
      rw [List.take_of_length_le (by rw [List.length_append, wl]; simp)]
    have z : pS (ys ++ [x]) (s' + 1) = true := pS_iff.mpr ⟨by rw [ln]; exact a1, by rw [t3, ln]; exact e2.symm⟩
    rw [h (s' + 1) s1 (by rw [ln]; exact s2)] at z
    cases z
theorem pull_np : ∀ (r cy : List Int), NP cy → NP (pullR r cy).2
  | [], cy, h => h
  | x :: r, cy, h => by
    have pq : pullR (x :: r) cy = (match decide (cy.getLast? = some x) with
      | true => pullR r (x :: cy.dropLast)
      | false => ((x :: r).reverse, cy)) := rfl
    rw [pq]
    cases c : decide (cy.getLast? = some x) with
    | false => exact h
    | true =>
      refine pull_np r _ ?_
      have c := of_decide_eq_true c
      have hc : cy ≠ [] := fun z => by rw [z] at c; cases c
      obtain ⟨ys, z, e1, e2, e3⟩ := last_of hc
      rw [e2] at c
      cases c
      rw [e3]
      exact np_rot (by rw [← e1]; exact h)
theorem norm_idem {hd cy : List Int} (h : cy ≠ []) : normL (normL hd cy).1 (normL hd cy).2 = normL hd cy := by
  unfold normL
  rw [np_short (pull_np _ _ (short_np h))]
  exact pull_idem _ _
theorem short_sub {cy : List Int} : ∀ x ∈ shortL cy, x ∈ cy := by
  intro x hx
  unfold shortL at hx
  split at hx
  · exact List.mem_of_mem_take hx
  · exact hx
theorem pull_sub : ∀ (r cy : List Int), ∀ x ∈ (pullR r cy).1 ++ (pullR r cy).2, x ∈ r ++ cy
  | [], cy, x, hx => hx
  | y :: r, cy, x, hx => by
    have pq : pullR (y :: r) cy = (match decide (cy.getLast? = some y) with
      | true => pullR r (y :: cy.dropLast)
      | false => ((y :: r).reverse, cy)) := rfl
    rw [pq] at hx
    cases c : decide (cy.getLast? = some y) with
    | false =>
      rw [c] at hx
      have hx : x ∈ (y :: r).reverse ++ cy := hx
      rw [List.mem_append, List.mem_reverse] at hx
      exact List.mem_append.mpr hx
    | true =>
      rw [c] at hx
      have z := pull_sub r (y :: cy.dropLast) x hx
      rcases List.mem_append.mp z with z | z
      · exact List.mem_append_left _ (List.mem_cons_of_mem _ z)
      · rcases List.mem_cons.mp z with z | z
        · rw [z]; exact List.mem_append_left _ List.mem_cons_self
        · exact List.mem_append_right _ (List.dropLast_subset _ z)
theorem norm_ok {hd cy : List Int} (hc : cy ≠ []) (h1 : hd.length ≤ 8) (h2 : cy.length ≤ 8) (he : ∀ x ∈ hd ++ cy, x = 0 ∨ x = 1) : RowOk (normL hd cy).1 (normL hd cy).2 := by
  obtain ⟨s1, s2⟩ := short_ne hc
  obtain ⟨a, b, c⟩ := pull_len hd.reverse (shortL cy) s1
  rw [List.length_reverse] at b
  refine ⟨norm_idem hc, c, Nat.le_trans b h1, by show (pullR hd.reverse (shortL cy)).2.length ≤ 8; rw [a]; omega, fun x hx => he x ?_⟩
  have z := pull_sub hd.reverse (shortL cy) x hx
  rcases List.mem_append.mp z with z | z
  · exact List.mem_append_left _ (List.mem_reverse.mp z)
  · exact List.mem_append_right _ (short_sub x z)
theorem drop_ok {hd cy : List Int} (o : RowOk hd cy) (n : Int) : RowOk (dropL hd cy n).1 (dropL hd cy n).2 := by
  unfold dropL
  have h8 := o.h8
  have c8 := o.c8
  split
  · refine norm_ok o.ne (by rw [List.length_drop]; omega) o.c8 fun x hx => o.ent x ?_
    rcases List.mem_append.mp hx with z | z
    · exact List.mem_append_left _ (List.mem_of_mem_drop z)
    · exact List.mem_append_right _ z
  · refine norm_ok (fun z => ?_) (by simp) (by rw [List.length_append, List.length_drop, List.length_take]; omega) fun x hx => o.ent x ?_
    · have := congrArg List.length z
      rw [List.length_append, List.length_drop, List.length_take, List.length_nil] at this
      exact o.ne (List.eq_nil_of_length_eq_zero (by omega))
    · have hx : x ∈ cy.drop _ ++ cy.take _ := hx
      refine List.mem_append_right _ ?_
      rcases List.mem_append.mp hx with z | z
      · exact List.mem_of_mem_drop z
      · exact List.mem_of_mem_take z
theorem drop_zero {hd cy : List Int} (o : RowOk hd cy) : dropL hd cy 0 = (hd, cy) := by
  unfold dropL
  split
  · exact o.nf
  · rename_i c
    have c := of_decide_eq_false c
    have e : hd = [] := List.eq_nil_of_length_eq_zero (by omega)
    subst e
    have : ((0 : Int) - (([] : List Int).length : Int)) % (cy.length : Int) = 0 := by simp
    rw [this]
    show normL [] (cy.drop 0 ++ cy.take 0) = _
    simp
    exact o.nf
end
end WK
set_option Elab.async false
set_option linter.all false
set_option maxRecDepth 100000
set_option maxHeartbeats 0
/-! promises: rows and numbers hidden -/
namespace WK
noncomputable section
open PySem PySem.Spec PyProof.Rows L2
theorem rowOf_eq {x : MV} {p : List Int × List Int} (e : rowOf x = some p) : x = rowM p.1 p.2 := by
  unfold rowOf at e
  split at e
  · split at e
    · rename_i e1 e2
      cases e
      rw [intsR_eq e1, intsR_eq e2]
    · cases e
  · cases e
theorem okR_eq {p : List Int × List Int} (e : okR p = true) : p.2 ≠ [] ∧ p.1.length ≤ 8 ∧ p.2.length ≤ 8 := by
  unfold okR at e
  obtain ⟨e1, e⟩ := Bool.and_eq_true_iff.mp e
  obtain ⟨e2, e3⟩ := Bool.and_eq_true_iff.mp e
  refine ⟨fun z => ?_, Nat.le_of_ble_eq_true e2, Nat.le_of_ble_eq_true e3⟩
  rw [z] at e1; cases e1
section
variable {T : Tb} {P : Program} {w : World} {K : PySem.W.Frag} {mg : Str → Option Value} {base : Heap} {k : Nat} {f : Addr} {fd : FuncData} {ps : List Str}
theorem run_imp {n : Nat} {run run' : List MV → MH → Tr ER} (F : FnOk P w K mg base (L2.CX P w) k f fd ps (spF T K n run)) (h : ∀ xs h (Q : ER → Prop), (run' xs h).wp Q → (run xs h).wp Q) : FnOk P w K mg base (L2.CX P w) k f fd ps (spF T K n run') :=
  F.imp fun vs H Q E ⟨hl, ρ, xs, h', s, d, w⟩ => ⟨hl, ρ, xs, h', s, d, h xs h' _ w⟩
theorem short_inv (xs : List MV) (h : MH) (Q : ER → Prop) (w : (runShort xs h).wp Q) : ∃ cy : List Int, xs = [tI_ cy] ∧ 1 ≤ cy.length ∧ cy.length ≤ 100 ∧ (okE (tI_ (shortL cy)) h).wp Q := by
  unfold runShort at w
  split at w
  · rename_i cs
    cases e : intsR cs with
    | none => rw [e] at w; exact w.elim
    | some cy =>
      rw [e] at w
      have w : (ifT (Nat.ble 1 cy.length && Nat.ble cy.length 100) (okE (tI_ (shortL cy)) h)).wp Q := w
      obtain ⟨c, w⟩ := ifT_wp w
      obtain ⟨c1, c2⟩ := Bool.and_eq_true_iff.mp c
      exact ⟨cy, by rw [intsR_eq e], Nat.le_of_ble_eq_true c1, Nat.le_of_ble_eq_true c2, w⟩
  · exact w.elim
theorem short_wp {run : List MV → MH → Tr ER} (hr : ∀ {h : MH} {cy : List Int}, 1 ≤ cy.length → cy.length ≤ 100 → run [tI_ cy] h = okE (tI_ (shortL cy)) h) (xs : List MV) (h : MH) (Q : ER → Prop) (w : (runShort xs h).wp Q) : (run xs h).wp Q := by
  obtain ⟨cy, rfl, h1, h2, w⟩ := short_inv xs h Q w
  rw [hr h1 h2]
  exact w
theorem short_okC (F : FnOk P w K mg base (L2.CX P w) k f fd ps (spF T K 1 (runDef 1 r_shortest))) : FnOk P w K mg base (L2.CX P w) k f fd ps (spF T K 1 runShort) := run_imp F (short_wp short_run)
theorem normC_wp {run : List MV → MH → Tr ER} (hr : ∀ {h : MH} {hd cy : List Int}, cy ≠ [] → hd.length ≤ 8 → cy.length ≤ 8 → run [rowM hd cy] h = okE (rowM (normL hd cy).1 (normL hd cy).2) h) (xs : List MV) (h : MH) (Q : ER → Prop) (w : (runNormC xs h).wp Q) : (run xs h).wp Q := by
  unfold runNormC at w
  split at w
  · split at w
    · rename_i e
      obtain ⟨c, w⟩ := ifT_wp w
      obtain ⟨c1, c2, c3⟩ := okR_eq c
      rw [rowOf_eq e, hr c1 c2 c3]
      exact w
    · exact w.elim
  · exact w.elim
theorem norm_okC (F : FnOk P w K mg base (L2.CX P w) k f fd ps (spF T K 1 (runDef 2 r_normal_row))) : FnOk P w K mg base (L2.CX P w) k f fd ps (spF T K 1 runNormC) := run_imp F (normC_wp fun h1 h2 h3 => norm_run h1 (by omega))
theorem normal_okC (F : FnOk P w K mg base (L2.CX P w) k f fd ps (spF T K 1 (runDef 4 r_normal))) : FnOk P w K mg base (L2.CX P w) k f fd ps (spF T K 1 runNormC) := run_imp F (normC_wp fun h1 h2 h3 => normL_run h1 (by omega) (by omega))
theorem norm_okA (F : FnOk P w K mg base (L2.CX P w) k f fd ps (spF T K 1 runNormC)) : FnOk P w K mg base (L2.CX P w) k f fd ps (spF T K 1 runNormA) := F.imp fun vs H Q E ⟨hl, ρ, xs, h, s, d, w⟩ => by
  unfold runNormA at w
  split at w
  · rename_i t
    cases d with
    | cons d1 d2 =>
      cases d2
      cases d1 with
      | row ev ok dr =>
        refine ⟨hl, ρ, [rowM _ _], h, s, .cons dr .nil, ?_⟩
        rw [normC_run ok.ne ok.h8 ok.c8, ok.nf]
        intro ρ' H' v l s' dv
        obtain ⟨a, vs, rfl, _⟩ := den_tup dv
        exact w ρ' H' _ l s' (.row (evalR_mono l.exv ev) ok dv)
  · exact w.elim
theorem drop_okA (F : FnOk P w K mg base (L2.CX P w) k f fd ps (spF T K 2 (runDef 3 r_drop))) : FnOk P w K mg base (L2.CX P w) k f fd ps (spF T K 2 runDropA) := F.imp fun vs H Q E ⟨hl, ρ, xs, h, s, d, w⟩ => by
  unfold runDropA at w
  split at w
  · rename_i t kk
    cases d with
    | cons d1 d2 =>
      cases d2 with
      | cons d2 d3 =>
        cases d3
        cases d1 with
        | row ev ok dr =>
          cases d2 with
          | num e n0 n1 =>
            rename_i n
            obtain ⟨j, rfl⟩ := Int.eq_ofNat_of_zero_le n0
            refine ⟨hl, ρ, [rowM _ _, .int j], h, s, .cons dr (.cons (.int j) .nil), ?_⟩
            rw [drop_run ok.ne ok.h8 ok.c8]
            intro ρ' H' v l s' dv
            obtain ⟨a, vs, rfl, _⟩ := den_tup dv
            refine w ρ' H' _ l s' (.row ?_ (drop_ok ok j) dv)
            unfold evalR
            rw [evalR_mono l.exv ev, l.exv _ _ e]
  · rename_i t n
    obtain ⟨c, w⟩ := ifT_wp w
    have c := of_decide_eq_true c
    subst c
    cases d with
    | cons d1 d2 =>
      cases d2 with
      | cons d2 d3 =>
        cases d3
        cases d1 with
        | row ev ok dr =>
          cases d2
          refine ⟨hl, ρ, [rowM _ _, .int ((0 : Nat) : Int)], h, s, .cons dr (.cons (.int 0) .nil), ?_⟩
          rw [drop_run ok.ne ok.h8 ok.c8]
          rw [show ((0 : Nat) : Int) = 0 from rfl, drop_zero ok]
          intro ρ' H' v l s' dv
          obtain ⟨a, vs, rfl, _⟩ := den_tup dv
          exact w ρ' H' _ l s' (.row (evalR_mono l.exv ev) ok dv)
  · exact w.elim
theorem isG_eq {fs : List (Nat × MV)} (e : isG fs = true) : fs = [(9, .int 1), (10, .tup [.tup [.int 0, .int 0], .tup [.int 0, .int 0]])] := by
  unfold isG at e
  split at e
  · rfl
  · cases e
theorem check_okA (F : FnOk P w K mg base (L2.CX P w) k f fd ps (spF T K 2 (runDef 3 r_check_row))) : FnOk P w K mg base (L2.CX P w) k f fd ps (spF T K 2 runCheckA) := F.imp fun vs H Q E ⟨hl, ρ, xs, h, s, d, w⟩ => by
  unfold runCheckA at w
  split at w
  · rename_i fs t
    obtain ⟨c, w⟩ := ifT_wp w
    rw [isG_eq c] at d
    cases d with
    | cons d1 d2 =>
      cases d2 with
      | cons d2 d3 =>
        cases d3
        cases d2 with
        | row ev ok dr =>
          refine ⟨hl, ρ, [G2, rowM _ _], h, s, .cons d1 (.cons dr .nil), ?_⟩
          have := ok.h8
          have := ok.c8
          rw [check_run ok.ne (by omega) (by omega) ok.ent]
          exact w
  · exact w.elim
/-! ### is_count -/
theorem numL_head : ∀ (n : Nat), 1 ≤ n → ∃ c r, TL.numL n = c :: r ∧ c ≠ 48
  | n, hn => by
    by_cases h : n < 10
    · exact ⟨48 + n, [], TL.numL_lt h, by omega⟩
    · obtain ⟨c, r, e, hc⟩ := numL_head (n / 10) (by omega)
      exact ⟨c, r ++ [48 + n % 10], by rw [TL.numL_step (by omega), e]; rfl, hc⟩
  termination_by n => n
abbrev eltC : RunE := run2 (runVar 1) (cS "0123456789") (cOp cInA)
theorem dig_in {c : Nat} (h0 : 48 ≤ c) (h1 : c ≤ 57) : decide (c ∈ ("0123456789" : Str).cps.toList) = true := by
  have key : ∀ j : Fin 10, decide ((48 + j.val) ∈ ("0123456789" : Str).cps.toList) = true := by decide +kernel
  have := key ⟨c - 48, by omega⟩
  rw [show 48 + (c - 48) = c from by omega] at this
  exact this
theorem signs_loop {h : MH} {x : MV} : ∀ (l : List Nat) (acc : List MV), (∀ c ∈ l, 48 ≤ c ∧ c ≤ 57) → loopC (gNm 1) yesR eltC (l.map fun c => .str ⟨#[c]⟩) [some x, none] h acc = .ret (.ok (acc.reverse ++ l.map fun _ => .bl true) h)
  | [], acc, _ => by
    show Tr.ret (EL.ok acc.reverse h) = _
    simp
  | c :: l, acc, hl => by
    obtain ⟨h0, h1⟩ := hl c List.mem_cons_self
    have e : eltC [some x, some (.str ⟨#[c]⟩)] h = okE (.bl true) h := by
      show bO (cInA (.str ⟨#[c]⟩) (.str "0123456789") h) h = _
      show bO (some (decide (c ∈ ("0123456789" : Str).cps.toList))) h = _
      rw [dig_in h0 h1]; rfl
    show Tr.be (eltC [some x, some (.str ⟨#[c]⟩)] h) (fun y h3 => loopC (gNm 1) yesR eltC (l.map fun c => .str ⟨#[c]⟩) [some x, none] h3 (y :: acc)) (fun _ _ => .bad) = _
    rw [e, be_ok, signs_loop l _ fun d hd => hl d (List.mem_cons_of_mem _ hd)]
    simp
theorem bls_true : ∀ l : List Nat, blsM (l.map fun _ => MV.bl true) = some (l.map fun _ => true)
  | [] => rfl
  | c :: l => by
    show (match blsM (l.map fun _ => MV.bl true) with
      | some bs => some (true :: bs)
      | none => none) = _
    rw [bls_true l]; rfl
theorem all_true : ∀ l : List Nat, allB2 (l.map fun _ => true) = true
  | [] => rfl
  | _ :: l => all_true l
theorem tl_S (l : List Nat) : TL.tl (SX.S l) = l := rfl
theorem count_run {h : MH} {n : Nat} (hn : n < 1000000000) : runDef 1 r_is_count [.str (SX.S (TL.numL n))] h = okE (.bl true) h := by
  have l1 : TL.numL n ≠ [] := TL.numL_ne n
  have l2 : (TL.numL n).length ≤ 9 := TL.numL_len (by decide) (by omega)
  have l0 : 1 ≤ (TL.numL n).length := List.length_pos_iff.mpr l1
  have dg : ∀ c ∈ TL.numL n, 48 ≤ c ∧ c ≤ 57 := TL.numL_digits n
  have v0 : runVar 0 [some (.str (SX.S (TL.numL n))), none] h = okE (.str (SX.S (TL.numL n))) h := rfl
  have ln : runArgs (runCons (runVar 0) runNil) kLen [some (.str (SX.S (TL.numL n))), none] h = okE (.int ((TL.numL n).length : Nat)) h := by
    rw [args_run (cons_run v0 nil_run)]
    show ifT (leB (SX.S (TL.numL n)).length sizeLine) (okE (.int ((SX.S (TL.numL n)).length : Nat)) h) = _
    rw [SX.S_len, big (by omega)]; rfl
  have ch : runChain (cI 1) (runArgs (runCons (runVar 0) runNil) kLen) (cI 9) (cInt cLeP) (cInt cLeP) [some (.str (SX.S (TL.numL n))), none] h = okE (.bl true) h := by
    unfold runChain
    show Tr.be (okE (.int 1) h) _ _ = _
    rw [be_ok, ln, be_ok]
    show (match (some (decide ((1 : Int) ≤ ((TL.numL n).length : Nat))) : Option Bool) with
      | some true => Tr.be (okE (.int 9) h) (fun z h3 => cOp (cInt cLeP) (.int ((TL.numL n).length : Nat)) z h3) exE
      | some false => okE (.bl false) h
      | none => .bad) = _
    rw [decide_eq_true (by omega)]
    show bO (some (decide (((TL.numL n).length : Int) ≤ 9))) h = _
    rw [decide_eq_true (by omega)]; rfl
  have lc : runLc false (runSgn (runVar 0)) (gNm 1) yesR eltC [some (.str (SX.S (TL.numL n))), none] h = okE (.lst ((TL.numL n).map fun _ => .bl true)) h := by
    unfold runLc runSgn
    rw [v0, be_ok]
    show Tr.bl (.ret (.ok (signsM (SX.S (TL.numL n))) h)) _ _ = _
    rw [bl_ok]
    unfold signsM
    rw [tl_S, List.length_map, big (by omega)]
    show Tr.bl (loopC (gNm 1) yesR eltC ((TL.numL n).map fun c => .str ⟨#[c]⟩) [some (.str (SX.S (TL.numL n))), none] h []) (newL false) (fun _ _ => .bad) = _
    rw [signs_loop _ _ dg]
    rfl
  have al : runArgs (runCons (runLc false (runSgn (runVar 0)) (gNm 1) yesR eltC) runNil) (kBools allB2) [some (.str (SX.S (TL.numL n))), none] h = okE (.bl true) h := by
    rw [args_run (cons_run lc nil_run)]
    show (match blsM ((TL.numL n).map fun _ => MV.bl true) with
      | some bs => okE (.bl (allB2 bs)) h
      | none => .bad) = _
    rw [bls_true]
    dsimp only
    rw [all_true]
  have c : runOr (runNot (runChain (cI 1) (runArgs (runCons (runVar 0) runNil) kLen) (cI 9) (cInt cLeP) (cInt cLeP))) (runNot (runArgs (runCons (runLc false (runSgn (runVar 0)) (gNm 1) yesR eltC) runNil) (kBools allB2))) [some (.str (SX.S (TL.numL n))), none] h = okE (.bl false) h := by
    unfold runOr runNot
    rw [ch, be_ok]
    show Tr.be (okE (.bl false) h) _ _ = _
    rw [be_ok, br_bl, if_neg (by simp), al, be_ok]
    rfl
  have st : r_is_count [some (.str (SX.S (TL.numL n))), none] h = .ret (.rt (.bl true) h) := by
    unfold r_is_count
    have s1 : runIf (runOr (runNot (runChain (cI 1) (runArgs (runCons (runVar 0) runNil) kLen) (cI 9) (cInt cLeP) (cInt cLeP))) (runNot (runArgs (runCons (runLc false (runSgn (runVar 0)) (gNm 1) yesR eltC) runNil) (kBools allB2)))) (runRet (cB false)) nxS [some (.str (SX.S (TL.numL n))), none] h = nxS [some (.str (SX.S (TL.numL n))), none] h := by
      rw [if_run c, if_neg (by simp)]
    rw [seq_nx s1]
    refine ret_run ?_
    unfold runOr
    rw [run2_run v0 rfl]
    show Tr.be (okE (.bl (decide (SX.S (TL.numL n) = ("0" : Str)))) h) _ _ = _
    rw [be_ok, br_bl]
    by_cases z : n = 0
    · subst z
      rw [decide_eq_true (by decide +kernel), if_pos rfl]
    · obtain ⟨c, r, e, hc⟩ := numL_head n (by omega)
      rw [e]
      have ne : ¬ SX.S (c :: r) = ("0" : Str) := fun q => by
        have q2 := congrArg TL.tl q
        have q3 : c :: r = TL.tl ("0" : Str) := q2
        rw [show TL.tl ("0" : Str) = [48] from by decide +kernel] at q3
        cases q3
        exact hc rfl
      rw [decide_eq_false ne, if_neg (by simp)]
      have lz : leB (SX.S (c :: r)).length sizeLine = true := by rw [SX.S_len, ← e]; exact big (by omega)
      have ix : run2 (runVar 0) (cI 0) opIxA [some (.str (SX.S (c :: r))), none] h = okE (.str ⟨#[c]⟩) h := by
        show ifT (leB (SX.S (c :: r)).length sizeLine) _ = _
        rw [lz]
        have at0 : atI (SX.S (c :: r)).cps.toList 0 = some c := by
          unfold atI ixN
          show ((if (0 : Int) ≤ 0 then (if (0 : Int) < ((c :: r).length : Nat) then some (0 : Int).toNat else none) else _).bind fun j => (c :: r)[j]?) = _
          rw [if_pos (by decide), if_pos (by simp)]
          rfl
        show (match atI (SX.S (c :: r)).cps.toList 0 with
          | some c => okE (.str ⟨#[c]⟩) h
          | none => .bad) = _
        rw [at0]
      rw [run2_run ix rfl]
      show bO (some (!decide ((⟨#[c]⟩ : Str) = ("0" : Str)))) h = _
      rw [decide_eq_false fun q => ?_]
      · rfl
      · have q2 := congrArg TL.tl q
        have q3 : [c] = TL.tl ("0" : Str) := q2
        rw [show TL.tl ("0" : Str) = [48] from by decide +kernel] at q3
        cases q3
        exact hc rfl
  show endD (r_is_count [some (.str (SX.S (TL.numL n))), none] h) = _
  rw [st]; rfl
theorem count_okA (F : FnOk P w K mg base (L2.CX P w) k f fd ps (spF T K 1 (runDef 1 r_is_count))) : FnOk P w K mg base (L2.CX P w) k f fd ps (spF T K 1 runCountA) := F.imp fun vs H Q E ⟨hl, ρ, xs, h, s, d, w⟩ => by
  unfold runCountA at w
  split at w
  · obtain ⟨c, w⟩ := ifT_wp w
    have c := len0 (Nat.eq_of_beq_eq_true c)
    subst c
    cases d with
    | cons d1 d2 =>
      cases d2
      cases d1 with
      | nst e n0 n1 =>
        rw [em_app] at hl ⊢
        obtain ⟨j, rfl, ed, _, _⟩ := digs n0 n1
        refine ⟨hl, ρ, [.str (SX.S (TL.numL j))], h, s, .cons ?_ .nil, ?_⟩
        · rw [ed]; exact .str _
        · rw [count_run (by omega)]
          exact w
  · exact ⟨hl, ρ, xs, h, s, d, w⟩
end
end
end WK
set_option Elab.async false
set_option linter.all false
set_option maxRecDepth 100000
set_option maxHeartbeats 0
namespace WK
noncomputable section
open PySem PySem.Spec PyProof.Rows L2

abbrev N_law : List Str := ["_law_script", "_law_bag_here", "_law_shop", "_law_size", "_law_head", "_law_row", "_law_console", "_law_turn", "_law_figures", "_law_number", "_law_cut", "_law_spot", "_law_bad", "_law_found", "_law_k"]
theorem sc_law : FnScope N_law ["_law_script"] (defScope (top 89)) := ⟨rfl, rfl, rfl, by decide +kernel, rfl, by decide +kernel, by decide +kernel⟩
def l_1 : RunS := (runPar 2 3 (runCons (fun _ h => runNewM 4 (runDef 0 r_Workshop_init) [] h) (runCons (run2 (cI 1) (runArgs (runCons (runVar 1) (runCons (cI 7) runNil)) (runF false [] runPullA)) (opAdd false)) runNil)))
def l_2 : RunS := (runAsg (runArgs (runCons (runLc false (runRng1 (runCons (runArgs (runCons (runVar 1) (runCons (cI 4) runNil)) (runF false [] runPullA)) runNil)) (gNm 14) yesR (runArgs (runCons (runVar 1) (runCons (cI 2) runNil)) (runF false [] runPullA))) runNil) kTuple) (gNm 4))
def l_3 : RunS := (runAsg (runArgs (runCons (runArgs (runCons (runVar 4) (runCons (runArgs (runCons (runLc false (runRng1 (runCons (runVar 3) runNil)) (gNm 14) yesR (runArgs (runCons (runVar 1) (runCons (cI 2) runNil)) (runF false [] runPullA))) runNil) kTuple) runNil)) kTup) runNil) (runF false [] runNormC)) (gNm 5))
def l_4 : RunS := (runDrop (runMth [(4, (runDef 4 r_Workshop_apply_all))] false 16 (runVar 2) (runCons (runArgs (runCons (runArgs (runCons (cS "graph") (runCons (cS "g") (runCons (cI 1) (runCons (runArgs (runCons (runArgs (runCons (cI 0) (runCons (cI 0) runNil)) kTup) (runCons (runArgs (runCons (cI 0) (runCons (cI 0) runNil)) kTup) runNil)) kTup) runNil)))) kTup) (runCons (runArgs (runCons (cS "row") (runCons (cS "r") (runCons (cS "g") (runCons (runVar 5) runNil)))) kTup) runNil)) (kLst false)) runNil)))
def l_5 : RunS := (runAsg (runArgs (runCons (runVar 2) runNil) (runNewM 3 (runDef 0 r_Console_init))) (gNm 6))
def l_7 : RunS := (runAsg (runArgs (runCons (runVar 1) (runCons (runArgs (runCons (run2 (cS "1") (run2 (cS "0") (cI 9) opMulS) opAddT) (runCons (cS "00") (runCons (cS "01") (runCons (cS "-1") (runCons (cS "+1") (runCons (cS "1.0") (runCons (run2 (cS "9") (cI 10) opMulS) runNil))))))) (kLst false)) runNil)) (runF false [] (runDef 0 r_of))) (gNm 12))
def l_8 : RunS := (runAsg (runArgs (runCons (runMth [(3, (runDef 1 r_Console_run))] false 11 (runVar 6) (runCons (run2 (cS "drop r ") (runVar 12) opAddT) runNil)) (runCons (runMth [(3, (runDef 1 r_Console_run))] false 11 (runVar 6) (runCons (run2 (cS "closed g ") (runVar 12) opAddT) runNil)) (runCons (runMth [(3, (runDef 1 r_Console_run))] false 11 (runVar 6) (runCons (cS "drop r 0") runNil)) runNil))) (kLst false)) (gNm 13))
def l_9 : RunS := (runIf (runOr (run2 (runVar 13) (runArgs (runCons (cS "invalid") (runCons (cS "invalid") (runCons (cS "ok") runNil))) (kLst false)) (cOp cNe)) (run2 (runMth [(4, (runDef 0 r_Workshop_row))] false 21 (runVar 2) (runCons (cS "r") runNil)) (runArgs (runCons (cS "g") (runCons (runVar 5) runNil)) kTup) (cOp cNeR))) (runRet (cB false)) nxS)
def l_10 : RunS := (runAsg (runArgs (runCons (runMth [(3, (runDef 1 r_Console_run))] false 11 (runVar 6) (runCons (cS "closed g 999999999") runNil)) (runCons (runMth [(3, (runDef 1 r_Console_run))] false 11 (runVar 6) (runCons (cS "closed q 0") runNil)) (runCons (runMth [(3, (runDef 1 r_Console_run))] false 11 (runArgs (runCons (fun _ h => runNewM 4 (runDef 0 r_Workshop_init) [] h) runNil) (runNewM 3 (runDef 0 r_Console_init))) (runCons (cS "names") runNil)) runNil))) (kLst false)) (gNm 13))
def l_11 : RunS := (runRet (run2 (runVar 13) (runArgs (runCons (cS "error invalidlength") (runCons (cS "error unknownname") (runCons (cS "none") runNil))) (kLst false)) (cOp cEq)))
def l_6a : RunS := (runAsg (run2 (cI 1) (runArgs (runCons (runVar 1) (runCons (cI 9) runNil)) (runF false [] runPullA)) (opAdd false)) (gNm 8))
def l_6b : RunS := (runAsg (run2 (runArgs (runCons (run2 (cS "9") (runVar 8) opMulS) runNil) kIntT) (runArgs (runCons (runVar 1) (runCons (runArgs (runCons (cI 0) (runCons (runArgs (runCons (runVar 1) (runCons (runArgs (runCons (run2 (cS "9") (runVar 8) opMulS) runNil) kIntT) runNil)) (runF false [] runPullA)) runNil)) (kLst false)) runNil)) (runF false [] (runDef 0 r_of))) opSub) (gNm 9))
def l_6c : RunS := (runIf (run2 (runMth [(3, (runDef 1 r_Console_run))] false 11 (runVar 6) (runCons (run2 (cS "drop r ") (runArgs (runCons (runVar 9) runNil) kStrT) opAddT) runNil)) (cS "ok") (cOp cNe)) (runRet (cB false)) nxS)
def l_6d : RunS := (runAsg (runArgs (runCons (runVar 9) (runCons (runArgs (runCons (run2 (runVar 5) (cI 0) opIxA) runNil) kLen) runNil)) (kI2 minI)) (gNm 10))
def l_6e : RunS := (runAsg (run2 (run2 (runVar 9) (runVar 10) opSub) (runArgs (runCons (run2 (runVar 5) (cI 1) opIxA) runNil) kLen) opMod) (gNm 11))
def l_6f : RunS := (runAsg (runArgs (runCons (runArgs (runCons (runSl false (run2 (runVar 5) (cI 0) opIxA) (runPt (runVar 10)) runNoP) (runCons (run2 (runSl false (run2 (runVar 5) (cI 1) opIxA) (runPt (runVar 11)) runNoP) (runSl false (run2 (runVar 5) (cI 1) opIxA) runNoP (runPt (runVar 11))) (opAdd false)) runNil)) kTup) runNil) (runF false [] runNormC)) (gNm 5))
def l_6g : RunS := (runIf (run2 (runMth [(4, (runDef 0 r_Workshop_row))] false 21 (runVar 2) (runCons (cS "r") runNil)) (runArgs (runCons (cS "g") (runCons (runVar 5) runNil)) kTup) (cOp cNeR)) (runRet (cB false)) nxS)
def l_6it : RunI := (runRng1 (runCons (cI 5) runNil))
abbrev forBody : Stmt → List Stmt
  | .For _ _ b _ _ => b
  | _ => []
theorem ls_1 {P : Program} {w : World} {K : PySem.W.Frag} {mg : Str → Option Value} {base : Heap} {T : Tb} (hP : P = T.P) (hw : w = T.w) (c__law_normal : Cal T P w K mg base "_law_normal" 1 1 runNormC) (c__law_of : Cal T P w K mg base "_law_of" 2 2 (runDef 0 r_of)) (c__law_pull : Cal T P w K mg base "_law_pull" 1 2 runPullA) (hnm : T.nm = nm73) (m_int : mg "int" = none) (m_len : mg "len" = none) (m_min : mg "min" = none) (m_range : mg "range" = none) (m_str : mg "str" = none) (m_tuple : mg "tuple" = none) (mt_apply_all : MthP T P w K mg base 8 2 16 [(4, (runDef 4 r_Workshop_apply_all))]) (mt_row : MthP T P w K mg base 4 2 21 [(4, (runDef 0 r_Workshop_row))]) (mt_run : MthP T P w K mg base 13 2 11 [(3, (runDef 1 r_Console_run))]) (nw_Console : NewP T P w K mg base "Console" 1 3 2 (runDef 0 r_Console_init)) (nw_Workshop : NewP T P w K mg base "Workshop" 1 4 1 (runDef 0 r_Workshop_init)) {f : Addr} {cdv : Value} {A : Around} {outer : List Env} {s : Shared} {H : Hp} {EK : XK} {E : XW} (hr : Room 13 (A.deeper (envOfC "law" (defScope (top 89)) s.heap.objs.size f cdv)))
    (tk : Takes (cxOf (L2.CX P w) P w K mg base N_law "law" (defScope (top 89)) f cdv A outer s H EK) (wx T K E)) : SS T (cxOf (L2.CX P w) P w K mg base N_law "law" (defScope (top 89)) f cdv A outer s H EK) E ((defBody (top 89)).getD 1 (.Pass ⟨0, 0, 0, 0⟩)) l_1 :=
  (s_par rfl sc_law.nd rfl rfl (by decide) rfl rfl (a_cons (s_newP0 tk (hr.mono (by decide)) nw_Workshop rfl rfl) (a_cons (s_bin op_addA (opAdd_ok false) ci (s_cal c__law_pull tk (hr.mono (by decide)) rfl (a_cons (s_var rfl (vis_by rfl) rfl rfl) (a_cons ci a_nil rfl) rfl) rfl rfl)) a_nil rfl) rfl) rfl rfl)
theorem ls_2 {P : Program} {w : World} {K : PySem.W.Frag} {mg : Str → Option Value} {base : Heap} {T : Tb} (hP : P = T.P) (hw : w = T.w) (c__law_normal : Cal T P w K mg base "_law_normal" 1 1 runNormC) (c__law_of : Cal T P w K mg base "_law_of" 2 2 (runDef 0 r_of)) (c__law_pull : Cal T P w K mg base "_law_pull" 1 2 runPullA) (hnm : T.nm = nm73) (m_int : mg "int" = none) (m_len : mg "len" = none) (m_min : mg "min" = none) (m_range : mg "range" = none) (m_str : mg "str" = none) (m_tuple : mg "tuple" = none) (mt_apply_all : MthP T P w K mg base 8 2 16 [(4, (runDef 4 r_Workshop_apply_all))]) (mt_row : MthP T P w K mg base 4 2 21 [(4, (runDef 0 r_Workshop_row))]) (mt_run : MthP T P w K mg base 13 2 11 [(3, (runDef 1 r_Console_run))]) (nw_Console : NewP T P w K mg base "Console" 1 3 2 (runDef 0 r_Console_init)) (nw_Workshop : NewP T P w K mg base "Workshop" 1 4 1 (runDef 0 r_Workshop_init)) {f : Addr} {cdv : Value} {A : Around} {outer : List Env} {s : Shared} {H : Hp} {EK : XK} {E : XW} (hr : Room 13 (A.deeper (envOfC "law" (defScope (top 89)) s.heap.objs.size f cdv)))
    (tk : Takes (cxOf (L2.CX P w) P w K mg base N_law "law" (defScope (top 89)) f cdv A outer s H EK) (wx T K E)) : SS T (cxOf (L2.CX P w) P w K mg base N_law "law" (defScope (top 89)) f cdv A outer s H EK) E ((defBody (top 89)).getD 2 (.Pass ⟨0, 0, 0, 0⟩)) l_2 :=
  (s_asg (s_biT call_tuple_of kTuple_ok rfl m_tuple (by decide +kernel) (a_cons (s_lc rfl sc_law.nd (i_range1 rfl m_range (a_cons (s_cal c__law_pull tk (hr.mono (by decide)) rfl (a_cons (s_var rfl (vis_by rfl) rfl rfl) (a_cons ci a_nil rfl) rfl) rfl rfl) a_nil rfl) rfl) (own := [("_law_k", 14)]) (blkOk_by (N := N_law) (sc := (defScope (top 89))) (by decide +kernel)) (fun _ _ _ _ _ => (pg_name sc_law.nd rfl (loc_by rfl) (.inr rfl))) gc_nm (fun _ _ _ _ _ => pts_nil) ts_yes (fun _ _ _ _ _ => (s_cal c__law_pull takesF (hr.mono (by decide)) rfl (a_cons (s_var rfl (vis_by rfl) rfl rfl) (a_cons ci a_nil rfl) rfl) rfl rfl)) (fun _ => rfl)) a_nil rfl) (by decide) rfl) (g_name sc_law.nd rfl (loc_by rfl) (.inl rfl)) rfl rfl rfl)
theorem ls_3 {P : Program} {w : World} {K : PySem.W.Frag} {mg : Str → Option Value} {base : Heap} {T : Tb} (hP : P = T.P) (hw : w = T.w) (c__law_normal : Cal T P w K mg base "_law_normal" 1 1 runNormC) (c__law_of : Cal T P w K mg base "_law_of" 2 2 (runDef 0 r_of)) (c__law_pull : Cal T P w K mg base "_law_pull" 1 2 runPullA) (hnm : T.nm = nm73) (m_int : mg "int" = none) (m_len : mg "len" = none) (m_min : mg "min" = none) (m_range : mg "range" = none) (m_str : mg "str" = none) (m_tuple : mg "tuple" = none) (mt_apply_all : MthP T P w K mg base 8 2 16 [(4, (runDef 4 r_Workshop_apply_all))]) (mt_row : MthP T P w K mg base 4 2 21 [(4, (runDef 0 r_Workshop_row))]) (mt_run : MthP T P w K mg base 13 2 11 [(3, (runDef 1 r_Console_run))]) (nw_Console : NewP T P w K mg base "Console" 1 3 2 (runDef 0 r_Console_init)) (nw_Workshop : NewP T P w K mg base "Workshop" 1 4 1 (runDef 0 r_Workshop_init)) {f : Addr} {cdv : Value} {A : Around} {outer : List Env} {s : Shared} {H : Hp} {EK : XK} {E : XW} (hr : Room 13 (A.deeper (envOfC "law" (defScope (top 89)) s.heap.objs.size f cdv)))
    (tk : Takes (cxOf (L2.CX P w) P w K mg base N_law "law" (defScope (top 89)) f cdv A outer s H EK) (wx T K E)) : SS T (cxOf (L2.CX P w) P w K mg base N_law "law" (defScope (top 89)) f cdv A outer s H EK) E ((defBody (top 89)).getD 3 (.Pass ⟨0, 0, 0, 0⟩)) l_3 :=
  (s_asg (s_cal c__law_normal tk (hr.mono (by decide)) rfl (a_cons (s_tup (a_cons (s_var rfl (vis_by rfl) rfl rfl) (a_cons (s_biT call_tuple_of kTuple_ok rfl m_tuple (by decide +kernel) (a_cons (s_lc rfl sc_law.nd (i_range1 rfl m_range (a_cons (s_var rfl (vis_by rfl) rfl rfl) a_nil rfl) rfl) (own := [("_law_k", 14)]) (blkOk_by (N := N_law) (sc := (defScope (top 89))) (by decide +kernel)) (fun _ _ _ _ _ => (pg_name sc_law.nd rfl (loc_by rfl) (.inr rfl))) gc_nm (fun _ _ _ _ _ => pts_nil) ts_yes (fun _ _ _ _ _ => (s_cal c__law_pull takesF (hr.mono (by decide)) rfl (a_cons (s_var rfl (vis_by rfl) rfl rfl) (a_cons ci a_nil rfl) rfl) rfl rfl)) (fun _ => rfl)) a_nil rfl) (by decide) rfl) a_nil rfl) rfl) (by decide)) a_nil rfl) rfl rfl) (g_name sc_law.nd rfl (loc_by rfl) (.inl rfl)) rfl rfl rfl)
theorem ls_4 {P : Program} {w : World} {K : PySem.W.Frag} {mg : Str → Option Value} {base : Heap} {T : Tb} (hP : P = T.P) (hw : w = T.w) (c__law_normal : Cal T P w K mg base "_law_normal" 1 1 runNormC) (c__law_of : Cal T P w K mg base "_law_of" 2 2 (runDef 0 r_of)) (c__law_pull : Cal T P w K mg base "_law_pull" 1 2 runPullA) (hnm : T.nm = nm73) (m_int : mg "int" = none) (m_len : mg "len" = none) (m_min : mg "min" = none) (m_range : mg "range" = none) (m_str : mg "str" = none) (m_tuple : mg "tuple" = none) (mt_apply_all : MthP T P w K mg base 8 2 16 [(4, (runDef 4 r_Workshop_apply_all))]) (mt_row : MthP T P w K mg base 4 2 21 [(4, (runDef 0 r_Workshop_row))]) (mt_run : MthP T P w K mg base 13 2 11 [(3, (runDef 1 r_Console_run))]) (nw_Console : NewP T P w K mg base "Console" 1 3 2 (runDef 0 r_Console_init)) (nw_Workshop : NewP T P w K mg base "Workshop" 1 4 1 (runDef 0 r_Workshop_init)) {f : Addr} {cdv : Value} {A : Around} {outer : List Env} {s : Shared} {H : Hp} {EK : XK} {E : XW} (hr : Room 13 (A.deeper (envOfC "law" (defScope (top 89)) s.heap.objs.size f cdv)))
    (tk : Takes (cxOf (L2.CX P w) P w K mg base N_law "law" (defScope (top 89)) f cdv A outer s H EK) (wx T K E)) : SS T (cxOf (L2.CX P w) P w K mg base N_law "law" (defScope (top 89)) f cdv A outer s H EK) E ((defBody (top 89)).getD 4 (.Pass ⟨0, 0, 0, 0⟩)) l_4 :=
  (s_expr (s_mth tk (hr.mono (by decide)) mt_apply_all (nm_at hnm rfl) (s_var rfl (vis_by rfl) rfl rfl) (a_cons (s_lst false (a_cons (s_tup (a_cons cs (a_cons cs (a_cons ci (a_cons (s_tup (a_cons (s_tup (a_cons ci (a_cons ci a_nil rfl) rfl) (by decide)) (a_cons (s_tup (a_cons ci (a_cons ci a_nil rfl) rfl) (by decide)) a_nil rfl) rfl) (by decide)) a_nil rfl) rfl) rfl) rfl) (by decide)) (a_cons (s_tup (a_cons cs (a_cons cs (a_cons cs (a_cons (s_var rfl (vis_by rfl) rfl rfl) a_nil rfl) rfl) rfl) rfl) (by decide)) a_nil rfl) rfl) (by decide)) a_nil rfl) rfl) rfl)
theorem ls_5 {P : Program} {w : World} {K : PySem.W.Frag} {mg : Str → Option Value} {base : Heap} {T : Tb} (hP : P = T.P) (hw : w = T.w) (c__law_normal : Cal T P w K mg base "_law_normal" 1 1 runNormC) (c__law_of : Cal T P w K mg base "_law_of" 2 2 (runDef 0 r_of)) (c__law_pull : Cal T P w K mg base "_law_pull" 1 2 runPullA) (hnm : T.nm = nm73) (m_int : mg "int" = none) (m_len : mg "len" = none) (m_min : mg "min" = none) (m_range : mg "range" = none) (m_str : mg "str" = none) (m_tuple : mg "tuple" = none) (mt_apply_all : MthP T P w K mg base 8 2 16 [(4, (runDef 4 r_Workshop_apply_all))]) (mt_row : MthP T P w K mg base 4 2 21 [(4, (runDef 0 r_Workshop_row))]) (mt_run : MthP T P w K mg base 13 2 11 [(3, (runDef 1 r_Console_run))]) (nw_Console : NewP T P w K mg base "Console" 1 3 2 (runDef 0 r_Console_init)) (nw_Workshop : NewP T P w K mg base "Workshop" 1 4 1 (runDef 0 r_Workshop_init)) {f : Addr} {cdv : Value} {A : Around} {outer : List Env} {s : Shared} {H : Hp} {EK : XK} {E : XW} (hr : Room 13 (A.deeper (envOfC "law" (defScope (top 89)) s.heap.objs.size f cdv)))
    (tk : Takes (cxOf (L2.CX P w) P w K mg base N_law "law" (defScope (top 89)) f cdv A outer s H EK) (wx T K E)) : SS T (cxOf (L2.CX P w) P w K mg base N_law "law" (defScope (top 89)) f cdv A outer s H EK) E ((defBody (top 89)).getD 5 (.Pass ⟨0, 0, 0, 0⟩)) l_5 :=
  (s_asg (s_newP (n := 0) tk (hr.mono (by decide)) nw_Console rfl (a_cons (s_var rfl (vis_by rfl) rfl rfl) a_nil rfl) rfl) (g_name sc_law.nd rfl (loc_by rfl) (.inl rfl)) rfl rfl rfl)
theorem ls_7 {P : Program} {w : World} {K : PySem.W.Frag} {mg : Str → Option Value} {base : Heap} {T : Tb} (hP : P = T.P) (hw : w = T.w) (c__law_normal : Cal T P w K mg base "_law_normal" 1 1 runNormC) (c__law_of : Cal T P w K mg base "_law_of" 2 2 (runDef 0 r_of)) (c__law_pull : Cal T P w K mg base "_law_pull" 1 2 runPullA) (hnm : T.nm = nm73) (m_int : mg "int" = none) (m_len : mg "len" = none) (m_min : mg "min" = none) (m_range : mg "range" = none) (m_str : mg "str" = none) (m_tuple : mg "tuple" = none) (mt_apply_all : MthP T P w K mg base 8 2 16 [(4, (runDef 4 r_Workshop_apply_all))]) (mt_row : MthP T P w K mg base 4 2 21 [(4, (runDef 0 r_Workshop_row))]) (mt_run : MthP T P w K mg base 13 2 11 [(3, (runDef 1 r_Console_run))]) (nw_Console : NewP T P w K mg base "Console" 1 3 2 (runDef 0 r_Console_init)) (nw_Workshop : NewP T P w K mg base "Workshop" 1 4 1 (runDef 0 r_Workshop_init)) {f : Addr} {cdv : Value} {A : Around} {outer : List Env} {s : Shared} {H : Hp} {EK : XK} {E : XW} (hr : Room 13 (A.deeper (envOfC "law" (defScope (top 89)) s.heap.objs.size f cdv)))
    (tk : Takes (cxOf (L2.CX P w) P w K mg base N_law "law" (defScope (top 89)) f cdv A outer s H EK) (wx T K E)) : SS T (cxOf (L2.CX P w) P w K mg base N_law "law" (defScope (top 89)) f cdv A outer s H EK) E ((defBody (top 89)).getD 7 (.Pass ⟨0, 0, 0, 0⟩)) l_7 :=
  (s_asg (s_cal c__law_of tk (hr.mono (by decide)) rfl (a_cons (s_var rfl (vis_by rfl) rfl rfl) (a_cons (s_lst false (a_cons (s_bin op_addA opAddT_ok cs (s_bin op_mulS opMulS_ok cs ci)) (a_cons cs (a_cons cs (a_cons cs (a_cons cs (a_cons cs (a_cons (s_bin op_mulS opMulS_ok cs ci) a_nil rfl) rfl) rfl) rfl) rfl) rfl) rfl) (by decide)) a_nil rfl) rfl) rfl rfl) (g_name sc_law.nd rfl (loc_by rfl) (.inl rfl)) rfl rfl rfl)
theorem ls_8 {P : Program} {w : World} {K : PySem.W.Frag} {mg : Str → Option Value} {base : Heap} {T : Tb} (hP : P = T.P) (hw : w = T.w) (c__law_normal : Cal T P w K mg base "_law_normal" 1 1 runNormC) (c__law_of : Cal T P w K mg base "_law_of" 2 2 (runDef 0 r_of)) (c__law_pull : Cal T P w K mg base "_law_pull" 1 2 runPullA) (hnm : T.nm = nm73) (m_int : mg "int" = none) (m_len : mg "len" = none) (m_min : mg "min" = none) (m_range : mg "range" = none) (m_str : mg "str" = none) (m_tuple : mg "tuple" = none) (mt_apply_all : MthP T P w K mg base 8 2 16 [(4, (runDef 4 r_Workshop_apply_all))]) (mt_row : MthP T P w K mg base 4 2 21 [(4, (runDef 0 r_Workshop_row))]) (mt_run : MthP T P w K mg base 13 2 11 [(3, (runDef 1 r_Console_run))]) (nw_Console : NewP T P w K mg base "Console" 1 3 2 (runDef 0 r_Console_init)) (nw_Workshop : NewP T P w K mg base "Workshop" 1 4 1 (runDef 0 r_Workshop_init)) {f : Addr} {cdv : Value} {A : Around} {outer : List Env} {s : Shared} {H : Hp} {EK : XK} {E : XW} (hr : Room 13 (A.deeper (envOfC "law" (defScope (top 89)) s.heap.objs.size f cdv)))
    (tk : Takes (cxOf (L2.CX P w) P w K mg base N_law "law" (defScope (top 89)) f cdv A outer s H EK) (wx T K E)) : SS T (cxOf (L2.CX P w) P w K mg base N_law "law" (defScope (top 89)) f cdv A outer s H EK) E ((defBody (top 89)).getD 8 (.Pass ⟨0, 0, 0, 0⟩)) l_8 :=
  (s_asg (s_lst false (a_cons (s_mth tk (hr.mono (by decide)) mt_run (nm_at hnm rfl) (s_var rfl (vis_by rfl) rfl rfl) (a_cons (s_bin op_addA opAddT_ok cs (s_var rfl (vis_by rfl) rfl rfl)) a_nil rfl) rfl) (a_cons (s_mth tk (hr.mono (by decide)) mt_run (nm_at hnm rfl) (s_var rfl (vis_by rfl) rfl rfl) (a_cons (s_bin op_addA opAddT_ok cs (s_var rfl (vis_by rfl) rfl rfl)) a_nil rfl) rfl) (a_cons (s_mth tk (hr.mono (by decide)) mt_run (nm_at hnm rfl) (s_var rfl (vis_by rfl) rfl rfl) (a_cons cs a_nil rfl) rfl) a_nil rfl) rfl) rfl) (by decide)) (g_name sc_law.nd rfl (loc_by rfl) (.inl rfl)) rfl rfl rfl)
theorem ls_9 {P : Program} {w : World} {K : PySem.W.Frag} {mg : Str → Option Value} {base : Heap} {T : Tb} (hP : P = T.P) (hw : w = T.w) (c__law_normal : Cal T P w K mg base "_law_normal" 1 1 runNormC) (c__law_of : Cal T P w K mg base "_law_of" 2 2 (runDef 0 r_of)) (c__law_pull : Cal T P w K mg base "_law_pull" 1 2 runPullA) (hnm : T.nm = nm73) (m_int : mg "int" = none) (m_len : mg "len" = none) (m_min : mg "min" = none) (m_range : mg "range" = none) (m_str : mg "str" = none) (m_tuple : mg "tuple" = none) (mt_apply_all : MthP T P w K mg base 8 2 16 [(4, (runDef 4 r_Workshop_apply_all))]) (mt_row : MthP T P w K mg base 4 2 21 [(4, (runDef 0 r_Workshop_row))]) (mt_run : MthP T P w K mg base 13 2 11 [(3, (runDef 1 r_Console_run))]) (nw_Console : NewP T P w K mg base "Console" 1 3 2 (runDef 0 r_Console_init)) (nw_Workshop : NewP T P w K mg base "Workshop" 1 4 1 (runDef 0 r_Workshop_init)) {f : Addr} {cdv : Value} {A : Around} {outer : List Env} {s : Shared} {H : Hp} {EK : XK} {E : XW} (hr : Room 13 (A.deeper (envOfC "law" (defScope (top 89)) s.heap.objs.size f cdv)))
    (tk : Takes (cxOf (L2.CX P w) P w K mg base N_law "law" (defScope (top 89)) f cdv A outer s H EK) (wx T K E)) : SS T (cxOf (L2.CX P w) P w K mg base N_law "law" (defScope (top 89)) f cdv A outer s H EK) E ((defBody (top 89)).getD 9 (.Pass ⟨0, 0, 0, 0⟩)) l_9 :=
  (s_if (s_bool (sb_or (s_cmp (op_neA (u64 hr)) cNe_ok (s_var rfl (vis_by rfl) rfl rfl) (s_lst false (a_cons cs (a_cons cs (a_cons cs a_nil rfl) rfl) rfl) (by decide)) rfl) (sb_or1 (s_cmp (op_neA (u64 hr)) cNeR_ok (s_mth tk (hr.mono (by decide)) mt_row (nm_at hnm rfl) (s_var rfl (vis_by rfl) rfl rfl) (a_cons cs a_nil rfl) rfl) (s_tup (a_cons cs (a_cons (s_var rfl (vis_by rfl) rfl rfl) a_nil rfl) rfl) (by decide)) rfl)))) (ss_one (s_ret cb)) ss_nil)
theorem ls_10 {P : Program} {w : World} {K : PySem.W.Frag} {mg : Str → Option Value} {base : Heap} {T : Tb} (hP : P = T.P) (hw : w = T.w) (c__law_normal : Cal T P w K mg base "_law_normal" 1 1 runNormC) (c__law_of : Cal T P w K mg base "_law_of" 2 2 (runDef 0 r_of)) (c__law_pull : Cal T P w K mg base "_law_pull" 1 2 runPullA) (hnm : T.nm = nm73) (m_int : mg "int" = none) (m_len : mg "len" = none) (m_min : mg "min" = none) (m_range : mg "range" = none) (m_str : mg "str" = none) (m_tuple : mg "tuple" = none) (mt_apply_all : MthP T P w K mg base 8 2 16 [(4, (runDef 4 r_Workshop_apply_all))]) (mt_row : MthP T P w K mg base 4 2 21 [(4, (runDef 0 r_Workshop_row))]) (mt_run : MthP T P w K mg base 13 2 11 [(3, (runDef 1 r_Console_run))]) (nw_Console : NewP T P w K mg base "Console" 1 3 2 (runDef 0 r_Console_init)) (nw_Workshop : NewP T P w K mg base "Workshop" 1 4 1 (runDef 0 r_Workshop_init)) {f : Addr} {cdv : Value} {A : Around} {outer : List Env} {s : Shared} {H : Hp} {EK : XK} {E : XW} (hr : Room 13 (A.deeper (envOfC "law" (defScope (top 89)) s.heap.objs.size f cdv)))
    (tk : Takes (cxOf (L2.CX P w) P w K mg base N_law "law" (defScope (top 89)) f cdv A outer s H EK) (wx T K E)) : SS T (cxOf (L2.CX P w) P w K mg base N_law "law" (defScope (top 89)) f cdv A outer s H EK) E ((defBody (top 89)).getD 10 (.Pass ⟨0, 0, 0, 0⟩)) l_10 :=
  (s_asg (s_lst false (a_cons (s_mth tk (hr.mono (by decide)) mt_run (nm_at hnm rfl) (s_var rfl (vis_by rfl) rfl rfl) (a_cons cs a_nil rfl) rfl) (a_cons (s_mth tk (hr.mono (by decide)) mt_run (nm_at hnm rfl) (s_var rfl (vis_by rfl) rfl rfl) (a_cons cs a_nil rfl) rfl) (a_cons (s_mth tk (hr.mono (by decide)) mt_run (nm_at hnm rfl) (s_newP (n := 0) tk (hr.mono (by decide)) nw_Console rfl (a_cons (s_newP0 tk (hr.mono (by decide)) nw_Workshop rfl rfl) a_nil rfl) rfl) (a_cons cs a_nil rfl) rfl) a_nil rfl) rfl) rfl) (by decide)) (g_name sc_law.nd rfl (loc_by rfl) (.inl rfl)) rfl rfl rfl)
theorem ls_11 {P : Program} {w : World} {K : PySem.W.Frag} {mg : Str → Option Value} {base : Heap} {T : Tb} (hP : P = T.P) (hw : w = T.w) (c__law_normal : Cal T P w K mg base "_law_normal" 1 1 runNormC) (c__law_of : Cal T P w K mg base "_law_of" 2 2 (runDef 0 r_of)) (c__law_pull : Cal T P w K mg base "_law_pull" 1 2 runPullA) (hnm : T.nm = nm73) (m_int : mg "int" = none) (m_len : mg "len" = none) (m_min : mg "min" = none) (m_range : mg "range" = none) (m_str : mg "str" = none) (m_tuple : mg "tuple" = none) (mt_apply_all : MthP T P w K mg base 8 2 16 [(4, (runDef 4 r_Workshop_apply_all))]) (mt_row : MthP T P w K mg base 4 2 21 [(4, (runDef 0 r_Workshop_row))]) (mt_run : MthP T P w K mg base 13 2 11 [(3, (runDef 1 r_Console_run))]) (nw_Console : NewP T P w K mg base "Console" 1 3 2 (runDef 0 r_Console_init)) (nw_Workshop : NewP T P w K mg base "Workshop" 1 4 1 (runDef 0 r_Workshop_init)) {f : Addr} {cdv : Value} {A : Around} {outer : List Env} {s : Shared} {H : Hp} {EK : XK} {E : XW} (hr : Room 13 (A.deeper (envOfC "law" (defScope (top 89)) s.heap.objs.size f cdv)))
    (tk : Takes (cxOf (L2.CX P w) P w K mg base N_law "law" (defScope (top 89)) f cdv A outer s H EK) (wx T K E)) : SS T (cxOf (L2.CX P w) P w K mg base N_law "law" (defScope (top 89)) f cdv A outer s H EK) E ((defBody (top 89)).getD 11 (.Pass ⟨0, 0, 0, 0⟩)) l_11 :=
  (s_ret (s_cmp (op_eqA (u64 hr)) cEq_ok (s_var rfl (vis_by rfl) rfl rfl) (s_lst false (a_cons cs (a_cons cs (a_cons cs a_nil rfl) rfl) rfl) (by decide)) rfl))
theorem ls_6a {P : Program} {w : World} {K : PySem.W.Frag} {mg : Str → Option Value} {base : Heap} {T : Tb} (hP : P = T.P) (hw : w = T.w) (c__law_normal : Cal T P w K mg base "_law_normal" 1 1 runNormC) (c__law_of : Cal T P w K mg base "_law_of" 2 2 (runDef 0 r_of)) (c__law_pull : Cal T P w K mg base "_law_pull" 1 2 runPullA) (hnm : T.nm = nm73) (m_int : mg "int" = none) (m_len : mg "len" = none) (m_min : mg "min" = none) (m_range : mg "range" = none) (m_str : mg "str" = none) (m_tuple : mg "tuple" = none) (mt_apply_all : MthP T P w K mg base 8 2 16 [(4, (runDef 4 r_Workshop_apply_all))]) (mt_row : MthP T P w K mg base 4 2 21 [(4, (runDef 0 r_Workshop_row))]) (mt_run : MthP T P w K mg base 13 2 11 [(3, (runDef 1 r_Console_run))]) (nw_Console : NewP T P w K mg base "Console" 1 3 2 (runDef 0 r_Console_init)) (nw_Workshop : NewP T P w K mg base "Workshop" 1 4 1 (runDef 0 r_Workshop_init)) {f : Addr} {cdv : Value} {A : Around} {outer : List Env} {s : Shared} {H : Hp} {EK : XK} {E : XW} (hr : Room 13 (A.deeper (envOfC "law" (defScope (top 89)) s.heap.objs.size f cdv)))
    (tk : Takes (cxOf (L2.CX P w) P w K mg base N_law "law" (defScope (top 89)) f cdv A outer s H EK) (wx T K E)) : SS T (cxOf (L2.CX P w) P w K mg base N_law "law" (defScope (top 89)) f cdv A outer s H EK) E ((forBody ((defBody (top 89)).getD 6 (.Pass ⟨0, 0, 0, 0⟩))).getD 0 (.Pass ⟨0, 0, 0, 0⟩)) l_6a :=
  (s_asg (s_bin op_addA (opAdd_ok false) ci (s_cal c__law_pull tk (hr.mono (by decide)) rfl (a_cons (s_var rfl (vis_by rfl) rfl rfl) (a_cons ci a_nil rfl) rfl) rfl rfl)) (g_name sc_law.nd rfl (loc_by rfl) (.inl rfl)) rfl rfl rfl)
theorem ls_6b {P : Program} {w : World} {K : PySem.W.Frag} {mg : Str → Option Value} {base : Heap} {T : Tb} (hP : P = T.P) (hw : w = T.w) (c__law_normal : Cal T P w K mg base "_law_normal" 1 1 runNormC) (c__law_of : Cal T P w K mg base "_law_of" 2 2 (runDef 0 r_of)) (c__law_pull : Cal T P w K mg base "_law_pull" 1 2 runPullA) (hnm : T.nm = nm73) (m_int : mg "int" = none) (m_len : mg "len" = none) (m_min : mg "min" = none) (m_range : mg "range" = none) (m_str : mg "str" = none) (m_tuple : mg "tuple" = none) (mt_apply_all : MthP T P w K mg base 8 2 16 [(4, (runDef 4 r_Workshop_apply_all))]) (mt_row : MthP T P w K mg base 4 2 21 [(4, (runDef 0 r_Workshop_row))]) (mt_run : MthP T P w K mg base 13 2 11 [(3, (runDef 1 r_Console_run))]) (nw_Console : NewP T P w K mg base "Console" 1 3 2 (runDef 0 r_Console_init)) (nw_Workshop : NewP T P w K mg base "Workshop" 1 4 1 (runDef 0 r_Workshop_init)) {f : Addr} {cdv : Value} {A : Around} {outer : List Env} {s : Shared} {H : Hp} {EK : XK} {E : XW} (hr : Room 13 (A.deeper (envOfC "law" (defScope (top 89)) s.heap.objs.size f cdv)))
    (tk : Takes (cxOf (L2.CX P w) P w K mg base N_law "law" (defScope (top 89)) f cdv A outer s H EK) (wx T K E)) : SS T (cxOf (L2.CX P w) P w K mg base N_law "law" (defScope (top 89)) f cdv A outer s H EK) E ((forBody ((defBody (top 89)).getD 6 (.Pass ⟨0, 0, 0, 0⟩))).getD 1 (.Pass ⟨0, 0, 0, 0⟩)) l_6b :=
  (s_asg (s_bin op_sub opSub_ok (s_biT call_int_str kIntT_ok rfl m_int (by decide +kernel) (a_cons (s_bin op_mulS opMulS_ok cs (s_var rfl (vis_by rfl) rfl rfl)) a_nil rfl) (by decide) rfl) (s_cal c__law_of tk (hr.mono (by decide)) rfl (a_cons (s_var rfl (vis_by rfl) rfl rfl) (a_cons (s_lst false (a_cons ci (a_cons (s_cal c__law_pull tk (hr.mono (by decide)) rfl (a_cons (s_var rfl (vis_by rfl) rfl rfl) (a_cons (s_biT call_int_str kIntT_ok rfl m_int (by decide +kernel) (a_cons (s_bin op_mulS opMulS_ok cs (s_var rfl (vis_by rfl) rfl rfl)) a_nil rfl) (by decide) rfl) a_nil rfl) rfl) rfl rfl) a_nil rfl) rfl) (by decide)) a_nil rfl) rfl) rfl rfl)) (g_name sc_law.nd rfl (loc_by rfl) (.inl rfl)) rfl rfl rfl)
theorem ls_6c {P : Program} {w : World} {K : PySem.W.Frag} {mg : Str → Option Value} {base : Heap} {T : Tb} (hP : P = T.P) (hw : w = T.w) (c__law_normal : Cal T P w K mg base "_law_normal" 1 1 runNormC) (c__law_of : Cal T P w K mg base "_law_of" 2 2 (runDef 0 r_of)) (c__law_pull : Cal T P w K mg base "_law_pull" 1 2 runPullA) (hnm : T.nm = nm73) (m_int : mg "int" = none) (m_len : mg "len" = none) (m_min : mg "min" = none) (m_range : mg "range" = none) (m_str : mg "str" = none) (m_tuple : mg "tuple" = none) (mt_apply_all : MthP T P w K mg base 8 2 16 [(4, (runDef 4 r_Workshop_apply_all))]) (mt_row : MthP T P w K mg base 4 2 21 [(4, (runDef 0 r_Workshop_row))]) (mt_run : MthP T P w K mg base 13 2 11 [(3, (runDef 1 r_Console_run))]) (nw_Console : NewP T P w K mg base "Console" 1 3 2 (runDef 0 r_Console_init)) (nw_Workshop : NewP T P w K mg base "Workshop" 1 4 1 (runDef 0 r_Workshop_init)) {f : Addr} {cdv : Value} {A : Around} {outer : List Env} {s : Shared} {H : Hp} {EK : XK} {E : XW} (hr : Room 13 (A.deeper (envOfC "law" (defScope (top 89)) s.heap.objs.size f cdv)))
    (tk : Takes (cxOf (L2.CX P w) P w K mg base N_law "law" (defScope (top 89)) f cdv A outer s H EK) (wx T K E)) : SS T (cxOf (L2.CX P w) P w K mg base N_law "law" (defScope (top 89)) f cdv A outer s H EK) E ((forBody ((defBody (top 89)).getD 6 (.Pass ⟨0, 0, 0, 0⟩))).getD 2 (.Pass ⟨0, 0, 0, 0⟩)) l_6c :=
  (s_if (s_cmp (op_neA (u64 hr)) cNe_ok (s_mth tk (hr.mono (by decide)) mt_run (nm_at hnm rfl) (s_var rfl (vis_by rfl) rfl rfl) (a_cons (s_bin op_addA opAddT_ok cs (s_biT call_str_int kStrT_ok rfl m_str (by decide +kernel) (a_cons (s_var rfl (vis_by rfl) rfl rfl) a_nil rfl) (by decide) rfl)) a_nil rfl) rfl) cs rfl) (ss_one (s_ret cb)) ss_nil)
theorem ls_6d {P : Program} {w : World} {K : PySem.W.Frag} {mg : Str → Option Value} {base : Heap} {T : Tb} (hP : P = T.P) (hw : w = T.w) (c__law_normal : Cal T P w K mg base "_law_normal" 1 1 runNormC) (c__law_of : Cal T P w K mg base "_law_of" 2 2 (runDef 0 r_of)) (c__law_pull : Cal T P w K mg base "_law_pull" 1 2 runPullA) (hnm : T.nm = nm73) (m_int : mg "int" = none) (m_len : mg "len" = none) (m_min : mg "min" = none) (m_range : mg "range" = none) (m_str : mg "str" = none) (m_tuple : mg "tuple" = none) (mt_apply_all : MthP T P w K mg base 8 2 16 [(4, (runDef 4 r_Workshop_apply_all))]) (mt_row : MthP T P w K mg base 4 2 21 [(4, (runDef 0 r_Workshop_row))]) (mt_run : MthP T P w K mg base 13 2 11 [(3, (runDef 1 r_Console_run))]) (nw_Console : NewP T P w K mg base "Console" 1 3 2 (runDef 0 r_Console_init)) (nw_Workshop : NewP T P w K mg base "Workshop" 1 4 1 (runDef 0 r_Workshop_init)) {f : Addr} {cdv : Value} {A : Around} {outer : List Env} {s : Shared} {H : Hp} {EK : XK} {E : XW} (hr : Room 13 (A.deeper (envOfC "law" (defScope (top 89)) s.heap.objs.size f cdv)))
    (tk : Takes (cxOf (L2.CX P w) P w K mg base N_law "law" (defScope (top 89)) f cdv A outer s H EK) (wx T K E)) : SS T (cxOf (L2.CX P w) P w K mg base N_law "law" (defScope (top 89)) f cdv A outer s H EK) E ((forBody ((defBody (top 89)).getD 6 (.Pass ⟨0, 0, 0, 0⟩))).getD 3 (.Pass ⟨0, 0, 0, 0⟩)) l_6d :=
  (s_asg (s_biB (call_min2 rfl) (kI2_ok minI) rfl m_min (by decide +kernel) (a_cons (s_var rfl (vis_by rfl) rfl rfl) (a_cons (s_biB cr_len kLen_ok (by rfl) m_len boot_len (a_cons (s_ixA hP hw (u12 hr) (s_var rfl (vis_by rfl) rfl rfl) ci rfl) a_nil rfl) (by decide) rfl) a_nil rfl) rfl) (by decide) rfl) (g_name sc_law.nd rfl (loc_by rfl) (.inl rfl)) rfl rfl rfl)
theorem ls_6e {P : Program} {w : World} {K : PySem.W.Frag} {mg : Str → Option Value} {base : Heap} {T : Tb} (hP : P = T.P) (hw : w = T.w) (c__law_normal : Cal T P w K mg base "_law_normal" 1 1 runNormC) (c__law_of : Cal T P w K mg base "_law_of" 2 2 (runDef 0 r_of)) (c__law_pull : Cal T P w K mg base "_law_pull" 1 2 runPullA) (hnm : T.nm = nm73) (m_int : mg "int" = none) (m_len : mg "len" = none) (m_min : mg "min" = none) (m_range : mg "range" = none) (m_str : mg "str" = none) (m_tuple : mg "tuple" = none) (mt_apply_all : MthP T P w K mg base 8 2 16 [(4, (runDef 4 r_Workshop_apply_all))]) (mt_row : MthP T P w K mg base 4 2 21 [(4, (runDef 0 r_Workshop_row))]) (mt_run : MthP T P w K mg base 13 2 11 [(3, (runDef 1 r_Console_run))]) (nw_Console : NewP T P w K mg base "Console" 1 3 2 (runDef 0 r_Console_init)) (nw_Workshop : NewP T P w K mg base "Workshop" 1 4 1 (runDef 0 r_Workshop_init)) {f : Addr} {cdv : Value} {A : Around} {outer : List Env} {s : Shared} {H : Hp} {EK : XK} {E : XW} (hr : Room 13 (A.deeper (envOfC "law" (defScope (top 89)) s.heap.objs.size f cdv)))
    (tk : Takes (cxOf (L2.CX P w) P w K mg base N_law "law" (defScope (top 89)) f cdv A outer s H EK) (wx T K E)) : SS T (cxOf (L2.CX P w) P w K mg base N_law "law" (defScope (top 89)) f cdv A outer s H EK) E ((forBody ((defBody (top 89)).getD 6 (.Pass ⟨0, 0, 0, 0⟩))).getD 4 (.Pass ⟨0, 0, 0, 0⟩)) l_6e :=
  (s_asg (s_bin op_modN opMod_ok (s_bin op_sub opSub_ok (s_var rfl (vis_by rfl) rfl rfl) (s_var rfl (vis_by rfl) rfl rfl)) (s_biB cr_len kLen_ok (by rfl) m_len boot_len (a_cons (s_ixA hP hw (u12 hr) (s_var rfl (vis_by rfl) rfl rfl) ci rfl) a_nil rfl) (by decide) rfl)) (g_name sc_law.nd rfl (loc_by rfl) (.inl rfl)) rfl rfl rfl)
theorem ls_6f {P : Program} {w : World} {K : PySem.W.Frag} {mg : Str → Option Value} {base : Heap} {T : Tb} (hP : P = T.P) (hw : w = T.w) (c__law_normal : Cal T P w K mg base "_law_normal" 1 1 runNormC) (c__law_of : Cal T P w K mg base "_law_of" 2 2 (runDef 0 r_of)) (c__law_pull : Cal T P w K mg base "_law_pull" 1 2 runPullA) (hnm : T.nm = nm73) (m_int : mg "int" = none) (m_len : mg "len" = none) (m_min : mg "min" = none) (m_range : mg "range" = none) (m_str : mg "str" = none) (m_tuple : mg "tuple" = none) (mt_apply_all : MthP T P w K mg base 8 2 16 [(4, (runDef 4 r_Workshop_apply_all))]) (mt_row : MthP T P w K mg base 4 2 21 [(4, (runDef 0 r_Workshop_row))]) (mt_run : MthP T P w K mg base 13 2 11 [(3, (runDef 1 r_Console_run))]) (nw_Console : NewP T P w K mg base "Console" 1 3 2 (runDef 0 r_Console_init)) (nw_Workshop : NewP T P w K mg base "Workshop" 1 4 1 (runDef 0 r_Workshop_init)) {f : Addr} {cdv : Value} {A : Around} {outer : List Env} {s : Shared} {H : Hp} {EK : XK} {E : XW} (hr : Room 13 (A.deeper (envOfC "law" (defScope (top 89)) s.heap.objs.size f cdv)))
    (tk : Takes (cxOf (L2.CX P w) P w K mg base N_law "law" (defScope (top 89)) f cdv A outer s H EK) (wx T K E)) : SS T (cxOf (L2.CX P w) P w K mg base N_law "law" (defScope (top 89)) f cdv A outer s H EK) E ((forBody ((defBody (top 89)).getD 6 (.Pass ⟨0, 0, 0, 0⟩))).getD 5 (.Pass ⟨0, 0, 0, 0⟩)) l_6f :=
  (s_asg (s_cal c__law_normal tk (hr.mono (by decide)) rfl (a_cons (s_tup (a_cons (s_sl false (s_ixA hP hw (u12 hr) (s_var rfl (vis_by rfl) rfl rfl) ci rfl) (o_some (s_var rfl (vis_by rfl) rfl rfl)) o_none) (a_cons (s_bin op_addA (opAdd_ok false) (s_sl false (s_ixA hP hw (u12 hr) (s_var rfl (vis_by rfl) rfl rfl) ci rfl) (o_some (s_var rfl (vis_by rfl) rfl rfl)) o_none) (s_sl false (s_ixA hP hw (u12 hr) (s_var rfl (vis_by rfl) rfl rfl) ci rfl) o_none (o_some (s_var rfl (vis_by rfl) rfl rfl)))) a_nil rfl) rfl) (by decide)) a_nil rfl) rfl rfl) (g_name sc_law.nd rfl (loc_by rfl) (.inl rfl)) rfl rfl rfl)
theorem ls_6g {P : Program} {w : World} {K : PySem.W.Frag} {mg : Str → Option Value} {base : Heap} {T : Tb} (hP : P = T.P) (hw : w = T.w) (c__law_normal : Cal T P w K mg base "_law_normal" 1 1 runNormC) (c__law_of : Cal T P w K mg base "_law_of" 2 2 (runDef 0 r_of)) (c__law_pull : Cal T P w K mg base "_law_pull" 1 2 runPullA) (hnm : T.nm = nm73) (m_int : mg "int" = none) (m_len : mg "len" = none) (m_min : mg "min" = none) (m_range : mg "range" = none) (m_str : mg "str" = none) (m_tuple : mg "tuple" = none) (mt_apply_all : MthP T P w K mg base 8 2 16 [(4, (runDef 4 r_Workshop_apply_all))]) (mt_row : MthP T P w K mg base 4 2 21 [(4, (runDef 0 r_Workshop_row))]) (mt_run : MthP T P w K mg base 13 2 11 [(3, (runDef 1 r_Console_run))]) (nw_Console : NewP T P w K mg base "Console" 1 3 2 (runDef 0 r_Console_init)) (nw_Workshop : NewP T P w K mg base "Workshop" 1 4 1 (runDef 0 r_Workshop_init)) {f : Addr} {cdv : Value} {A : Around} {outer : List Env} {s : Shared} {H : Hp} {EK : XK} {E : XW} (hr : Room 13 (A.deeper (envOfC "law" (defScope (top 89)) s.heap.objs.size f cdv)))
    (tk : Takes (cxOf (L2.CX P w) P w K mg base N_law "law" (defScope (top 89)) f cdv A outer s H EK) (wx T K E)) : SS T (cxOf (L2.CX P w) P w K mg base N_law "law" (defScope (top 89)) f cdv A outer s H EK) E ((forBody ((defBody (top 89)).getD 6 (.Pass ⟨0, 0, 0, 0⟩))).getD 6 (.Pass ⟨0, 0, 0, 0⟩)) l_6g :=
  (s_if (s_cmp (op_neA (u64 hr)) cNeR_ok (s_mth tk (hr.mono (by decide)) mt_row (nm_at hnm rfl) (s_var rfl (vis_by rfl) rfl rfl) (a_cons cs a_nil rfl) rfl) (s_tup (a_cons cs (a_cons (s_var rfl (vis_by rfl) rfl rfl) a_nil rfl) rfl) (by decide)) rfl) (ss_one (s_ret cb)) ss_nil)
end
end WK
set_option Elab.async false
set_option linter.all false
set_option maxRecDepth 100000
set_option maxHeartbeats 0
/-! the law's drawn row, drawn number, its own reckoning of a drop: hidden -/
namespace WK
noncomputable section
open PySem PySem.Spec PyProof.Rows L2
section
variable {T : Tb} {X : Cx} {E : XW}
theorem t_seq {f g : RunS} {D : Ends} {σ : L2.St} {H : Hp} (w : tS T X.K E (runSeq f g) D σ H) : tS T X.K E f { D with nx := fun σ1 H1 => tS T X.K E g D σ1 H1 } σ H := by
  obtain ⟨ρ, m, h, s1, s2, w⟩ := w
  refine ⟨ρ, m, h, s1, s2, Tr.wp_mono ((Tr.wp_bind _ _ _).mp w) fun r q => ?_⟩
  cases r with
  | nx m1 h1 => exact fun ρ1 H1 σ1 l s d => ⟨ρ1, m1, h1, s, d, Tr.wp_mono q (postS.le l)⟩
  | bk _ _ => exact q
  | ct _ _ => exact q
  | rt _ _ => exact q
  | ex _ _ _ => exact q
theorem ss_abs2 {st1 st2 : Stmt} {rest : List Stmt} {f1 f2 g r : RunS} (h1 : SS T X E st1 f1) (h2 : SS T X E st2 f2) (hg : SSs T X E rest g) (ha : ∀ (D : Ends) (σ : L2.St) (H : Hp), tS T X.K E r D σ H → tS T X.K E (runSeq f1 f2) D σ H) : SSs T X E (st1 :: st2 :: rest) (runSeq r g) :=
  pssI (pss_cons h1 (pss_cons h2 hg)) fun D σ H w => t_seq (ha _ σ H (t_seq w))
theorem ss_abs3 {st1 st2 st3 : Stmt} {rest : List Stmt} {f1 f2 f3 g r : RunS} (h1 : SS T X E st1 f1) (h2 : SS T X E st2 f2) (h3 : SS T X E st3 f3) (hg : SSs T X E rest g) (ha : ∀ (D : Ends) (σ : L2.St) (H : Hp), tS T X.K E r D σ H → tS T X.K E (runSeq f1 (runSeq f2 f3)) D σ H) : SSs T X E (st1 :: st2 :: st3 :: rest) (runSeq r g) :=
  pssI (pss_cons h1 (pss_cons h2 (pss_cons h3 hg))) fun D σ H w => by
    refine ?_
    have w1 := t_seq (ha _ σ H (t_seq w))
    obtain ⟨ρ, m, h, s1, s2, q⟩ := w1
    refine ⟨ρ, m, h, s1, s2, Tr.wp_mono q fun r q => ?_⟩
    cases r with
    | nx m1 h1 => exact fun ρ1 H1 σ1 l s d => t_seq (q ρ1 H1 σ1 l s d)
    | bk _ _ => exact q
    | ct _ _ => exact q
    | rt _ _ => exact q
    | ex _ _ _ => exact q
end
section
variable {T : Tb} {K : PySem.W.Frag} {ρ : Rho} {M : Addr → Prop} {H : Hp} {m : MS} {σ : L2.St}
theorem SimS.forget (s : SimS T K ρ M H m σ) (i : Nat) : SimS T K ρ M H (m.set i none) σ where
  len := by rw [List.length_set]; exact s.len
  at_ := fun j y e => by
    by_cases q : i = j
    · subst q
      by_cases z : i < m.length
      · rw [List.getElem?_set_self z] at e; cases e
      · rw [List.getElem?_eq_none (by rw [List.length_set]; omega)] at e; cases e
    · rw [List.getElem?_set_ne q] at e
      exact s.at_ j y e
theorem SimS.swap (s : SimS T K ρ M H m σ) {i : Nat} {x y : MV} (hm : m[i]? = some (some x)) (hd : ∀ v, Den T K ρ M H x v → Den T K ρ M H y v) : SimS T K ρ M H (m.set i (some y)) σ where
  len := by rw [List.length_set]; exact s.len
  at_ := fun j z e => by
    by_cases q : i = j
    · subst q
      have z : i < m.length := (List.getElem?_eq_some_iff.mp hm).1
      rw [List.getElem?_set_self z] at e; cases e
      obtain ⟨v, e1, e2⟩ := s.at_ i x hm
      exact ⟨v, e1, hd v e2⟩
    · rw [List.getElem?_set_ne q] at e
      exact s.at_ j z e
theorem SimS.leA {ρ' : Rho} {h h' : MH} {H' : Hp} (s : SimS T K ρ (Mu ρ h) H m σ) (l : Le ρ h H ρ' h' H') : SimS T K ρ' (Mu ρ' h') H' m σ := s.le l
end
/-! ### the drawn number -/
abbrev pullR_ (n : Int) : RunE := runArgs (runCons (runVar 1) (runCons (cI n) runNil)) (runF false [] runPullA)
theorem pullA_lit {h : MH} {l : Nat} {n : Int} (e : h.get l = some .bag) (h0 : 0 < n) (h1 : n ≤ 1000000000) : runPullA [.ref l, .int n] h = .ask n fun r => okE (.int r) h := by
  have c : (decide (0 < n) && Nat.ble n.natAbs (10 ^ 30)) = true := by
    rw [decide_eq_true h0, Bool.true_and, Nat.ble_eq]
    exact Nat.le_trans (by omega : n.natAbs ≤ 1000000000) (by decide)
  unfold runPullA
  simp only [e, c]
  rfl
def rAbsNum : RunS := fun m h => match m with
  | [a0, some (.ref l), a2, a3, a4, a5, a6, a7, none, a9, a10, a11, a12, a13, a14] => match h.get l with
    | some .bag => nxS [a0, some (.ref l), a2, a3, a4, a5, a6, a7, none, some (.num h.nxt), a10, a11, a12, a13, a14] (bump h)
    | _ => .bad
  | _ => .bad
theorem nines (f : Fin 9) : (match intText? (mulS ("9" : Str) ((1 : Int) + (f.val : Int))) with
    | some n => decide (n = 10 ^ (f.val + 1) - 1) && leB (mulS ("9" : Str) ((1 : Int) + (f.val : Int))).length 640
    | none => false) = true := by
  revert f; decide +kernel
end
end WK
set_option Elab.async false
set_option linter.all false
set_option maxRecDepth 100000
set_option maxHeartbeats 0
namespace WK
noncomputable section
open PySem PySem.Spec PyProof.Rows L2
def rAbsDrop : RunS := fun m h => match m with
  | [a0, a1, a2, a3, a4, some (.row t), a6, a7, a8, some (.num k), none, none, a12, a13, a14] => nxS [a0, a1, a2, a3, a4, some (.row (.drp t k)), a6, a7, a8, some (.num k), none, none, a12, a13, a14] h
  | _ => .bad
def setRow : RunS := fun m h => match m with
  | [none, some (.ref 0), a2, none, none, none, none, none, none, none, none, none, none, none, none] => nxS [none, some (.ref 0), a2, none, none, some (.row (.base h.nxt)), none, none, none, none, none, none, none, none, none] (bump h)
  | _ => .bad
def m0 : MS := [none, some (.ref 0), none, none, none, none, none, none, none, none, none, none, none, none, none]
def h0 : MH := ⟨1, [(0, .bag)]⟩
def rAbsRow : RunS := fun m h => match m, h with
  | [none, some (.ref 0), none, none, none, none, none, none, none, none, none, none, none, none, none], ⟨1, [(0, .bag)]⟩ => runSeq (runAsg (fun _ h => runNewM 4 (runDef 0 r_Workshop_init) [] h) (gNm 2)) setRow m0 h0
  | _, _ => .bad
def l_body : RunS := runSeq rAbsNum (runSeq l_6c (runSeq rAbsDrop l_6g))
def l_6 : RunS := runFor l_6it (gNm 7) l_body
def r_law : RunS := runSeq rAbsRow (runSeq l_4 (runSeq l_5 (runSeq l_6 (runSeq l_7 (runSeq l_8 (runSeq l_9 (runSeq l_10 l_11)))))))
end
def isTrS : SR → Bool
  | .rt (.bl true) _ => true
  | _ => false
end WK
set_option Elab.async false
set_option linter.all false
set_option maxRecDepth 100000
set_option maxHeartbeats 0
/-! the drawn number -/
namespace WK
noncomputable section
open PySem PySem.Spec PyProof.Rows L2
abbrev pulA (i : Nat) (n : RunE) : RunE := runArgs (runCons (runVar i) (runCons n runNil)) (runF false [] runPullA)
theorem bl_ret {α : Type} {vs : List MV} {h : MH} {f : List MV → MH → Tr α} {g : MV → MH → Tr α} : Tr.bl (.ret (.ok vs h)) f g = f vs h := rfl
theorem pulA_run {m : MS} {h : MH} {i l : Nat} {n : Int} {N : RunE} (e : h.get l = some .bag) (g0 : getS m i = some (.ref l)) (hN : N m h = okE (.int n) h) (h0 : 0 < n) (h1 : n ≤ 1000000000) : pulA i N m h = .ask n fun r => okE (.int r) h := by
  have v0 : runVar i m h = okE (.ref l) h := by unfold runVar; rw [g0]
  simp only [runArgs, runCons, runNil, v0, be_okE, hN, bl_ret]
  exact pullA_lit e h0 h1
theorem be_wp {α : Type} {t : Tr ER} {f g : MV → MH → Tr α} {Q : α → Prop} (w : t.wp fun r => ∃ v h', r = .ok v h' ∧ (f v h').wp Q) : (t.be f g).wp Q := (Tr.wp_bind _ _ _).mpr (Tr.wp_mono w fun r ⟨v, h', e, q⟩ => by subst e; exact q)
theorem bl_wp {α : Type} {t : Tr EL} {f : List MV → MH → Tr α} {g : MV → MH → Tr α} {Q : α → Prop} (w : t.wp fun r => ∃ v h', r = .ok v h' ∧ (f v h').wp Q) : (Tr.bl t f g).wp Q := (Tr.wp_bind _ _ _).mpr (Tr.wp_mono w fun r ⟨v, h', e, q⟩ => by subst e; exact q)
theorem seq_wp {f g : RunS} {m : MS} {h : MH} {Q : SR → Prop} (w : (f m h).wp fun r => ∃ m' h', r = .nx m' h' ∧ (g m' h').wp Q) : (runSeq f g m h).wp Q := (Tr.wp_bind _ _ _).mpr (Tr.wp_mono w fun r ⟨v, h', e, q⟩ => by subst e; exact q)
theorem asg_wp {f : RunE} {m : MS} {h : MH} {i : Nat} {Q : SR → Prop} (w : (f m h).wp fun r => ∃ v h', r = .ok v h' ∧ Q (.nx (setS m i v) h')) : (runAsg f (gNm i) m h).wp Q := be_wp w
theorem run2_wp {f g : RunE} {op : MV → MV → MH → Tr ER} {m : MS} {h : MH} {Q : ER → Prop} (w : (f m h).wp fun r => ∃ x h1, r = .ok x h1 ∧ (g m h1).wp fun r => ∃ y h2, r = .ok y h2 ∧ (op x y h2).wp Q) : (run2 f g op m h).wp Q := be_wp (Tr.wp_mono w fun r ⟨v, h', e, q⟩ => ⟨v, h', e, be_wp q⟩)
theorem args_wp {f : RunL} {k : List MV → MH → Tr ER} {m : MS} {h : MH} {Q : ER → Prop} (w : (f m h).wp fun r => ∃ xs h1, r = .ok xs h1 ∧ (k xs h1).wp Q) : (runArgs f k m h).wp Q := bl_wp w
theorem cons_wp {f : RunE} {g : RunL} {m : MS} {h : MH} {Q : EL → Prop} (w : (f m h).wp fun r => ∃ x h1, r = .ok x h1 ∧ (g m h1).wp fun r => ∃ xs h2, r = .ok xs h2 ∧ Q (.ok (x :: xs) h2)) : (runCons f g m h).wp Q := be_wp (Tr.wp_mono w fun r ⟨v, h', e, q⟩ => ⟨v, h', e, bl_wp q⟩)
theorem var_wp {i : Nat} {m : MS} {h : MH} {x : MV} {Q : ER → Prop} (g : getS m i = some x) (q : Q (.ok x h)) : (runVar i m h).wp Q := by
  unfold runVar
  rw [g]; exact q
theorem of_run {h : MH} {l : Nat} {a b : Int} (e : h.get l = some .bag) : (runDef 0 r_of [.ref l, .lst [.int a, .int b]] h).wp fun r => ∃ x, (x = a ∨ x = b) ∧ r = .ok (.int x) h := by
  have q : runArgs (runCons (runVar 0) (runCons (runArgs (runCons (runVar 1) runNil) kLen) runNil)) (runF false [] runPullA) [some (.ref l), some (.lst [.int a, .int b])] h = .ask 2 fun r => okE (.int r) h := pulA_run e rfl rfl (by decide) (by decide)
  show ((r_of [some (.ref l), some (.lst [.int a, .int b])] h).bind _).wp _
  refine (Tr.wp_bind _ _ _).mpr ?_
  refine be_wp ?_
  refine run2_wp ?_
  refine ⟨_, h, rfl, ?_⟩
  rw [q]
  intro r r0 r1
  refine ⟨_, h, rfl, ?_⟩
  rcases (show r = 0 ∨ r = 1 from by omega) with rfl | rfl
  · exact ⟨_, h, rfl, a, .inl rfl, rfl⟩
  · exact ⟨_, h, rfl, b, .inr rfl, rfl⟩
theorem one9 : ("9" : Str).length = 1 := by decide
theorem mul9 {h : MH} {r : Int} (r0 : 0 ≤ r) (r1 : r < 9) : opMulS (.str "9") (.int (1 + r)) h = okE (.str (mulS "9" (1 + r))) h := by
  show ifT (Nat.beq ("9" : Str).length 1 && (decide ((1 : Int) ≤ 1 + r) && decide (1 + r ≤ 100))) _ = _
  rw [decide_eq_true (by omega), decide_eq_true (by omega)]
  rfl
theorem nine_int {h : MH} {r : Int} (r0 : 0 ≤ r) (r1 : r < 9) : ∃ p : Int, 0 < p ∧ p < 1000000000 ∧ kIntT [.str (mulS "9" (1 + r))] h = okE (.int p) h := by
  obtain ⟨j, rfl⟩ : ∃ j : Nat, r = j := ⟨r.toNat, by omega⟩
  have z := nines ⟨j, by omega⟩
  dsimp only at z
  split at z
  · rename_i n e
    obtain ⟨z1, z2⟩ := Bool.and_eq_true_iff.mp z
    have z1 : n = 10 ^ (j + 1) - 1 := of_decide_eq_true z1
    have q : j + 1 ≤ 9 := by omega
    have b1 : (10 : Nat) ^ 1 ≤ 10 ^ (j + 1) := Nat.pow_le_pow_right (by decide) (by omega)
    have b2 : (10 : Nat) ^ (j + 1) ≤ 10 ^ 9 := Nat.pow_le_pow_right (by decide) q
    have c : (((10 : Nat) ^ (j + 1) : Nat) : Int) = (10 : Int) ^ (j + 1) := by push_cast; rfl
    refine ⟨n, by omega, by omega, ?_⟩
    show ifT (leB (mulS "9" (1 + (j : Int))).length 640) (match intText? (mulS "9" (1 + (j : Int))) with
      | some n => okE (.int n) h
      | none => .bad) = _
    rw [z2, e]; rfl
  · cases z
theorem num_tree {h : MH} {l : Nat} (e : h.get l = some .bag) {a0 a2 a3 a4 a5 a6 a7 a9 a10 a11 a12 a13 a14 : Option MV} : (runSeq l_6a l_6b [a0, some (.ref l), a2, a3, a4, a5, a6, a7, none, a9, a10, a11, a12, a13, a14] h).wp fun r => ∃ x n : Int, 0 ≤ n ∧ n < 1000000000 ∧ r = .nx [a0, some (.ref l), a2, a3, a4, a5, a6, a7, some (.int x), some (.int n), a10, a11, a12, a13, a14] h := by
  refine seq_wp ?_
  refine asg_wp ?_
  refine run2_wp ?_
  refine ⟨.int 1, h, rfl, ?_⟩
  show (pulA 1 (cI 9) _ h).wp _
  rw [pulA_run (n := 9) e rfl rfl (by decide) (by decide)]
  intro r r0 r1
  refine ⟨.int r, h, rfl, ?_⟩
  rw [add_in]
  refine ⟨_, h, rfl, ?_⟩
  refine ⟨_, h, rfl, ?_⟩
  show (l_6b [a0, some (.ref l), a2, a3, a4, a5, a6, a7, some (.int (1 + r)), a9, a10, a11, a12, a13, a14] h).wp _
  obtain ⟨p, p0, p1, hp⟩ := nine_int (h := h) r0 r1
  have N : runArgs (runCons (run2 (cS "9") (runVar 8) opMulS) runNil) kIntT [a0, some (.ref l), a2, a3, a4, a5, a6, a7, some (.int (1 + r)), a9, a10, a11, a12, a13, a14] h = okE (.int p) h := by
    refine (args_run (xs := [.str (mulS "9" (1 + r))]) (cons_run ?_ nil_run)).trans hp
    exact (run2_run (x := .str "9") (y := .int (1 + r)) rfl rfl).trans (mul9 r0 r1)
  refine asg_wp ?_
  refine run2_wp ?_
  rw [N]
  refine ⟨_, h, rfl, ?_⟩
  refine args_wp ?_
  refine cons_wp ?_
  refine ⟨.ref l, h, rfl, ?_⟩
  refine cons_wp ?_
  refine args_wp ?_
  refine cons_wp ?_
  refine ⟨.int 0, h, rfl, ?_⟩
  refine cons_wp ?_
  rw [show runArgs (runCons (runVar 1) (runCons (runArgs (runCons (run2 (cS "9") (runVar 8) opMulS) runNil) kIntT) runNil)) (runF false [] runPullA) = pulA 1 (runArgs (runCons (run2 (cS "9") (runVar 8) opMulS) runNil) kIntT) from rfl, pulA_run (n := p) e rfl N p0 (by omega)]
  intro c c0 c1
  refine ⟨.int c, h, rfl, ?_⟩
  refine ⟨[], h, rfl, ?_⟩
  refine ⟨[.int c], h, rfl, ?_⟩
  refine ⟨[.int 0, .int c], h, rfl, ?_⟩
  refine ⟨.lst [.int 0, .int c], h, rfl, ?_⟩
  refine ⟨[], h, rfl, ?_⟩
  refine ⟨[.lst [.int 0, .int c]], h, rfl, ?_⟩
  refine ⟨[.ref l, .lst [.int 0, .int c]], h, rfl, ?_⟩
  refine Tr.wp_mono (of_run (a := 0) (b := c) e) fun r ⟨x, hx, er⟩ => ?_
  subst er
  refine ⟨_, h, rfl, ?_⟩
  refine ⟨.int (p - x), h, rfl, ?_⟩
  exact ⟨1 + _, p - x, by rcases hx with rfl | rfl <;> omega, by rcases hx with rfl | rfl <;> omega, rfl⟩
section
variable {T : Tb} {K : PySem.W.Frag} {E : XW}
theorem num_ref (D : Ends) (σ : L2.St) (H : Hp) (w : tS T K E rAbsNum D σ H) : tS T K E (runSeq l_6a l_6b) D σ H := by
  obtain ⟨ρ, m, h, s1, s2, w⟩ := w
  refine ⟨ρ, m, h, s1, s2, ?_⟩
  unfold rAbsNum at w
  split at w
  · split at w
    · rename_i e
      refine Tr.wp_mono (num_tree e) fun r ⟨x, n, n0, n1, er⟩ => ?_
      subst er
      intro ρ' H' σ' l s d
      refine w (rhoV ρ' _ (.int n)) H' σ' (l.trans (Le.atom s)) s.atom ?_
      have d1 := (d.leA (Le.atom (v := .int n) s)).forget 8
      exact d1.swap (i := 9) (x := .int n) rfl fun v dv => by cases dv; exact .num rhoV_at n0 n1
    · exact w.elim
  · exact w.elim
end
end
end WK
set_option Elab.async false
set_option linter.all false
set_option maxRecDepth 100000
set_option maxHeartbeats 0
/-! the law's own reckoning of a drop -/
namespace WK
noncomputable section
open PySem PySem.Spec PyProof.Rows L2
section
variable {h : MH} {hd cy : List Int} {n : Nat} {a0 a1 a2 a3 a4 a6 a7 a8 a12 a13 a14 : Option MV}
abbrev mD (a0 a1 a2 a3 a4 a6 a7 a8 a12 a13 a14 : Option MV) (r : MV) (n : Nat) (x y : Option MV) : MS := [a0, a1, a2, a3, a4, some r, a6, a7, a8, some (.int (n : Int)), x, y, a12, a13, a14]
theorem rd0 {x y : Option MV} : run2 (runVar 5) (cI 0) opIxA (mD a0 a1 a2 a3 a4 a6 a7 a8 a12 a13 a14 (rowM hd cy) n x y) h = okE (tI_ hd) h := by
  rw [run2_run (x := rowM hd cy) (y := .int 0) rfl rfl]; exact ix0
theorem rd1 {x y : Option MV} : run2 (runVar 5) (cI 1) opIxA (mD a0 a1 a2 a3 a4 a6 a7 a8 a12 a13 a14 (rowM hd cy) n x y) h = okE (tI_ cy) h := by
  rw [run2_run (x := rowM hd cy) (y := .int 1) rfl rfl]; exact ix1
theorem rln {m : MS} {f : RunE} {xs : List Int} (e : f m h = okE (tI_ xs) h) : runArgs (runCons f runNil) kLen m h = okE (.int xs.length) h := by
  rw [args_run (cons_run e nil_run)]; exact len_tI
abbrev leadN (n l : Nat) : Nat := if l < n then l else n
theorem st_6d : l_6d (mD a0 a1 a2 a3 a4 a6 a7 a8 a12 a13 a14 (rowM hd cy) n none none) h = nxS (mD a0 a1 a2 a3 a4 a6 a7 a8 a12 a13 a14 (rowM hd cy) n (some (.int (leadN n hd.length : Nat))) none) h := by
  unfold l_6d
  rw [asg_nm (v := .int (leadN n hd.length : Nat)) ?_]
  · rfl
  · rw [args_run (cons_run (x := .int (n : Int)) rfl (cons_run (rln rd0) nil_run))]
    show okE (.int (minI (n : Int) (hd.length : Int))) h = _
    congr 2
    unfold minI leadN
    split <;> split <;> omega
theorem mod_natI {a b : Nat} (hb : 1 ≤ b) : opMod (.int a) (.int b) h = okE (.int ((a % b : Nat) : Int)) h := mod_nat hb
abbrev spotN (n l c : Nat) : Nat := (n - leadN n l) % c
theorem st_6e (hc : cy ≠ []) : l_6e (mD a0 a1 a2 a3 a4 a6 a7 a8 a12 a13 a14 (rowM hd cy) n (some (.int (leadN n hd.length : Nat))) none) h = nxS (mD a0 a1 a2 a3 a4 a6 a7 a8 a12 a13 a14 (rowM hd cy) n (some (.int (leadN n hd.length : Nat))) (some (.int (spotN n hd.length cy.length : Nat)))) h := by
  unfold l_6e
  rw [asg_nm (v := .int (spotN n hd.length cy.length : Nat)) ?_]
  · rfl
  · have cl : 1 ≤ cy.length := List.length_pos_iff.mpr hc
    rw [run2_run (x := .int ((n - leadN n hd.length : Nat) : Int)) ?_ (rln rd1)]
    · exact mod_nat cl
    · rw [run2_run (x := .int (n : Int)) (y := .int (leadN n hd.length : Nat)) rfl rfl]
      show okE (.int ((n : Int) - (leadN n hd.length : Nat))) h = _
      congr 2
      unfold leadN
      split <;> omega
theorem st_6f (hc : cy ≠ []) (h1 : hd.length ≤ 8) (h2 : cy.length ≤ 8) : l_6f (mD a0 a1 a2 a3 a4 a6 a7 a8 a12 a13 a14 (rowM hd cy) n (some (.int (leadN n hd.length : Nat))) (some (.int (spotN n hd.length cy.length : Nat)))) h = nxS (mD a0 a1 a2 a3 a4 a6 a7 a8 a12 a13 a14 (rowM (dropL hd cy n).1 (dropL hd cy n).2) n (some (.int (leadN n hd.length : Nat))) (some (.int (spotN n hd.length cy.length : Nat)))) h := by
  have cl : 1 ≤ cy.length := List.length_pos_iff.mpr hc
  have q : spotN n hd.length cy.length < cy.length := Nat.mod_lt _ cl
  have e : dropL hd cy n = normL (hd.drop (leadN n hd.length)) (cy.drop (spotN n hd.length cy.length) ++ cy.take (spotN n hd.length cy.length)) := by
    unfold dropL
    by_cases z : n < hd.length
    · rw [decide_eq_true (by omega : (n : Int) < hd.length)]
      have e1 : leadN n hd.length = n := if_neg (by omega)
      have e2 : spotN n hd.length cy.length = 0 := by unfold spotN; rw [e1, Nat.sub_self, Nat.zero_mod]
      rw [e1, e2]
      simp
    · rw [decide_eq_false (by omega : ¬ (n : Int) < hd.length)]
      have e1 : leadN n hd.length = hd.length := by unfold leadN; split <;> omega
      have e2 : (((n : Int) - (hd.length : Int)) % (cy.length : Int)).toNat = spotN n hd.length cy.length := by
        unfold spotN
        rw [e1, show (n : Int) - (hd.length : Int) = ((n - hd.length : Nat) : Int) from by omega, ← Int.natCast_emod, Int.toNat_natCast]
      dsimp only
      rw [e2, e1, List.drop_length]
  unfold l_6f
  rw [asg_nm (v := rowM (dropL hd cy n).1 (dropL hd cy n).2) ?_]
  · rfl
  · rw [args_run (cons_run (tup_run (cons_run (slR_from rd0 (k := leadN n hd.length) rfl) (cons_run (x := tI_ (cy.drop (spotN n hd.length cy.length) ++ cy.take (spotN n hd.length cy.length))) ?_ nil_run))) nil_run)]
    · rw [e]
      refine normC_run (fun z => ?_) (by rw [List.length_drop]; omega) (by rw [List.length_append, List.length_drop, List.length_take]; omega)
      have z2 := congrArg List.length z
      rw [List.length_append, List.length_drop, List.length_take, List.length_nil] at z2
      omega
    · rw [run2_run (slR_from rd1 (k := spotN n hd.length cy.length) rfl) (slR_to rd1 (k := spotN n hd.length cy.length) rfl)]
      exact add_tI (by rw [List.length_drop, List.length_take]; omega)
theorem drop_tree (hc : cy ≠ []) (h1 : hd.length ≤ 8) (h2 : cy.length ≤ 8) : runSeq l_6d (runSeq l_6e l_6f) (mD a0 a1 a2 a3 a4 a6 a7 a8 a12 a13 a14 (rowM hd cy) n none none) h = nxS (mD a0 a1 a2 a3 a4 a6 a7 a8 a12 a13 a14 (rowM (dropL hd cy n).1 (dropL hd cy n).2) n (some (.int (leadN n hd.length : Nat))) (some (.int (spotN n hd.length cy.length : Nat)))) h := by
  rw [seq_nx st_6d, seq_nx (st_6e hc), st_6f hc h1 h2]
end
section
variable {T : Tb} {K : PySem.W.Frag} {E : XW}
theorem row_is {ρ : Rho} {M : Addr → Prop} {H : Hp} {t : RT} {v : V} (d : Den T K ρ M H (.row t) v) : ∃ hd cy, evalR ρ.sv t = some (hd, cy) ∧ RowOk hd cy := by
  cases d with
  | row ev ok dr => exact ⟨_, _, ev, ok⟩
theorem num_is {ρ : Rho} {M : Addr → Prop} {H : Hp} {k : Nat} {v : V} (d : Den T K ρ M H (.num k) v) : ∃ n : Nat, ρ.sv k = some (.int n) ∧ n < 1000000000 := by
  cases d with
  | num e n0 n1 =>
    obtain ⟨j, rfl⟩ := Int.eq_ofNat_of_zero_le n0
    exact ⟨j, e, by omega⟩
theorem drop_ref (D : Ends) (σ : L2.St) (H : Hp) (w : tS T K E rAbsDrop D σ H) : tS T K E (runSeq l_6d (runSeq l_6e l_6f)) D σ H := by
  obtain ⟨ρ, m, h, s1, s2, w⟩ := w
  unfold rAbsDrop at w
  split at w
  · rename_i a0 a1 a2 a3 a4 t a6 a7 a8 k a12 a13 a14
    obtain ⟨v5, _, d5⟩ := s2.at_ 5 _ rfl
    obtain ⟨v9, _, d9⟩ := s2.at_ 9 _ rfl
    obtain ⟨hd, cy, ev, ok⟩ := row_is d5
    obtain ⟨n, en, n1⟩ := num_is d9
    have s3 := s2.swap (i := 5) (y := rowM hd cy) rfl fun v dv => by
      cases dv with
      | row ev' ok' dr => rw [ev] at ev'; cases ev'; exact dr
    have s4 := s3.swap (i := 9) (x := .num k) (y := .int (n : Int)) rfl fun v dv => by
      cases dv with
      | num e' _ _ => rw [en] at e'; cases e'; exact .int _
    refine ⟨ρ, mD a0 a1 a2 a3 a4 a6 a7 a8 a12 a13 a14 (rowM hd cy) n none none, h, s1, s4, ?_⟩
    rw [drop_tree ok.ne ok.h8 ok.c8]
    intro ρ' H' σ' l s d
    refine w ρ' H' σ' l s ?_
    have d1 := (d.forget 10).forget 11
    have d2 := d1.swap (i := 5) (x := rowM (dropL hd cy n).1 (dropL hd cy n).2) (y := .row (.drp t k)) rfl fun v dv => by
      obtain ⟨a, vs, rfl, _⟩ := den_tup dv
      refine .row ?_ (drop_ok ok n) dv
      unfold evalR
      rw [evalR_mono l.exv ev, l.exv _ _ en]
    exact d2.swap (i := 9) (x := .int (n : Int)) (y := .num k) rfl fun v dv => by
      cases dv
      exact .num (l.exv _ _ en) (by omega) (by omega)
  · exact w.elim
end
end
end WK
set_option Elab.async false
set_option linter.all false
set_option maxRecDepth 100000
set_option maxHeartbeats 0
/-! the drawn row -/
namespace WK
noncomputable section
open PySem PySem.Spec PyProof.Rows L2
theorem bd_int {c : Int} (h0 : 0 ≤ c) (h1 : c ≤ 1000) : bd62 c = true := by
  unfold bd62
  rw [decide_eq_true (by omega), decide_eq_true (by omega)]
  rfl
theorem rng1_wp {f : RunL} {m : MS} {h : MH} {Q : EL → Prop} (w : (f m h).wp fun r => ∃ a : Int, ∃ h1, r = .ok [.int a] h1 ∧ bd62 a = true ∧ Q (.ok (rngM 0 a.toNat) h1)) : (runRng1 f m h).wp Q := bl_wp (Tr.wp_mono w fun r ⟨a, h1, e, ha, q⟩ => ⟨_, h1, e, by
  dsimp only
  rw [ha]
  exact q⟩)
theorem par_wp {f : RunL} {m : MS} {h : MH} {i j : Nat} {Q : SR → Prop} (w : (f m h).wp fun r => ∃ x y h1, r = .ok [x, y] h1 ∧ Q (.nx (setS (setS m i x) j y) h1)) : (runPar i j f m h).wp Q := bl_wp (Tr.wp_mono w fun r ⟨x, y, h1, e, q⟩ => ⟨_, h1, e, q⟩)
abbrev bitR : RunE := pulA 1 (cI 2)
abbrev m15 (a2 a3 a4 a14 : Option MV) : MS := [none, some (.ref 0), a2, a3, a4, none, none, none, none, none, none, none, none, none, a14]
section
variable {h : MH} (e : h.get 0 = some .bag) {a2 a3 a4 : Option MV}
include e
theorem bits_loop : ∀ (n : Nat) (lo : Int) (acc : List MV), (loopC (gNm 14) yesR bitR (rngM lo n) (m15 a2 a3 a4 none) h acc).wp fun r => ∃ zs : List Int, zs.length = n ∧ (∀ z ∈ zs, z = 0 ∨ z = 1) ∧ r = .ok (acc.reverse ++ zs.map .int) h
  | 0, lo, acc => ⟨[], rfl, ⟨(fun z hz => by cases hz), by simp⟩⟩
  | n + 1, lo, acc => by
    show ((bitR (m15 a2 a3 a4 (some (.int lo))) h).be (fun y h3 => loopC (gNm 14) yesR bitR (rngM (lo + 1) n) (m15 a2 a3 a4 none) h3 (y :: acc)) (fun _ _ => .bad)).wp _
    refine be_wp ?_
    rw [show bitR (m15 a2 a3 a4 (some (.int lo))) h = _ from pulA_run (n := 2) (N := cI 2) e rfl rfl (by decide) (by decide)]
    intro r r0 r1
    refine ⟨.int r, h, rfl, Tr.wp_mono (bits_loop n (lo + 1) (.int r :: acc)) fun q ⟨zs, h1, h2, h3⟩ => ⟨r :: zs, congrArg (· + 1) h1, fun y hy => ?_, by rw [h3]; simp⟩⟩
    rcases List.mem_cons.mp hy with q | q
    · rw [q]; omega
    · exact h2 y q
theorem bits_tree {it : RunI} {P : Nat → Prop} (hi : (it (m15 a2 a3 a4 none) h).wp fun r => ∃ n : Nat, n ≤ 100 ∧ P n ∧ r = .ok (rngM 0 n) h) : (runArgs (runCons (runLc false it (gNm 14) yesR bitR) runNil) kTuple (m15 a2 a3 a4 none) h).wp fun r => ∃ zs : List Int, P zs.length ∧ (∀ z ∈ zs, z = 0 ∨ z = 1) ∧ r = .ok (tI_ zs) h := by
  refine args_wp ?_
  refine cons_wp ?_
  refine bl_wp ?_
  refine Tr.wp_mono hi fun r ⟨n, hn, pn, er⟩ => ?_
  subst er
  refine ⟨_, h, rfl, ?_⟩
  have hl : leB (rngM 0 n).length sizeLine = true := by
    rw [rngM_len]
    exact big (by omega)
  rw [hl]
  show (Tr.bl (loopC _ _ _ _ _ h []) _ _).wp _
  refine bl_wp (Tr.wp_mono (bits_loop e n 0 []) fun r ⟨zs, h1, h2, h3⟩ => ?_)
  subst h3
  refine ⟨_, h, rfl, ?_⟩
  refine ⟨.lst (zs.map .int), h, rfl, ?_⟩
  refine ⟨[], h, rfl, ?_⟩
  refine ⟨[.lst (zs.map .int)], h, rfl, ?_⟩
  exact ⟨zs, by rw [h1]; exact pn, h2, rfl⟩
end
def Q3 (h : MH) (x3 x4 : MV) (r : SR) : Prop := ∃ (hd' cy : List Int), RowOk hd' cy ∧ r = .nx [none, some (.ref 0), some (.ref 1), some x3, some x4, some (rowM hd' cy), none, none, none, none, none, none, none, none, none] h
theorem l3_tree {h : MH} (e : h.get 0 = some .bag) {s : Nat} {hd : List Int} (hj : s ≤ 7) (hj1 : 1 ≤ s) (h3 : hd.length ≤ 3) (hz : ∀ z ∈ hd, z = 0 ∨ z = 1) {x3 x4 : MV} (e3 : x3 = .int (s : Int)) (e4 : x4 = tI_ hd) : (l_3 (m15 (some (.ref 1)) (some x3) (some x4) none) h).wp (Q3 h x3 x4) := by
  unfold l_3
  refine asg_wp ?_
  refine args_wp ?_
  refine cons_wp ?_
  refine args_wp ?_
  refine cons_wp ?_
  refine ⟨x4, h, rfl, ?_⟩
  refine cons_wp ?_
  refine Tr.wp_mono (bits_tree e (P := fun n => n = s) ?_) ?_
  · refine rng1_wp ?_
    refine cons_wp ?_
    refine ⟨x3, h, rfl, ?_⟩
    refine ⟨[], h, rfl, ?_⟩
    exact ⟨(s : Int), h, by rw [e3], bd_int (by omega) (by omega), (s : Int).toNat, by omega, by omega, rfl⟩
  · rintro r ⟨cy, h4, hz2, er⟩
    subst er
    refine ⟨_, h, rfl, ?_⟩
    refine ⟨[], h, rfl, ?_⟩
    refine ⟨[tI_ cy], h, rfl, ?_⟩
    refine ⟨[x4, tI_ cy], h, rfl, ?_⟩
    refine ⟨.tup [x4, tI_ cy], h, rfl, ?_⟩
    refine ⟨[], h, rfl, ?_⟩
    refine ⟨[.tup [x4, tI_ cy]], h, rfl, ?_⟩
    have cn : cy ≠ [] := fun z => by rw [z, List.length_nil] at h4; omega
    show (runNormC [.tup [x4, tI_ cy]] h).wp _
    have q := normC_run (h := h) (hd := hd) cn (by omega) (by omega)
    rw [e4, q]
    refine ⟨_, h, rfl, (normL hd cy).1, (normL hd cy).2, norm_ok cn (by omega) (by omega) fun x hx => ?_, rfl⟩
    rcases List.mem_append.mp hx with q | q
    · exact hz x q
    · exact hz2 x q
def hW : MH := match runNewM 4 (runDef 0 r_Workshop_init) [] h0 with
  | .ret (.ok _ h) => h
  | _ => h0
theorem new_shop : runNewM 4 (runDef 0 r_Workshop_init) [] h0 = okE (.ref 1) hW := rfl
theorem get_hW : hW.get 0 = some .bag := rfl
theorem row_tree : (runSeq l_1 (runSeq l_2 l_3) m0 h0).wp fun r => ∃ (hd cy : List Int) (a3 a4 : Option MV), RowOk hd cy ∧ r = .nx [none, some (.ref 0), some (.ref 1), a3, a4, some (rowM hd cy), none, none, none, none, none, none, none, none, none] hW := by
  have e := get_hW
  refine seq_wp ?_
  unfold l_1
  refine par_wp ?_
  refine cons_wp ?_
  show (runNewM 4 (runDef 0 r_Workshop_init) [] h0).wp _
  rw [new_shop]
  refine ⟨_, hW, rfl, ?_⟩
  generalize hW = h at e ⊢
  refine cons_wp ?_
  refine run2_wp ?_
  refine ⟨.int 1, h, rfl, ?_⟩
  show (pulA 1 (cI 7) m0 h).wp _
  rw [pulA_run (n := 7) e rfl rfl (by decide) (by decide)]
  intro r r0 r1
  refine ⟨.int r, h, rfl, ?_⟩
  rw [add_in]
  refine ⟨_, h, rfl, ?_⟩
  refine ⟨[], h, rfl, ?_⟩
  refine ⟨[.int (1 + r)], h, rfl, ?_⟩
  refine ⟨.ref 1, .int (1 + r), h, rfl, ?_⟩
  obtain ⟨s, hs, hj, hj1⟩ : ∃ s : Nat, MV.int (1 + r) = MV.int (s : Int) ∧ s ≤ 7 ∧ 1 ≤ s := ⟨(1 + r).toNat, by rw [Int.toNat_of_nonneg (by omega)], by omega, by omega⟩
  generalize MV.int (1 + r) = x3 at hs
  refine ⟨m15 (some (.ref 1)) (some x3) none none, h, rfl, ?_⟩
  refine seq_wp ?_
  unfold l_2
  refine asg_wp ?_
  refine Tr.wp_mono (bits_tree e (P := fun n => n ≤ 3) ?_) ?_
  · refine rng1_wp ?_
    refine cons_wp ?_
    show (pulA 1 (cI 4) _ h).wp _
    rw [pulA_run (n := 4) e rfl rfl (by decide) (by decide)]
    intro c c0 c1
    refine ⟨.int c, h, rfl, ?_⟩
    refine ⟨[], h, rfl, ?_⟩
    exact ⟨c, h, rfl, bd_int c0 (by omega), c.toNat, by omega, by omega, rfl⟩
  · rintro r ⟨hd, h3, hz, er⟩
    subst er
    refine ⟨_, h, rfl, ?_⟩
    refine ⟨m15 (some (.ref 1)) (some x3) (some (tI_ hd)) none, h, rfl, ?_⟩
    refine Tr.wp_mono (l3_tree e (by omega) hj1 h3 hz hs rfl) ?_
    rintro r ⟨hd', cy, ok, er⟩
    exact ⟨hd', cy, _, _, ok, er⟩
section
variable {T : Tb} {K : PySem.W.Frag} {E : XW}
theorem evalR_base {sv : Nat → Option MV} {l : Nat} {hd cy : List Int} (e : sv l = some (rowM hd cy)) : evalR sv (.base l) = some (hd, cy) := by
  unfold evalR
  rw [e]
  dsimp only [rowM]
  rw [intsR_map, intsR_map]
theorem row_ref (D : Ends) (σ : L2.St) (H : Hp) (w : tS T K E rAbsRow D σ H) : tS T K E (runSeq l_1 (runSeq l_2 l_3)) D σ H := by
  obtain ⟨ρ, m, h, s1, s2, w⟩ := w
  refine ⟨ρ, m, h, s1, s2, ?_⟩
  unfold rAbsRow at w
  split at w
  · refine Tr.wp_mono row_tree fun r ⟨hd, cy, a3, a4, ok, er⟩ => ?_
    subst er
    intro ρ' H' σ' l s d
    have w : postS T K E ρ h0 H D (.nx [none, some (.ref 0), some (.ref 1), none, none, some (.row (.base hW.nxt)), none, none, none, none, none, none, none, none, none] (bump hW)) := w
    refine w (rhoV ρ' hW.nxt (rowM hd cy)) H' σ' (l.trans (Le.atom s)) s.atom ?_
    have d1 := ((d.leA (Le.atom (v := rowM hd cy) s)).forget 3).forget 4
    exact d1.swap (i := 5) (x := rowM hd cy) rfl fun v dv => by
      obtain ⟨a, vs, rfl, _⟩ := den_tup dv
      exact .row (evalR_base rhoV_at) ok dv
  · exact w.elim
end
end
end WK
set_option Elab.async false
set_option linter.all false
set_option maxRecDepth 100000
set_option maxHeartbeats 0
namespace WK
noncomputable section
open PySem PySem.Spec PyProof.Rows L2

theorem ss_body {P : Program} {w : World} {K : PySem.W.Frag} {mg : Str → Option Value} {base : Heap} {T : Tb} (hP : P = T.P) (hw : w = T.w) (c__law_normal : Cal T P w K mg base "_law_normal" 1 1 runNormC) (c__law_of : Cal T P w K mg base "_law_of" 2 2 (runDef 0 r_of)) (c__law_pull : Cal T P w K mg base "_law_pull" 1 2 runPullA) (hnm : T.nm = nm73) (m_int : mg "int" = none) (m_len : mg "len" = none) (m_min : mg "min" = none) (m_range : mg "range" = none) (m_str : mg "str" = none) (m_tuple : mg "tuple" = none) (mt_apply_all : MthP T P w K mg base 8 2 16 [(4, (runDef 4 r_Workshop_apply_all))]) (mt_row : MthP T P w K mg base 4 2 21 [(4, (runDef 0 r_Workshop_row))]) (mt_run : MthP T P w K mg base 13 2 11 [(3, (runDef 1 r_Console_run))]) (nw_Console : NewP T P w K mg base "Console" 1 3 2 (runDef 0 r_Console_init)) (nw_Workshop : NewP T P w K mg base "Workshop" 1 4 1 (runDef 0 r_Workshop_init)) {f : Addr} {cdv : Value} {A : Around} {outer : List Env} {s : Shared} {H : Hp} {EK : XK} {E : XW} (hr : Room 13 (A.deeper (envOfC "law" (defScope (top 89)) s.heap.objs.size f cdv)))
    (tk : Takes (cxOf (L2.CX P w) P w K mg base N_law "law" (defScope (top 89)) f cdv A outer s H EK) (wx T K E)) : SSs T (cxOf (L2.CX P w) P w K mg base N_law "law" (defScope (top 89)) f cdv A outer s H EK) E (forBody ((defBody (top 89)).getD 6 (.Pass ⟨0, 0, 0, 0⟩))) l_body :=
  ss_abs2 (ls_6a hP hw c__law_normal c__law_of c__law_pull hnm m_int m_len m_min m_range m_str m_tuple mt_apply_all mt_row mt_run nw_Console nw_Workshop hr tk) (ls_6b hP hw c__law_normal c__law_of c__law_pull hnm m_int m_len m_min m_range m_str m_tuple mt_apply_all mt_row mt_run nw_Console nw_Workshop hr tk) (ss_cons (ls_6c hP hw c__law_normal c__law_of c__law_pull hnm m_int m_len m_min m_range m_str m_tuple mt_apply_all mt_row mt_run nw_Console nw_Workshop hr tk) (ss_abs3 (ls_6d hP hw c__law_normal c__law_of c__law_pull hnm m_int m_len m_min m_range m_str m_tuple mt_apply_all mt_row mt_run nw_Console nw_Workshop hr tk) (ls_6e hP hw c__law_normal c__law_of c__law_pull hnm m_int m_len m_min m_range m_str m_tuple mt_apply_all mt_row mt_run nw_Console nw_Workshop hr tk) (ls_6f hP hw c__law_normal c__law_of c__law_pull hnm m_int m_len m_min m_range m_str m_tuple mt_apply_all mt_row mt_run nw_Console nw_Workshop hr tk) (ss_one (ls_6g hP hw c__law_normal c__law_of c__law_pull hnm m_int m_len m_min m_range m_str m_tuple mt_apply_all mt_row mt_run nw_Console nw_Workshop hr tk)) drop_ref)) num_ref
theorem ls_6 {P : Program} {w : World} {K : PySem.W.Frag} {mg : Str → Option Value} {base : Heap} {T : Tb} (hP : P = T.P) (hw : w = T.w) (c__law_normal : Cal T P w K mg base "_law_normal" 1 1 runNormC) (c__law_of : Cal T P w K mg base "_law_of" 2 2 (runDef 0 r_of)) (c__law_pull : Cal T P w K mg base "_law_pull" 1 2 runPullA) (hnm : T.nm = nm73) (m_int : mg "int" = none) (m_len : mg "len" = none) (m_min : mg "min" = none) (m_range : mg "range" = none) (m_str : mg "str" = none) (m_tuple : mg "tuple" = none) (mt_apply_all : MthP T P w K mg base 8 2 16 [(4, (runDef 4 r_Workshop_apply_all))]) (mt_row : MthP T P w K mg base 4 2 21 [(4, (runDef 0 r_Workshop_row))]) (mt_run : MthP T P w K mg base 13 2 11 [(3, (runDef 1 r_Console_run))]) (nw_Console : NewP T P w K mg base "Console" 1 3 2 (runDef 0 r_Console_init)) (nw_Workshop : NewP T P w K mg base "Workshop" 1 4 1 (runDef 0 r_Workshop_init)) {f : Addr} {cdv : Value} {A : Around} {outer : List Env} {s : Shared} {H : Hp} {EK : XK} {E : XW} (hr : Room 13 (A.deeper (envOfC "law" (defScope (top 89)) s.heap.objs.size f cdv)))
    (tk : Takes (cxOf (L2.CX P w) P w K mg base N_law "law" (defScope (top 89)) f cdv A outer s H EK) (wx T K E)) : SS T (cxOf (L2.CX P w) P w K mg base N_law "law" (defScope (top 89)) f cdv A outer s H EK) E ((defBody (top 89)).getD 6 (.Pass ⟨0, 0, 0, 0⟩)) l_6 :=
  s_for owns_cx rfl (i_range1 rfl m_range (a_cons ci a_nil rfl) rfl) (g_name sc_law.nd rfl (loc_by rfl) (.inl rfl)) (ss_body hP hw c__law_normal c__law_of c__law_pull hnm m_int m_len m_min m_range m_str m_tuple mt_apply_all mt_row mt_run nw_Console nw_Workshop hr tk) (fun _ => rfl)
theorem ss_law {P : Program} {w : World} {K : PySem.W.Frag} {mg : Str → Option Value} {base : Heap} {T : Tb} (hP : P = T.P) (hw : w = T.w) (c__law_normal : Cal T P w K mg base "_law_normal" 1 1 runNormC) (c__law_of : Cal T P w K mg base "_law_of" 2 2 (runDef 0 r_of)) (c__law_pull : Cal T P w K mg base "_law_pull" 1 2 runPullA) (hnm : T.nm = nm73) (m_int : mg "int" = none) (m_len : mg "len" = none) (m_min : mg "min" = none) (m_range : mg "range" = none) (m_str : mg "str" = none) (m_tuple : mg "tuple" = none) (mt_apply_all : MthP T P w K mg base 8 2 16 [(4, (runDef 4 r_Workshop_apply_all))]) (mt_row : MthP T P w K mg base 4 2 21 [(4, (runDef 0 r_Workshop_row))]) (mt_run : MthP T P w K mg base 13 2 11 [(3, (runDef 1 r_Console_run))]) (nw_Console : NewP T P w K mg base "Console" 1 3 2 (runDef 0 r_Console_init)) (nw_Workshop : NewP T P w K mg base "Workshop" 1 4 1 (runDef 0 r_Workshop_init)) {f : Addr} {cdv : Value} {A : Around} {outer : List Env} {s : Shared} {H : Hp} {EK : XK} {E : XW} (hr : Room 13 (A.deeper (envOfC "law" (defScope (top 89)) s.heap.objs.size f cdv)))
    (tk : Takes (cxOf (L2.CX P w) P w K mg base N_law "law" (defScope (top 89)) f cdv A outer s H EK) (wx T K E)) : SSs T (cxOf (L2.CX P w) P w K mg base N_law "law" (defScope (top 89)) f cdv A outer s H EK) E ((defBody (top 89)).drop 1) r_law :=
  ss_abs3 (ls_1 hP hw c__law_normal c__law_of c__law_pull hnm m_int m_len m_min m_range m_str m_tuple mt_apply_all mt_row mt_run nw_Console nw_Workshop hr tk) (ls_2 hP hw c__law_normal c__law_of c__law_pull hnm m_int m_len m_min m_range m_str m_tuple mt_apply_all mt_row mt_run nw_Console nw_Workshop hr tk) (ls_3 hP hw c__law_normal c__law_of c__law_pull hnm m_int m_len m_min m_range m_str m_tuple mt_apply_all mt_row mt_run nw_Console nw_Workshop hr tk) (ss_cons (ls_4 hP hw c__law_normal c__law_of c__law_pull hnm m_int m_len m_min m_range m_str m_tuple mt_apply_all mt_row mt_run nw_Console nw_Workshop hr tk) (ss_cons (ls_5 hP hw c__law_normal c__law_of c__law_pull hnm m_int m_len m_min m_range m_str m_tuple mt_apply_all mt_row mt_run nw_Console nw_Workshop hr tk) (ss_cons (ls_6 hP hw c__law_normal c__law_of c__law_pull hnm m_int m_len m_min m_range m_str m_tuple mt_apply_all mt_row mt_run nw_Console nw_Workshop hr tk) (ss_cons (ls_7 hP hw c__law_normal c__law_of c__law_pull hnm m_int m_len m_min m_range m_str m_tuple mt_apply_all mt_row mt_run nw_Console nw_Workshop hr tk) (ss_cons (ls_8 hP hw c__law_normal c__law_of c__law_pull hnm m_int m_len m_min m_range m_str m_tuple mt_apply_all mt_row mt_run nw_Console nw_Workshop hr tk) (ss_cons (ls_9 hP hw c__law_normal c__law_of c__law_pull hnm m_int m_len m_min m_range m_str m_tuple mt_apply_all mt_row mt_run nw_Console nw_Workshop hr tk) (ss_cons (ls_10 hP hw c__law_normal c__law_of c__law_pull hnm m_int m_len m_min m_range m_str m_tuple mt_apply_all mt_row mt_run nw_Console nw_Workshop hr tk) (ss_one (ls_11 hP hw c__law_normal c__law_of c__law_pull hnm m_int m_len m_min m_range m_str m_tuple mt_apply_all mt_row mt_run nw_Console nw_Workshop hr tk))))))))) row_ref
end
end WK
set_option Elab.async false
set_option linter.all false
set_option maxRecDepth 100000
set_option maxHeartbeats 0
namespace WK
open PySem PySem.Spec PyProof.Rows L2
theorem law_run : Tr.chk isTrS (r_law m0 h0) = true := by decide +kernel
end WK
set_option Elab.async false
set_option linter.all false
set_option maxRecDepth 100000
set_option maxHeartbeats 0
namespace WK
noncomputable section
open PySem PySem.Spec PyProof.Rows L2

section
variable {T : Tb} {K : PySem.W.Frag} {H : Hp}
def spBag (K : PySem.W.Frag) : Sp := fun vs H Q _ => ∃ (a : Addr) (ns : List Int), vs = [.ref a] ∧ SqL K H a (ns.map V.int) ∧ ∀ (p b : Addr) (ms : List Int) (q : Int) (H' : Hp), (∀ x o, H x = some o → H' x = some o) → H' p = some (.lst [.ref b, .int 0, .int 0, .int q]) → H' b = some (.lst (ms.map V.int)) → H p = none → b ≠ p → H b = none → 0 ≤ q → q < 2147483563 → Q (.ref p) H'
abbrev N_bag : List Str := ["_law_script", "_law_salt", "_law_cell"]
theorem sc_bag : FnScope N_bag ["_law_script"] (defScope (top 85)) := ⟨rfl, rfl, rfl, by decide +kernel, rfl, by decide +kernel, by decide +kernel⟩
abbrev rdSl (K : PySem.W.Frag) : TE := tSl (rSlL K) (tVar 0) tNoPart (tPart (tC (.int 63)))
abbrev rdSalt : TE := tOp (rI (fun _ j => j ≠ 0) fun i j => .int (i.fmod j)) (tOp (rI0 fun i j => .int (i + j)) (tOp (rI0 fun i j => .int (i + j)) (tOp (rI CMul fun i j => .int (i * j)) (tVar 1) (tC (.int 40014))) (tOp (rI (fun _ j => j ≠ 0) fun i j => .int (i.fmod j)) (tVar 2) (tC (.int 2147483563)))) (tC (.int 13))) (tC (.int 2147483563))
abbrev rdNew (K : PySem.W.Frag) : TE := tLst (tCons (tCB (fun xs H Q => ∃ p ys, xs = [.ref p] ∧ (SqL K H p ys ∨ SqT K H p ys) ∧ ∀ l, H l = none → Q (.ref l) (upd H l (.lst ys))) (tCons (rdSl K) tNil)) (tCons (tC (.int 0)) (tCons (tC (.int 0)) (tCons (tVar 1) tNil))))
def tBag (K : PySem.W.Frag) : TS := tSeq (tAsg (tC (.int 3803)) (gName 1)) (tSeq (tFor (iList K (rdSl K)) (gName 2) (tAsg rdSalt (gName 1))) (tRet (rdNew K)))
theorem cut_map (ns : List Int) (lo hi : Option Int) : ∃ ms : List Int, cutV (ns.map V.int) lo hi = ms.map V.int := ⟨_, by unfold cutV; rw [← List.map_drop, ← List.map_take]⟩
theorem bag_pure (vs : List V) (Q : VK) (E : XK) (h : spBag K vs H Q E) : tBag K { nx := fun _ H' => Q .non H', rt := Q } (start N_bag vs) H := by
  obtain ⟨a, ns, rfl, hs, k⟩ := h
  unfold tBag
  show tSeq (tFor (iList K (rdSl K)) (gName 2) (tAsg rdSalt (gName 1))) (tRet (rdNew K)) _ [some (.ref a), some (.int 3803), none] H
  obtain ⟨ms, hms⟩ := cut_map ns none (some 63)
  have kp : ∀ {p : Addr} {u : HO}, H p = none → ∀ x o, H x = some o → upd H p u x = some o := fun {p u} n x o e => by rw [upd_ne (ne_of_none e n)]; exact e
  have sqk : ∀ {H' : Hp}, (∀ x o, H x = some o → H' x = some o) → SqL K H' a (ns.map V.int) := fun {H'} x => hs.imp (fun q => q.imp (fun q => x _ _ q) fun ⟨o, q⟩ => ⟨o, x _ _ q⟩) id
  show tFor _ _ _ { nx := fun σ' H' => tRet (rdNew K) { nx := fun _ H' => Q .non H', rt := Q } σ' H', rt := Q } _ H
  refine ⟨.ref a, rfl, 63, rfl, a, _, rfl, hs, fun s ns' => ⟨s, rfl, ⟨_, SqL.of upd_same⟩, ?_⟩⟩
  rw [hms]
  have xs := kp (u := .lst (ms.map V.int)) ns'
  revert xs
  have eS : upd H s (.lst (ms.map V.int)) s = some (.lst (ms.map V.int)) := upd_same
  have bk : ∀ b, upd H s (.lst (ms.map V.int)) b = none → H b = none := fun b e => by
    unfold upd at e
    split at e
    · cases e
    · exact e
  revert eS bk
  generalize upd H s (.lst (ms.map V.int)) = H1
  intro eS bk xs
  refine for_list (xs := ms.map V.int) (fun i σ' H' => H' = H1 ∧ ∃ q c, σ' = [some (.ref a), some (.int q), c] ∧ 0 ≤ q ∧ q < 2147483563) ⟨rfl, 3803, none, rfl, by decide, by decide⟩ (fun i σ' H' _ ⟨e, _⟩ => by rw [e]; exact SqL.of eS) (fun i x σ' H' hx ⟨e, q, c, e2, q0, q1⟩ => ?_) (fun σ' H' ⟨e, q, c, e2, q0, q1⟩ => ?_)
  · subst e2
    rw [e]
    obtain ⟨n, hn, rfl⟩ : ∃ n, ms[i]? = some n ∧ V.int n = x := by
      rw [List.getElem?_map] at hx
      exact Option.map_eq_some_iff.mp hx
    show rdSalt [some (.ref a), some (.int q), some (.int n)] H1 _
    exact ⟨.int q, rfl, q, 40014, rfl, rfl, .inr ⟨by decide, by decide⟩, .int n, rfl, n, 2147483563, rfl, rfl, (by decide : (2147483563 : Int) ≠ 0), _, _, rfl, rfl, _, _, rfl, rfl, _, _, rfl, rfl, (by decide : (2147483563 : Int) ≠ 0), rfl, _, _, rfl, Int.fmod_nonneg_of_pos _ (by decide), Int.fmod_lt_of_pos _ (by decide)⟩
  · subst e2
    rw [e]
    show rdNew K [some (.ref a), some (.int q), c] H1 Q
    refine ⟨.ref a, rfl, 63, rfl, a, _, rfl, sqk xs, fun s2 n2 => ?_⟩
    rw [hms]
    refine ⟨s2, _, rfl, .inl (SqL.of upd_same), fun b nb => ⟨.int q, rfl, by show 4 ≤ sizeLine; decide, fun p np => ?_⟩⟩
    have nb1 : H1 b = none := by
      unfold upd at nb
      split at nb
      · cases nb
      · exact nb
    have np1 : upd H1 s2 (.lst (ms.map V.int)) p = none := by
      unfold upd at np ⊢
      split at np
      · cases np
      · exact np
    have bp : b ≠ p := fun z => by rw [z, upd_same] at np; cases np
    have np2 : H1 p = none := by
      unfold upd at np1
      split at np1
      · cases np1
      · exact np1
    refine k p b ms q _ (fun x o ex => ?_) upd_same ?_ (bk _ np2) bp (bk _ nb1) q0 q1
    · have e1 := xs x o ex
      rw [upd_ne (ne_of_none (by rw [upd_ne (ne_of_none (by rw [upd_ne (ne_of_none e1 n2)]; exact e1) nb), upd_ne (ne_of_none e1 n2)]; exact e1) np), upd_ne (ne_of_none (by rw [upd_ne (ne_of_none e1 n2)]; exact e1) nb), upd_ne (ne_of_none e1 n2)]
      exact e1
    · rw [upd_ne bp]; exact upd_same
theorem bag_ok {P : Program} {w : World} {mg : Str → Option Value} {base : Heap} {f : Addr} {fd : FuncData} (F : FnP K "_law_bag" 85 f fd) (m_list : mg "list" = none) : FnOk P w K mg base (L2.CX P w) 1 f fd ["_law_script"] (spBag K) := by
  refine F.ok sc_bag (fun vs H Q E h => ?_) fun cdv A outer s H vs Q EK hr h => ⟨tBag K, ?_, bag_pure vs Q EK h⟩
  · obtain ⟨a, ns, rfl, _⟩ := h; rfl
  · exact pss_cons (ps_asg pe_int (pg_name sc_bag.nd rfl (loc_by rfl) (.inl rfl)) rfl rfl rfl)
      (pss_cons (ps_for owns_cx rfl (pi_list (pe_slice sl_list (pe_var rfl (vis_by rfl) rfl rfl) po_none (po_some pe_int))) (pg_name sc_bag.nd rfl (loc_by rfl) (.inl rfl))
        (pss_one (ps_asg (pe_op op_modN (pe_op op_add (pe_op op_add (pe_op op_mul (pe_var rfl (vis_by rfl) rfl rfl) pe_int) (pe_op op_modN (pe_var rfl (vis_by rfl) rfl rfl) pe_int)) pe_int) pe_int) (pg_name sc_bag.nd rfl (loc_by rfl) (.inl rfl)) rfl rfl rfl)) (fun _ => rfl))
      (pss_one (ps_ret (pe_lst (pa_cons (pe_callTy call_list_of rfl m_list (by decide +kernel) (pa_cons (pe_slice sl_list (pe_var rfl (vis_by rfl) rfl rfl) po_none (po_some pe_int)) pa_nil rfl)) (pa_cons pe_int (pa_cons pe_int (pa_cons (pe_var rfl (vis_by rfl) rfl rfl) pa_nil rfl) rfl) rfl) rfl)))))
end
/-- the law's promise -/
def spLaw (T : Tb) (K : PySem.W.Frag) : Sp := fun vs H Q _ => ∃ (a : Addr) (ns : List Int), vs = [.ref a] ∧ SqL K H a (ns.map V.int) ∧ (∀ p ∈ T.tabs, H p.1 = some (.tbl #[])) ∧ ∀ H', Q (.bl true) H'
def rho0 (p : Addr) : Rho := ⟨fun l => if l = 0 then some p else none, fun _ => False, fun _ => none⟩
theorem sim0 {T : Tb} {K : PySem.W.Frag} {H : Hp} {p b : Addr} {ms : List Int} {q : Int} (ht : ∀ t ∈ T.tabs, H t.1 = some (.tbl #[])) (e1 : H p = some (.lst [.ref b, .int 0, .int 0, .int q])) (e2 : H b = some (.lst (ms.map V.int))) (n : b ≠ p) (q0 : 0 ≤ q) (q1 : q < 2147483563) : SimH T K (rho0 p) h0 H := by
  have at0 : ∀ {l a}, (rho0 p).at_ l = some a → l = 0 ∧ a = p := fun {l a} e => by
    have e : (if l = 0 then some p else none) = some a := e
    by_cases z : l = 0
    · rw [if_pos z] at e; exact ⟨z, (Option.some.inj e).symm⟩
    · rw [if_neg z] at e; cases e
  have mu0 : ∀ {a}, Mu (rho0 p) h0 a → a = p := fun {a} m => m.elim (fun z => z.elim) fun ⟨l, o, _, r⟩ => (at0 r).2
  have get0 : ∀ {l o}, h0.get l = some o → l = 0 ∧ o = .bag := fun {l o} e => by
    have e : getL l [(0, .bag)] = some o := e
    rw [getL_cons] at e
    by_cases z : l = 0
    · rw [if_pos z] at e; exact ⟨z, (Option.some.inj e).symm⟩
    · rw [if_neg z] at e; cases e
  refine ⟨(fun l a e => by rw [(at0 e).1]; decide), (fun l v e => by cases e), fun t h => ⟨#[], ht t h, True.intro, fun pos cv hc => ?_⟩, fun l l' o o' a e e' _ _ => (get0 e).1.trans (get0 e').1.symm, fun l o e => ?_, fun a m => m.elim, fun a m z => z.elim⟩
  · have z : codeAmong pos [] = some cv := hc
    simp [codeAmong] at z
  · obtain ⟨rfl, rfl⟩ := get0 e
    exact ⟨p, rfl, b, 0, 0, q, ms, e1, fun m => n (mu0 m), e2, by decide, by decide, q0, q1⟩

section
variable {P : Program} {w : World} {K : PySem.W.Frag} {mg : Str → Option Value} {base : Heap} {T : Tb}
theorem ok_law (hP : P = T.P) (hw : w = T.w) (c__law_normal : Cal T P w K mg base "_law_normal" 1 1 runNormC) (c__law_of : Cal T P w K mg base "_law_of" 2 2 (runDef 0 r_of)) (c__law_pull : Cal T P w K mg base "_law_pull" 1 2 runPullA) (hnm : T.nm = nm73) (m_int : mg "int" = none) (m_len : mg "len" = none) (m_min : mg "min" = none) (m_range : mg "range" = none) (m_str : mg "str" = none) (m_tuple : mg "tuple" = none) (mt_apply_all : MthP T P w K mg base 8 2 16 [(4, (runDef 4 r_Workshop_apply_all))]) (mt_row : MthP T P w K mg base 4 2 21 [(4, (runDef 0 r_Workshop_row))]) (mt_run : MthP T P w K mg base 13 2 11 [(3, (runDef 1 r_Console_run))]) (nw_Console : NewP T P w K mg base "Console" 1 3 2 (runDef 0 r_Console_init)) (nw_Workshop : NewP T P w K mg base "Workshop" 1 4 1 (runDef 0 r_Workshop_init)) {fB : Addr} {fdB : FuncData} (FB : FnOk P w K mg base (L2.CX P w) 1 fB fdB ["_law_script"] (spBag K)) (gB : mg "_law_bag" = some (.ref fB)) (kB : PySem.W.keepIn K (.ref fB) = true) (bB : Binds K fdB ["_law_script"] []) {f : Addr} {fd : FuncData} (F : FnP K "law" 89 f fd) :
    FnOk P w K mg base (L2.CX P w) 14 f fd ["_law_script"] (spLaw T K) := by
  refine F.ok sc_law (fun vs H Q E h => ?_) fun cdv A outer s H vs Q EK hr h => ?_
  · obtain ⟨a, ns, rfl, _⟩ := h; rfl
  · have tk : Takes (cxOf (L2.CX P w) P w K mg base N_law "law" (defScope (top 89)) f cdv A outer s H EK) (wx T K (XF T K EK)) := Takes.imp (takes_of (X := cxOf (L2.CX P w) P w K mg base N_law "law" (defScope (top 89)) f cdv A outer s H EK) (E := EK) rfl rfl rfl rfl) fun c d σ H ⟨ρ, m, h, x, s1, s2, xd, e⟩ => e c d xd
    refine ⟨tSeq (tAsg (tCall (spBag K) [] (fun _ _ _ => False) (tCons (tVar 0) tNil)) (gName 1)) (tS T K (XF T K EK) r_law), ?_, ?_⟩
    · exact pss_cons (ps_asg (pe_call FB (hr.mono (by decide)) rfl gB kB bB .nil (pass_wx tk) (pa_cons (pe_var rfl (vis_by rfl) rfl rfl) pa_nil rfl) rfl rfl rfl) (pg_name sc_law.nd rfl (loc_by rfl) (.inl rfl)) rfl rfl rfl)
        (ss_law hP hw c__law_normal c__law_of c__law_pull hnm m_int m_len m_min m_range m_str m_tuple mt_apply_all mt_row mt_run nw_Console nw_Workshop hr tk)
    · obtain ⟨a, ns, rfl, hs, ht, hQ⟩ := h
      refine ⟨.ref a, rfl, a, ns, rfl, hs, fun p b ms q H' x e1 e2 _ n _ q0 q1 => ?_⟩
      refine ⟨rho0 p, m0, h0, sim0 (fun t h => x _ _ (ht t h)) e1 e2 n q0 q1, ⟨rfl, fun i y e => ?_⟩, Tr.wp_mono (Tr.chk_ok law_run) fun r hr => ?_⟩
      · rcases i with _ | _ | i
        · cases e
        · have e : MV.ref 0 = y := Option.some.inj (Option.some.inj e)
          subst e
          exact ⟨.ref p, rfl, .ref rfl⟩
        · have z : ∀ i : Nat, ([none, none, none, none, none, none, none, none, none, none, none, none, none] : MS)[i]? ≠ some (some y) := fun i => slots_at 13 i y
          exact absurd e (z i)
      · unfold isTrS at hr
        split at hr
        · intro ρ' H2 v l s' d
          cases d
          exact hQ H2
        · cases hr
end
end
end WK
set_option Elab.async false
set_option linter.all false
set_option maxRecDepth 100000
set_option maxHeartbeats 0
namespace WK
open PySem PySem.Spec PyProof.Rows L2
/-! ### what the head tells of own exceptions -/
def clsB (K : PySem.W.Frag) (C : Addr) (l : List Value) (nw : String) : Bool := match K.lookup C with
  | some ⟨.type "type", _, .cls cd, sl⟩ => (match cd.mro, sl.toList with
    | .ref C' :: bm, [_, _, _, _, some (.builtin n), _] => C' == C && (n == nw && (!cd.hasDel && (cd.hasDict && PySem.W.excTail l bm)))
    | _, _ => false)
  | _ => false
theorem ch_of {l : List Value} : ∀ m : List Value, PySem.W.excTail l m = true → Ch l m := fun m => by
  induction m with
  | nil => intro e; rw [show [] = l from beq_iff_eq.mp e]; exact .nil
  | cons a r ih =>
    intro e
    rcases PySem.W.excTail_cases (a :: r) e with ⟨c, r', q, h⟩ | q
    · obtain ⟨rfl, rfl⟩ := List.cons.inj q
      exact .cons (ih h)
    · rw [q]; exact .nil
theorem clsB_ok {K : PySem.W.Frag} {C : Addr} {l : List Value} {nw : String} (q : clsB K C l nw = true) : ∃ nm q N bs bm sn sub ab col dd k0 k1 k2 k3 k5, K.lookup C = some (excClassObj nm q C N bs bm true sn sub ab col dd k0 k1 k2 k3 k5 nw) ∧ Ch l bm := by
  unfold clsB at q
  split at q
  · rename_i dd cd sl ho
    split at q
    · rename_i C' bm k0 k1 k2 k3 n k5 hm hs
      simp only [Bool.and_eq_true, beq_iff_eq, Bool.not_eq_true'] at q
      obtain ⟨rfl, rfl, hdel, hd, ht⟩ := q
      obtain ⟨nm, bs, mro, ns, qn, hdc, sn, sub, ab, col, del⟩ := cd
      dsimp only at hm hdel hd
      subst hm hdel hd
      have hsl : sl = #[k0, k1, k2, k3, some (.builtin n), k5] := by
        obtain ⟨l⟩ := sl
        simp only at hs
        rw [hs]
      subst hsl
      exact ⟨nm, qn, ns, bs, bm, sn, sub, ab, col, dd, k0, k1, k2, k3, k5, ho, ch_of _ ht⟩
    · cases q
  · cases q
abbrev eO := He.eqO
def excB (K : PySem.W.Frag) (C : Addr) : Bool := eO (PySem.W.findIn K (.ref C) "__getattribute__") (some (some (.builtin "BaseException.__getattribute__"))) && (eO (PySem.W.findIn K (.ref C) "__getattr__") (some none) && (decide (PySem.W.subIn K (.ref C) (.type "BaseException") = some true) && (PySem.W.hasDictIn K C &&
  (eO (PySem.W.findIn K (.ref C) "__class__") (some (some (.builtin "object.__class__"))) && (eO (PySem.W.specialIn K (.builtin "object.__class__") "__get__") (some (some (.builtin "getset_descriptor.__get__"))) && (decide (PySem.W.takesIn K (.builtin "object.__class__") = some true) && decide (PySem.W.mroIn K C (.type "object") = some true)))))))
theorem excB_ok {K : PySem.W.Frag} {C : Addr} (h : excB K C = true) : ExcC K C ∧ XfC K C := by
  obtain ⟨h1, h⟩ := He.ba h
  obtain ⟨h2, h⟩ := He.ba h
  obtain ⟨h3, h⟩ := He.ba h
  obtain ⟨h4, h⟩ := He.ba h
  obtain ⟨h5, h⟩ := He.ba h
  obtain ⟨h6, h⟩ := He.ba h
  obtain ⟨h7, h8⟩ := He.ba h
  exact ⟨⟨He.eqO_ok h1, He.eqO_ok h2, of_decide_eq_true h3, h4, He.eqO_ok h5, He.eqO_ok h6, of_decide_eq_true h7, of_decide_eq_true h8⟩, ⟨He.eqO_ok h1, He.eqO_ok h2, of_decide_eq_true h3, h4⟩⟩
structure XD where
  x : Str
  nw : String
  l : List Value
def xok (K : PySem.W.Frag) (nms : List Str) (d : XD) : Bool := clsB K (He.ga K d.x) d.l d.nw && (eO (PySem.W.findIn K (.ref (He.ga K d.x)) "__setattr__") (some (some (.builtin "object.__setattr__"))) && (decide (PySem.W.typeIn K (.ref (He.ga K d.x)) = some (.type "type")) && (PySem.W.keepIn K (.ref (He.ga K d.x)) &&
  (eO (PySem.W.findIn K (.ref (He.ga K d.x)) "__init__") (some (some (.ref (He.ma K (He.ga K d.x) "__init__")))) && (decide (PySem.W.typeIn K (.ref (He.ma K (He.ga K d.x) "__init__")) = some (.type "function")) && (excB K (He.ga K d.x) && nms.all fun f => eO (PySem.W.findIn K (.ref (He.ga K d.x)) f) (some none)))))))
structure XOk (K : PySem.W.Frag) (nms : List Str) (d : XD) : Prop where
  ox : OxC K d.nw d.l (He.ga K d.x)
  iC : PySem.W.findIn K (.ref (He.ga K d.x)) "__init__" = some (some (.ref (He.ma K (He.ga K d.x) "__init__")))
  tI : PySem.W.typeIn K (.ref (He.ma K (He.ga K d.x) "__init__")) = some (.type "function")
  ec : ExcC K (He.ga K d.x)
  xf : XfC K (He.ga K d.x)
  no : ∀ f ∈ nms, PySem.W.findIn K (.ref (He.ga K d.x)) f = some none
theorem xok_ok {K : PySem.W.Frag} {nms : List Str} {d : XD} (h : xok K nms d = true) : XOk K nms d := by
  obtain ⟨h1, h⟩ := He.ba h
  obtain ⟨h2, h⟩ := He.ba h
  obtain ⟨h3, h⟩ := He.ba h
  obtain ⟨h4, h⟩ := He.ba h
  obtain ⟨h5, h⟩ := He.ba h
  obtain ⟨h6, h⟩ := He.ba h
  obtain ⟨h7, h8⟩ := He.ba h
  obtain ⟨e1, e2⟩ := excB_ok h7
  exact ⟨⟨clsB_ok h1, He.eqO_ok h2, e1.hs, of_decide_eq_true h3, h4⟩, He.eqO_ok h5, of_decide_eq_true h6, e1, e2, fun f hf => He.eqO_ok (List.all_eq_true.mp h8 f hf)⟩
/-- a base's own __init__ -/
def baB (K : PySem.W.Frag) (x : Str) (ini : String) : Bool := PySem.W.readsIn K (He.ga K x) (.type "type") && (eO (PySem.W.specialIn K (.ref (He.ga K x)) "__getattribute__") (some (some (.builtin "type.__getattribute__"))) && (match PySem.W.findCls K (.ref (He.ga K x)) (.type "type") "__init__" with
  | some (.val (.builtin i)) => decide (i = ini)
  | _ => false))
theorem baB_ok {K : PySem.W.Frag} {x : Str} {ini : String} (h : baB K x ini = true) (hi : PySem.W.handedIn (.builtin ini) = true) : CiC K ini (He.ga K x) (.type "type") := by
  obtain ⟨h1, h⟩ := He.ba h
  obtain ⟨h2, h3⟩ := He.ba h
  refine ⟨⟨h1, He.eqO_ok h2⟩, ?_, hi⟩
  split at h3
  · rename_i i e
    rw [← of_decide_eq_true h3]; exact e
  · cases h3

/-! ### methods taken as values, a class's constants -/
def bmB (K : PySem.W.Frag) (x m : Str) : Bool := (He.Fa.meth x m).ok K && (eO (PySem.W.specialIn K (.ref (He.ma K (He.ga K x) m)) "__get__") (some (some (.builtin "function.__get__"))) && (decide (PySem.W.takesIn K (.ref (He.ma K (He.ga K x) m)) = some false) && PySem.W.fnIn K (He.ma K (He.ga K x) m)))
theorem bmB_ok {K : PySem.W.Frag} {x m : Str} (h : bmB K x m = true) (hc : PySem.W.copiedNames.contains m = false) : BMeth K (He.ga K x) m (He.ma K (He.ga K x) m) := by
  obtain ⟨h1, h⟩ := He.ba h
  obtain ⟨h2, h⟩ := He.ba h
  obtain ⟨h3, h4⟩ := He.ba h
  exact ⟨He.meth_ok h1, He.eqO_ok h2, of_decide_eq_true h3, hc, h4⟩
def cvB (K : PySem.W.Frag) (x n : Str) (i : Int) : Bool := PySem.W.readsIn K (He.ga K x) (.type "type") && (eO (PySem.W.specialIn K (.ref (He.ga K x)) "__getattribute__") (some (some (.builtin "type.__getattribute__"))) && (match PySem.W.findCls K (.ref (He.ga K x)) (.type "type") n with
  | some (.val u) => He.relB (.int i) u
  | _ => false))
theorem cvB_ok {K : PySem.W.Frag} {mg : Str → Option Value} {x n : Str} {i : Int} (h : cvB K x n i = true) (hm : mg x = some (.ref (He.ga K x))) : CvP K mg x n i := by
  obtain ⟨h1, h⟩ := He.ba h
  obtain ⟨h2, h3⟩ := He.ba h
  split at h3
  · rename_i u e
    exact ⟨_, _, u, hm, ⟨h1, He.eqO_ok h2⟩, ⟨e, He.relB_ok h3⟩⟩
  · cases h3
def caB (K : PySem.W.Frag) (x : Str) : Bool := decide (PySem.W.exmOne K (.ref (He.ga K x)) (.ref (He.ga K "ParseError")) = some false) && decide (PySem.W.exmAny K (.ref (He.ga K x)) [.ref (He.ga K "WindowError"), .ref (He.ga K "Absent")] = some true)
theorem caB_ok {K : PySem.W.Frag} {x : Str} (h : caB K x = true) : PySem.W.exmOne K (.ref (He.ga K x)) (.ref (He.ga K "ParseError")) = some false ∧ PySem.W.exmAny K (.ref (He.ga K x)) [.ref (He.ga K "WindowError"), .ref (He.ga K "Absent")] = some true := by
  obtain ⟨h1, h2⟩ := He.ba h
  exact ⟨of_decide_eq_true h1, of_decide_eq_true h2⟩
def tbD (tb : List (Str × Int)) : List (Str × He.Dv) := tb.map fun q => (q.1, .int q.2)
theorem ktab_ok {K : PySem.W.Frag} {w : World} {mg : Str → Option Value} {x : Str} {tb : List (Str × Int)} (hm : mg x = some (.ref (He.ga K x))) (hk : ∃ es n, KDict K w (He.ga K x) es n) (hv : He.valsB K (He.ga K x) (tbD tb) = true) : KTabP K w mg x tb := by
  obtain ⟨es, n, k⟩ := hk
  refine ⟨_, hm, ⟨es, n, k.at_, k.lit, k.low⟩, fun q hq => ?_⟩
  exact He.valsB_ok hv (q := (q.1, .int q.2)) (List.mem_map.mpr ⟨q, hq, rfl⟩)

def cls73 : List ClsRec := [{ name := "UnknownName" }, { name := "InvalidLength" }, { name := "Graph" }, { name := "Console" }, { name := "Workshop" }]
def xds73 : List XD := [⟨"UnknownName", "LookupError.__new__", tLE⟩, ⟨"InvalidLength", "ValueError.__new__", tVE⟩]
def bms73 : List (Str × Str) := [("Graph", "edges"), ("Graph", "check_state"), ("Graph", "leaving"), ("Graph", "following"), ("Console", "change"), ("Console", "answer"), ("Console", "reply"), ("Console", "run"), ("Workshop", "graph"), ("Workshop", "row"), ("Workshop", "check_new"), ("Workshop", "add_row"), ("Workshop", "run_command"), ("Workshop", "apply_all"), ("Workshop", "apply")]
def ok73 (K : PySem.W.Frag) : Bool := (xds73.all fun d => xok K nm73 d) && ((bms73.all fun q => bmB K q.1 q.2) && ((xds73.all fun d => caB K d.x) && ((cvB K "Graph" "MAX_STATES" 8 && cvB K "Graph" "MAX_EDGES" 24) && ((baB K "WindowError" "ValueError.__init__" && baB K "Absent" "LookupError.__init__") && (He.valsB K (He.ga K "SIZES_workshop") (tbD tb_SIZES_workshop) && He.valsB K (He.ga K "SIZES_console") (tbD tb_SIZES_console))))))
def fn73 : List He.DefD := [⟨("_law_bag", none), "_law_bag", "_law_bag", defArgs (top 85), defBody (top 85), defScope (top 85), [], []⟩,
  ⟨("_law_pull", none), "_law_pull", "_law_pull", defArgs (top 86), defBody (top 86), defScope (top 86), [], []⟩,
  ⟨("_law_of", none), "_law_of", "_law_of", defArgs (top 87), defBody (top 87), defScope (top 87), [], []⟩,
  ⟨("_law_normal", none), "_law_normal", "_law_normal", defArgs (top 88), defBody (top 88), defScope (top 88), [], []⟩,
  ⟨("is_name", none), "is_name", "is_name", defArgs (top 80), defBody (top 80), defScope (top 80), [], []⟩,
  ⟨("is_count", none), "is_count", "is_count", defArgs (top 73), defBody (top 73), defScope (top 73), [], []⟩,
  ⟨("thing_of", none), "thing_of", "thing_of", defArgs (top 81), defBody (top 81), defScope (top 81), [], []⟩,
  ⟨("need_length", none), "need_length", "need_length", defArgs (top 27), defBody (top 27), defScope (top 27), [], []⟩,
  ⟨("shortest", none), "shortest", "shortest", defArgs (top 35), defBody (top 35), defScope (top 35), [], []⟩,
  ⟨("first_break", none), "first_break", "first_break", defArgs (top 26), defBody (top 26), defScope (top 26), [], []⟩,
  ⟨("normal_row", none), "normal_row", "normal_row", defArgs (top 36), defBody (top 36), defScope (top 36), [], []⟩,
  ⟨("drop", none), "drop", "drop", defArgs (top 38), defBody (top 38), defScope (top 38), [], [("count", .int 1)]⟩,
  ⟨("check_row", none), "check_row", "check_row", defArgs (top 34), defBody (top 34), defScope (top 34), [], []⟩,
  ⟨("count_closed", none), "count_closed", "count_closed", defArgs (top 32), defBody (top 32), defScope (top 32), [], []⟩,
  ⟨("law", none), "law", "law", defArgs (top 89), defBody (top 89), defScope (top 89), [], []⟩,
  ⟨("Graph", some "__init__"), "__init__", "Graph.__init__", defArgs (mb 45 2), defBody (mb 45 2), defScope (mb 45 2), [], []⟩,
  ⟨("Graph", some "edges"), "edges", "Graph.edges", defArgs (mb 45 5), defBody (mb 45 5), defScope (mb 45 5), [], []⟩,
  ⟨("Graph", some "check_state"), "check_state", "Graph.check_state", defArgs (mb 45 7), defBody (mb 45 7), defScope (mb 45 7), [], []⟩,
  ⟨("Graph", some "leaving"), "leaving", "Graph.leaving", defArgs (mb 45 8), defBody (mb 45 8), defScope (mb 45 8), [], []⟩,
  ⟨("Graph", some "following"), "following", "Graph.following", defArgs (mb 45 10), defBody (mb 45 10), defScope (mb 45 10), [], []⟩,
  ⟨("Console", some "__init__"), "__init__", "Console.__init__", defArgs (mb 74 0), defBody (mb 74 0), defScope (mb 74 0), [], []⟩,
  ⟨("Console", some "change"), "change", "Console.change", defArgs (mb 74 4), defBody (mb 74 4), defScope (mb 74 4), [], []⟩,
  ⟨("Console", some "answer"), "answer", "Console.answer", defArgs (mb 74 6), defBody (mb 74 6), defScope (mb 74 6), [], []⟩,
  ⟨("Console", some "reply"), "reply", "Console.reply", defArgs (mb 74 7), defBody (mb 74 7), defScope (mb 74 7), [], []⟩,
  ⟨("Console", some "run"), "run", "Console.run", defArgs (mb 74 8), defBody (mb 74 8), defScope (mb 74 8), [], []⟩,
  ⟨("Workshop", some "__init__"), "__init__", "Workshop.__init__", defArgs (mb 83 0), defBody (mb 83 0), defScope (mb 83 0), [], []⟩,
  ⟨("Workshop", some "__len__"), "__len__", "Workshop.__len__", defArgs (mb 83 6), defBody (mb 83 6), defScope (mb 83 6), [], []⟩,
  ⟨("Workshop", some "graph"), "graph", "Workshop.graph", defArgs (mb 83 10), defBody (mb 83 10), defScope (mb 83 10), [], []⟩,
  ⟨("Workshop", some "row"), "row", "Workshop.row", defArgs (mb 83 11), defBody (mb 83 11), defScope (mb 83 11), [], []⟩,
  ⟨("Workshop", some "check_new"), "check_new", "Workshop.check_new", defArgs (mb 83 13), defBody (mb 83 13), defScope (mb 83 13), [], []⟩,
  ⟨("Workshop", some "add_row"), "add_row", "Workshop.add_row", defArgs (mb 83 14), defBody (mb 83 14), defScope (mb 83 14), [], []⟩,
  ⟨("Workshop", some "run_command"), "run_command", "Workshop.run_command", defArgs (mb 83 19), defBody (mb 83 19), defScope (mb 83 19), [], []⟩,
  ⟨("Workshop", some "apply_all"), "apply_all", "Workshop.apply_all", defArgs (mb 83 21), defBody (mb 83 21), defScope (mb 83 21), [], []⟩,
  ⟨("Workshop", some "apply"), "apply", "Workshop.apply", defArgs (mb 83 20), defBody (mb 83 20), defScope (mb 83 20), [], []⟩,
  ⟨("UnknownName", some "__init__"), "__init__", "UnknownName.__init__", defArgs (mb 21 0), defBody (mb 21 0), defScope (mb 21 0), [], []⟩,
  ⟨("InvalidLength", some "__init__"), "__init__", "InvalidLength.__init__", defArgs (mb 10 0), defBody (mb 10 0), defScope (mb 10 0), [], []⟩]
def fa73 : List He.Fa := [.glo "_law_bag", .glo "_law_pull", .glo "_law_of", .glo "_law_normal", .glo "is_name", .glo "is_count", .glo "thing_of", .glo "need_length", .glo "shortest", .glo "first_break", .glo "normal_row", .glo "drop", .glo "check_row", .glo "count_closed", .glo "law", .glo "UnknownName", .glo "InvalidLength", .glo "Graph", .glo "Console", .glo "Workshop", .glo "WindowError", .glo "Absent", .glo "ParseError", .glo "SIZES_workshop", .glo "SIZES_console", .free "all", .free "dict", .free "enumerate", .free "int", .free "len", .free "list", .free "range", .free "str", .free "tuple", .free "min", .int "LONGEST" 6, .int "MAX_COUNTED" 2000, .int "MAX_THINGS" 12, .int "MOST_DIGITS_console" 9, .str "DIGITS_console" "0123456789", .str "LETTERS" "abcdefghijklmnopqrstuvwxyz", .cls "Graph", .mkr "Graph", .cls "Console", .mkr "Console", .cls "Workshop", .mkr "Workshop", .noat "Graph" "many_states", .noat "Graph" "pairs", .noat "Console" "workshop", .noat "Console" "lines", .noat "Workshop" "things", .noat "Workshop" "past", .noat "Workshop" "future", .noat "Workshop" "room", .meth "Workshop" "__len__"]
def ts73 : List He.Tab := [(fun K => He.ga K "SIZES_workshop", tb_SIZES_workshop.map (·.1)), (fun K => He.ga K "SIZES_console", tb_SIZES_console.map (·.1))]
abbrev Al73 : Type := He.AlT × Bool
/-- the places of the objects that the proof looks at -/
def ad73 : List Addr := [2, 3, 1334, 1341, 1348, 1353, 1124, 1043, 1131, 422, 465, 415, 472, 487, 458, 451, 1358, 387, 178, 725, 1114, 1323, 31, 44, 368, 1119, 1038, 1333, 1340, 1347, 1352, 1123, 1042, 1130, 421, 464, 414, 471, 486, 480, 457, 450, 1357, 386, 177, 724, 1113, 1322, 30, 43, 367, 1328, 1329, 1330, 1331, 1332, 1335, 1336, 1337, 1338, 1339, 1342, 1343, 1344, 1345, 1346, 1349, 1350, 1351, 1120, 1121, 1122, 1039, 1040, 1041, 1125, 1126, 1127, 1128, 1129, 416, 417, 418, 419, 420, 459, 460, 461, 462, 463, 409, 410, 411, 412, 413, 466, 467, 468, 469, 470, 481, 482, 483, 484, 485, 452, 453, 454, 455, 456, 447, 448, 449, 1354, 1355, 1356, 384, 385, 175, 176, 640, 649, 658, 665, 672, 679, 684, 689, 696, 701, 708, 715, 722, 723, 726, 727, 1057, 1064, 1071, 1078, 1085, 1092, 1097, 1104, 1111, 1112, 1115, 1116, 1152, 1169, 1176, 1184, 1191, 1198, 1205, 1210, 1217, 1224, 1231, 1238, 1245, 1252, 1259, 1266, 1273, 1278, 1285, 1292, 1299, 1306, 1313, 1320, 1321, 1324, 1325, 29, 32, 42, 45, 365, 366, 383, 174, 639, 647, 648, 657, 664, 671, 678, 683, 688, 695, 700, 707, 714, 721, 1056, 1063, 1070, 1077, 1084, 1091, 1096, 1103, 1110, 1151, 1159, 1168, 1175, 1183, 1190, 1197, 1204, 1209, 1216, 1223, 1230, 1237, 1244, 1251, 1258, 1265, 1272, 1277, 1284, 1291, 1298, 1305, 1312, 1319, 364]
def K73 (g : Addr → Option Obj) : PySem.W.Frag := He.frG g ad73
def obG (g : Addr → Option Obj) : Al73 := (He.obsT fa73 fn73 ts73 (K73 g), ok73 (K73 g))
structure Says73 (w : World) (h : Heap) : Prop where
  ex : ∃ K : PySem.W.Frag, K.In h ∧ He.SaysT fa73 fn73 ts73 w K ∧ ok73 K = true
theorem K73_in {h : Heap} : (K73 h.get?).In h := He.frG_in
theorem says_of {w : World} {h : Heap} (e : obG h.get? = (He.valT fn73 ts73 w, true)) : Says73 w h :=
  ⟨_, K73_in, congrArg Prod.fst e, congrArg Prod.snd e⟩
def hk73 : PySem.W.Hook where
  α := Al73
  obs := fun s => obG s.heap.get?
  val := fun w => (He.valT fn73 ts73 w, true)
  says := fun w h => Says73 w h
  of := fun _ _ e => says_of e
  keeps := fun _ _ _ ⟨K, h1, h2, h3⟩ k => ⟨K, PySem.W.Frag.In.keeps h1 k, h2, h3⟩
def ob73 (s : PySem.W.SharedT) : Al73 := obG (HandSHeadRun.getT s)
theorem ob73_eq (s : PySem.W.SharedT) : ob73 s = hk73.obs s.abs := by
  have e : HandSHeadRun.getT s = s.abs.heap.get? := funext (HandSHeadRun.getT_eq s)
  show obG (HandSHeadRun.getT s) = obG s.abs.heap.get?
  rw [e]
abbrev R73 : PySem.W.OpenRow := PySem.W.OpenLaw.row PySem.Challenge.rw_windowkin_k73_counts_at_a_console
def names73_0 : List PySem.Str := ["_wall", "WindowError", "Absent", "InvalidGraph", "LimitExceeded", "OutOfRange", "InvalidRow", "InvalidWidth", "InvalidCode", "InvalidLength", "InvalidCount", "GraphMismatch", "InvalidStep", "InvalidName", "DuplicateName", "CapacityExceeded", "InvalidCapacity", "NameInUse", "InvalidCommand", "ParseError", "UnknownName", "EmptyHistory", "MAX_LENGTH", "MAX_COUNTED", "first_break", "need_length", "continued", "paths", "path_total", "product"]
def names73_1 : List PySem.Str := ["count_closed", "check_row", "shortest", "normal_row", "edge_of", "drop", "need_few_paths", "next_paths", "Code", "compose", "Graph", "joined", "Step", "Split", "Merge", "Renaming", "merge_pairs", "least", "fits", "find_states", "find_renaming", "are_kin", "DIGITS_texts", "MOST_DIGITS_texts", "number_text", "numbers_text", "graph_text", "row_text", "code_text", "parse_step"]
def names73_2 : List PySem.Str := ["DIGITS_console", "MOST_DIGITS_console", "SIZES_console", "is_count", "Console", "MAX_THINGS", "LONGEST", "LETTERS", "SIZES_workshop", "is_name", "thing_of", "followed", "Workshop", "_law_bag", "_law_pull", "_law_of", "_law_normal"]
def names73 : List PySem.Str := names73_0 ++ names73_1 ++ names73_2
end WK
set_option Elab.async false
set_option linter.all false
set_option maxRecDepth 100000
set_option maxHeartbeats 0
namespace WK
noncomputable section
open PySem PySem.Spec PyProof.Rows L2 LamX NdefX
def T73 (P : Program) (w : World) : Tb := { nm := nm73, cls := cls73, P := P, w := w, tabs := [], nd := by decide +kernel }
section
variable {P : Program} {w : World} {K : PySem.W.Frag} {mg : Str → Option Value} {base : Heap}
theorem mthP_of {d n m c : Nat} {x mth : Str} {run : List MV → MH → Tr ER} {fd : FuncData} {ps : List Str} (lt : m < nm73.length) (hc : cAd (T73 P w) K c = He.ga K x) (hn : nmS (T73 P w) m = mth) (h1 : Cls K (He.ga K x)) (h2 : BMeth K (He.ga K x) mth (He.ma K (He.ga K x) mth)) (h3 : ps.length = n)
    (h4 : FnOk P w K mg base (L2.CX P w) d (He.ma K (He.ga K x) mth) fd ps (spF (T73 P w) K n run)) (h5 : Binds K fd ps []) : MthP (T73 P w) P w K mg base d n m [(c, run)] := ⟨lt, fun c' run' hm => by
  rw [List.mem_singleton] at hm
  cases hm
  exact ⟨_, fd, ps, by rw [hc]; exact h1, by rw [hc, hn]; exact h2, h3, h4, h5⟩⟩
theorem newP_of {d n c : Nat} {x : Str} {run : List MV → MH → Tr ER} {fd : FuncData} {ps : List Str} (hc : cAd (T73 P w) K c = He.ga K x) (h1 : Mk K (He.ga K x) (He.ma K (He.ga K x) "__init__")) (h2 : mg x = some (.ref (He.ga K x))) (h3 : ps.length = n)
    (h4 : FnOk P w K mg base (L2.CX P w) d (He.ma K (He.ga K x) "__init__") fd ps (spF (T73 P w) K n run)) (h5 : Binds K fd ps []) : NewP (T73 P w) P w K mg base x d c n run := ⟨⟨_, fd, ps, by rw [hc]; exact h1, by rw [hc]; exact h2, h3, h4, h5⟩⟩
theorem lenP_of {d c : Nat} {x : Str} {run : List MV → MH → Tr ER} {fd : FuncData} {ps : List Str} (hc : cAd (T73 P w) K c = He.ga K x) (h1 : Meth K (He.ga K x) "__len__" (He.ma K (He.ga K x) "__len__")) (h3 : ps.length = 1)
    (h4 : FnOk P w K mg base (L2.CX P w) d (He.ma K (He.ga K x) "__len__") fd ps (spF (T73 P w) K 1 run)) (h5 : Binds K fd ps []) : LenP (T73 P w) P w K mg base d [(c, run)] := ⟨fun c' run' hm => by
  rw [List.mem_singleton] at hm
  cases hm
  exact ⟨_, fd, ps, by rw [hc]; exact h1.at_, h1.fn, h3, h4, h5⟩⟩
theorem fldOk_of {c i : Nat} {x f : Str} (hc : cAd (T73 P w) K c = He.ga K x) (hn : nmS (T73 P w) i = f) (h1 : Cls K (He.ga K x)) (h2 : NoAttr K (He.ga K x) f) : FldOk (T73 P w) K [c] i := fun c' hm => by
  rw [List.mem_singleton] at hm
  cases hm
  rw [hc, hn]
  exact ⟨h1, h2⟩
theorem binds_drop {f : Addr} {fd : FuncData} (F : FunD K "drop" "drop" (defArgs (top 38)) (defBody (top 38)) (defScope (top 38)) [] [("count", .int 1)] f fd) : ∃ gg, KBn K fd ["row", "count"] 1 ["count"] gg (fun vs zs => vs ++ zs) := by
  obtain ⟨mv, k⟩ := F.kbinds0 (ps := ["row", "count"]) 1 ["count"] [] (fun us _ ws => us ++ ws) (by simp) (fun q hq => by cases hq) (fun r1 _ r3 => r1.append r3) (fun D doc pm an cdv ct us mv ws l1 l2 l3 => by
    match us, l1 with
    | [_], _ =>
      match ws, l3 with
      | [_], _ => rfl)
  exact ⟨_, k⟩
theorem cat_of (x0 : XOk K nm73 ⟨"UnknownName", "LookupError.__new__", tLE⟩) (x1 : XOk K nm73 ⟨"InvalidLength", "ValueError.__new__", tVE⟩) (c0 : caB K "UnknownName" = true) (c1 : caB K "InvalidLength" = true) : CatOk (T73 P w) K (.ref (He.ga K "ParseError")) (.ref (He.ga K "WindowError")) (.ref (He.ga K "Absent")) [0, 1] := ⟨fun c hc => by
  rcases List.mem_cons.mp hc with rfl | hc
  · obtain ⟨a, b⟩ := caB_ok c0
    exact ⟨a, b, x0.xf, x0.no _ (by decide)⟩
  · rw [List.mem_singleton] at hc
    cases hc
    obtain ⟨a, b⟩ := caB_ok c1
    exact ⟨a, b, x1.xf, x1.no _ (by decide)⟩⟩
theorem mk_UnknownName {fd : FuncData} (x : XOk K nm73 ⟨"UnknownName", "LookupError.__new__", tLE⟩) (F : FunD K "__init__" "UnknownName.__init__" (defArgs (mb 21 0)) (defBody (mb 21 0)) (defScope (mb 21 0)) [] [] (He.ma K (He.ga K "UnknownName") "__init__") fd) (mc : mg "UnknownName" = some (.ref (He.ga K "UnknownName"))) (md : mg "Absent" = some (.ref (He.ga K "Absent"))) (V : CiC K "LookupError.__init__" (He.ga K "Absent") (.type "type")) :
    MkC (T73 P w) P w K mg base "UnknownName" 1 0 0 1 fun C => spI1 C "name" "unknownname" :=
  ⟨"LookupError", "LookupError.__new__", "LookupError.__init__", tLE, _, fd, ["self", "name"], bs_LE, x.ox, x.iC, x.tI, mc, F.bindsN fun _ _ _ _ _ _ us hl => match us, hl with | [_, _], _ => rfl, initA_ok bs_LE F ⟨rfl, rfl, rfl, by decide +kernel, rfl, by decide +kernel, by decide +kernel⟩ rfl (fun env => ⟨_, rfl⟩) (fun _ => rfl) (fun _ => rfl) (fun _ => rfl) rfl rfl rfl md V x.ox (x.no _ (by decide)) (x.no _ (by decide)) rfl rfl rfl⟩
theorem mk_InvalidLength {fd : FuncData} (x : XOk K nm73 ⟨"InvalidLength", "ValueError.__new__", tVE⟩) (F : FunD K "__init__" "InvalidLength.__init__" (defArgs (mb 10 0)) (defBody (mb 10 0)) (defScope (mb 10 0)) [] [] (He.ma K (He.ga K "InvalidLength") "__init__") fd) (mc : mg "InvalidLength" = some (.ref (He.ga K "InvalidLength"))) (md : mg "WindowError" = some (.ref (He.ga K "WindowError"))) (V : CiC K "ValueError.__init__" (He.ga K "WindowError") (.type "type")) :
    MkC (T73 P w) P w K mg base "InvalidLength" 1 1 0 1 fun C => spI1 C "length" "invalidlength" :=
  ⟨"ValueError", "ValueError.__new__", "ValueError.__init__", tVE, _, fd, ["self", "length"], bs_VE, x.ox, x.iC, x.tI, mc, F.bindsN fun _ _ _ _ _ _ us hl => match us, hl with | [_, _], _ => rfl, initA_ok bs_VE F ⟨rfl, rfl, rfl, by decide +kernel, rfl, by decide +kernel, by decide +kernel⟩ rfl (fun env => ⟨_, rfl⟩) (fun _ => rfl) (fun _ => rfl) (fun _ => rfl) rfl rfl rfl md V x.ox (x.no _ (by decide)) (x.no _ (by decide)) rfl rfl rfl⟩
end
end
end WK
set_option Elab.async false
set_option linter.all false
set_option maxRecDepth 100000
set_option maxHeartbeats 0
namespace HandSHeadRun
open PySem PySem.W PySem.Calls PyProof.Rows
/-- the run's equation, in two parts -/
def RunSeen (r : OpenRow) (q : Program) (M : Nat) (loose : List PySem.Str) (w : World) : Prop :=
  ∀ os : OsState, (endF (stepQ (denQ tabQ) r.prog w) M r.prog w os).map (fun s => (looksF r.prog (boot_heap w.params) s.abs, seenQ q loose (importedModules r.prog.main.body) (fun s => xlAt q [] s && recOk r.toRowW.records s) s.abs)) = some (true, openGood q loose)
def RunFacts (r : OpenRow) (H : Hook) (ob : SharedT → H.α) (M : Nat) (w : World) : Prop :=
  ∀ os : OsState, (endF (stepQ (denQ tabQ) r.prog w) M r.prog w os).map ob = some (H.val w)
theorem opt_join {σ α β γ : Type} {o : Option σ} {f : σ → α} {f2 : σ → β} {g : σ → γ} {a : α} {b : β} {c : γ} (h1 : o.map (fun s => (f s, f2 s)) = some (a, b)) (h2 : o.map g = some c) : o.map (fun s => (f s, f2 s, g s)) = some (a, b, c) := by
  cases o with
  | none => cases h2
  | some s =>
    simp only [Option.map_some, Option.some.injEq, Prod.mk.injEq] at h1 h2 ⊢
    exact ⟨h1.1, h1.2, h2⟩
theorem RunEq.of {r : OpenRow} {q : Program} {H : Hook} {ob : SharedT → H.α} {M : Nat} {loose : List PySem.Str} {w : World} (a : RunSeen r q M loose w) (b : RunFacts r H ob M w) : RunEq r q H ob M loose w := fun os => opt_join (a os) (b os)
end HandSHeadRun
namespace WK
open PySem PySem.Spec PyProof.Rows L2 HandSHeadRun PySem.W PySem.Calls
theorem seen73f (w : World) : RunSeen R73 (view R73.prog [89]) 20000 names73 (w.withFollow "special-get-raises" false) := by
  intro os
  kernel_rfl
theorem seen73t (w : World) : RunSeen R73 (view R73.prog [89]) 20000 names73 (w.withFollow "special-get-raises" true) := by
  intro os
  kernel_rfl
theorem facts73f (w : World) : RunFacts R73 hk73 ob73 20000 (w.withFollow "special-get-raises" false) := by
  intro os
  kernel_rfl
theorem facts73t (w : World) : RunFacts R73 hk73 ob73 20000 (w.withFollow "special-get-raises" true) := by
  intro os
  kernel_rfl
theorem run73 (w : World) : RunEq R73 (view R73.prog [89]) hk73 ob73 20000 names73 w :=
  byRow2 "special-get-raises" (P := fun w => RunEq R73 (view R73.prog [89]) hk73 ob73 20000 names73 w) (fun w => .of (seen73f w) (facts73f w)) (fun w => .of (seen73t w) (facts73t w)) w
end WK
set_option Elab.async false
set_option linter.all false
set_option maxRecDepth 100000
set_option maxHeartbeats 0
namespace WK
noncomputable section
open PySem PySem.Spec PyProof.Rows L2 LamX NdefX
abbrev P73 : Program := (PySem.Challenge.rw_windowkin_k73_counts_at_a_console).prog
theorem law_at (w : World) (mg : Str → Option Value) (fa : Addr) (h : Heap) (Y : Says73 w h) (G : h.Ns mainGlobals mg) (hmg : mg "law" = some (.ref fa)) : ∃ K : PySem.W.Frag, K.In h ∧ LawAtS PySem.Challenge.rw_windowkin_k73_counts_at_a_console w K (L2.CX P73 w) 14 63 "_law_script" mg fa h := by
  obtain ⟨K, KX, cT, ok⟩ := Y.ex
  have cs := cT.d
  obtain ⟨o1, ok⟩ := He.ba ok
  obtain ⟨o2, ok⟩ := He.ba ok
  obtain ⟨o3, ok⟩ := He.ba ok
  obtain ⟨o4, ok⟩ := He.ba ok
  obtain ⟨o4a, o4b⟩ := He.ba o4
  obtain ⟨o5, ok⟩ := He.ba ok
  obtain ⟨o5a, o5b⟩ := He.ba o5
  obtain ⟨o6, o7⟩ := He.ba ok
  have xU : XOk K nm73 ⟨"UnknownName", "LookupError.__new__", tLE⟩ := xok_ok (List.all_eq_true.mp o1 _ (List.mem_of_getElem? (i := 0) rfl))
  have xI : XOk K nm73 ⟨"InvalidLength", "ValueError.__new__", tVE⟩ := xok_ok (List.all_eq_true.mp o1 _ (List.mem_of_getElem? (i := 1) rfl))
  have cU : caB K "UnknownName" = true := List.all_eq_true.mp o3 ⟨"UnknownName", "LookupError.__new__", tLE⟩ (List.mem_of_getElem? (i := 0) rfl)
  have cI_ : caB K "InvalidLength" = true := List.all_eq_true.mp o3 ⟨"InvalidLength", "ValueError.__new__", tVE⟩ (List.mem_of_getElem? (i := 1) rfl)
  have vW := baB_ok o5a (by decide +kernel)
  have vA := baB_ok o5b (by decide +kernel)
  have g__law_bag := He.glo_ok KX G (cs.fact 0 (f := .glo "_law_bag") rfl)
  have g__law_pull := He.glo_ok KX G (cs.fact 1 (f := .glo "_law_pull") rfl)
  have g__law_of := He.glo_ok KX G (cs.fact 2 (f := .glo "_law_of") rfl)
  have g__law_normal := He.glo_ok KX G (cs.fact 3 (f := .glo "_law_normal") rfl)
  have g_is_name := He.glo_ok KX G (cs.fact 4 (f := .glo "is_name") rfl)
  have g_is_count := He.glo_ok KX G (cs.fact 5 (f := .glo "is_count") rfl)
  have g_thing_of := He.glo_ok KX G (cs.fact 6 (f := .glo "thing_of") rfl)
  have g_need_length := He.glo_ok KX G (cs.fact 7 (f := .glo "need_length") rfl)
  have g_shortest := He.glo_ok KX G (cs.fact 8 (f := .glo "shortest") rfl)
  have g_first_break := He.glo_ok KX G (cs.fact 9 (f := .glo "first_break") rfl)
  have g_normal_row := He.glo_ok KX G (cs.fact 10 (f := .glo "normal_row") rfl)
  have g_drop := He.glo_ok KX G (cs.fact 11 (f := .glo "drop") rfl)
  have g_check_row := He.glo_ok KX G (cs.fact 12 (f := .glo "check_row") rfl)
  have g_count_closed := He.glo_ok KX G (cs.fact 13 (f := .glo "count_closed") rfl)
  have g_law := He.glo_ok KX G (cs.fact 14 (f := .glo "law") rfl)
  have g_UnknownName := He.glo_ok KX G (cs.fact 15 (f := .glo "UnknownName") rfl)
  have g_InvalidLength := He.glo_ok KX G (cs.fact 16 (f := .glo "InvalidLength") rfl)
  have g_Graph := He.glo_ok KX G (cs.fact 17 (f := .glo "Graph") rfl)
  have g_Console := He.glo_ok KX G (cs.fact 18 (f := .glo "Console") rfl)
  have g_Workshop := He.glo_ok KX G (cs.fact 19 (f := .glo "Workshop") rfl)
  have g_WindowError := He.glo_ok KX G (cs.fact 20 (f := .glo "WindowError") rfl)
  have g_Absent := He.glo_ok KX G (cs.fact 21 (f := .glo "Absent") rfl)
  have g_ParseError := He.glo_ok KX G (cs.fact 22 (f := .glo "ParseError") rfl)
  have g_SIZES_workshop := He.glo_ok KX G (cs.fact 23 (f := .glo "SIZES_workshop") rfl)
  have g_SIZES_console := He.glo_ok KX G (cs.fact 24 (f := .glo "SIZES_console") rfl)
  have m_all := He.free_ok KX G (cs.fact 25 (f := .free "all") rfl)
  have m_dict := He.free_ok KX G (cs.fact 26 (f := .free "dict") rfl)
  have m_enumerate := He.free_ok KX G (cs.fact 27 (f := .free "enumerate") rfl)
  have m_int := He.free_ok KX G (cs.fact 28 (f := .free "int") rfl)
  have m_len := He.free_ok KX G (cs.fact 29 (f := .free "len") rfl)
  have m_list := He.free_ok KX G (cs.fact 30 (f := .free "list") rfl)
  have m_range := He.free_ok KX G (cs.fact 31 (f := .free "range") rfl)
  have m_str := He.free_ok KX G (cs.fact 32 (f := .free "str") rfl)
  have m_tuple := He.free_ok KX G (cs.fact 33 (f := .free "tuple") rfl)
  have m_min := He.free_ok KX G (cs.fact 34 (f := .free "min") rfl)
  have gi_LONGEST := He.int_ok KX G (cs.fact 35 (f := .int "LONGEST" 6) rfl)
  have gi_MAX_COUNTED := He.int_ok KX G (cs.fact 36 (f := .int "MAX_COUNTED" 2000) rfl)
  have gi_MAX_THINGS := He.int_ok KX G (cs.fact 37 (f := .int "MAX_THINGS" 12) rfl)
  have gi_MOST_DIGITS_console := He.int_ok KX G (cs.fact 38 (f := .int "MOST_DIGITS_console" 9) rfl)
  have gs_DIGITS_console := He.str_ok KX G (cs.fact 39 (f := .str "DIGITS_console" "0123456789") rfl)
  have gs_LETTERS := He.str_ok KX G (cs.fact 40 (f := .str "LETTERS" "abcdefghijklmnopqrstuvwxyz") rfl)
  have k_Graph := He.cls_ok (cs.fact 41 (f := .cls "Graph") rfl)
  have mr_Graph := He.mkr_ok (cs.fact 42 (f := .mkr "Graph") rfl)
  have k_Console := He.cls_ok (cs.fact 43 (f := .cls "Console") rfl)
  have mr_Console := He.mkr_ok (cs.fact 44 (f := .mkr "Console") rfl)
  have k_Workshop := He.cls_ok (cs.fact 45 (f := .cls "Workshop") rfl)
  have mr_Workshop := He.mkr_ok (cs.fact 46 (f := .mkr "Workshop") rfl)
  have hP : P73 = (T73 P73 w).P := rfl
  have hw : w = (T73 P73 w).w := rfl
  have hnm : (T73 P73 w).nm = nm73 := rfl
  have fl_many_states : FldOk (T73 P73 w) K [2] 9 := fldOk_of (x := "Graph") (f := "many_states") rfl rfl k_Graph (He.noat_ok (cs.fact 47 (f := .noat "Graph" "many_states") rfl))
  have fl_pairs : FldOk (T73 P73 w) K [2] 10 := fldOk_of (x := "Graph") (f := "pairs") rfl rfl k_Graph (He.noat_ok (cs.fact 48 (f := .noat "Graph" "pairs") rfl))
  have fl_workshop : FldOk (T73 P73 w) K [3] 3 := fldOk_of (x := "Console") (f := "workshop") rfl rfl k_Console (He.noat_ok (cs.fact 49 (f := .noat "Console" "workshop") rfl))
  have fl_lines : FldOk (T73 P73 w) K [3] 4 := fldOk_of (x := "Console") (f := "lines") rfl rfl k_Console (He.noat_ok (cs.fact 50 (f := .noat "Console" "lines") rfl))
  have fl_things : FldOk (T73 P73 w) K [4] 5 := fldOk_of (x := "Workshop") (f := "things") rfl rfl k_Workshop (He.noat_ok (cs.fact 51 (f := .noat "Workshop" "things") rfl))
  have fl_past : FldOk (T73 P73 w) K [4] 6 := fldOk_of (x := "Workshop") (f := "past") rfl rfl k_Workshop (He.noat_ok (cs.fact 52 (f := .noat "Workshop" "past") rfl))
  have fl_future : FldOk (T73 P73 w) K [4] 7 := fldOk_of (x := "Workshop") (f := "future") rfl rfl k_Workshop (He.noat_ok (cs.fact 53 (f := .noat "Workshop" "future") rfl))
  have fl_room : FldOk (T73 P73 w) K [4] 8 := fldOk_of (x := "Workshop") (f := "room") rfl rfl k_Workshop (He.noat_ok (cs.fact 54 (f := .noat "Workshop" "room") rfl))
  obtain ⟨fd__law_bag, F__law_bag⟩ := cs.def_ 0 rfl
  replace F__law_bag : FunD K "_law_bag" "_law_bag" (defArgs (top 85)) (defBody (top 85)) (defScope (top 85)) [] [] (He.ga K "_law_bag") fd__law_bag := F__law_bag
  have b__law_bag : Binds K fd__law_bag ["_law_script"] [] := F__law_bag.bindsN fun _ _ _ _ _ _ us hl => match us, hl with | [_], _ => rfl
  obtain ⟨fd__law_pull, F__law_pull⟩ := cs.def_ 1 rfl
  replace F__law_pull : FunD K "_law_pull" "_law_pull" (defArgs (top 86)) (defBody (top 86)) (defScope (top 86)) [] [] (He.ga K "_law_pull") fd__law_pull := F__law_pull
  have b__law_pull : Binds K fd__law_pull ["_law_bag_here", "_law_many"] [] := F__law_pull.bindsN fun _ _ _ _ _ _ us hl => match us, hl with | [_, _], _ => rfl
  obtain ⟨fd__law_of, F__law_of⟩ := cs.def_ 2 rfl
  replace F__law_of : FunD K "_law_of" "_law_of" (defArgs (top 87)) (defBody (top 87)) (defScope (top 87)) [] [] (He.ga K "_law_of") fd__law_of := F__law_of
  have b__law_of : Binds K fd__law_of ["_law_bag_here", "_law_things"] [] := F__law_of.bindsN fun _ _ _ _ _ _ us hl => match us, hl with | [_, _], _ => rfl
  obtain ⟨fd__law_normal, F__law_normal⟩ := cs.def_ 3 rfl
  replace F__law_normal : FunD K "_law_normal" "_law_normal" (defArgs (top 88)) (defBody (top 88)) (defScope (top 88)) [] [] (He.ga K "_law_normal") fd__law_normal := F__law_normal
  have b__law_normal : Binds K fd__law_normal ["_law_row"] [] := F__law_normal.bindsN fun _ _ _ _ _ _ us hl => match us, hl with | [_], _ => rfl
  obtain ⟨fd_is_name, F_is_name⟩ := cs.def_ 4 rfl
  replace F_is_name : FunD K "is_name" "is_name" (defArgs (top 80)) (defBody (top 80)) (defScope (top 80)) [] [] (He.ga K "is_name") fd_is_name := F_is_name
  have b_is_name : Binds K fd_is_name ["text"] [] := F_is_name.bindsN fun _ _ _ _ _ _ us hl => match us, hl with | [_], _ => rfl
  obtain ⟨fd_is_count, F_is_count⟩ := cs.def_ 5 rfl
  replace F_is_count : FunD K "is_count" "is_count" (defArgs (top 73)) (defBody (top 73)) (defScope (top 73)) [] [] (He.ga K "is_count") fd_is_count := F_is_count
  have b_is_count : Binds K fd_is_count ["text"] [] := F_is_count.bindsN fun _ _ _ _ _ _ us hl => match us, hl with | [_], _ => rfl
  obtain ⟨fd_thing_of, F_thing_of⟩ := cs.def_ 6 rfl
  replace F_thing_of : FunD K "thing_of" "thing_of" (defArgs (top 81)) (defBody (top 81)) (defScope (top 81)) [] [] (He.ga K "thing_of") fd_thing_of := F_thing_of
  have b_thing_of : Binds K fd_thing_of ["things", "name", "kind"] [] := F_thing_of.bindsN fun _ _ _ _ _ _ us hl => match us, hl with | [_, _, _], _ => rfl
  obtain ⟨fd_need_length, F_need_length⟩ := cs.def_ 7 rfl
  replace F_need_length : FunD K "need_length" "need_length" (defArgs (top 27)) (defBody (top 27)) (defScope (top 27)) [] [] (He.ga K "need_length") fd_need_length := F_need_length
  have b_need_length : Binds K fd_need_length ["length", "most"] [] := F_need_length.bindsN fun _ _ _ _ _ _ us hl => match us, hl with | [_, _], _ => rfl
  obtain ⟨fd_shortest, F_shortest⟩ := cs.def_ 8 rfl
  replace F_shortest : FunD K "shortest" "shortest" (defArgs (top 35)) (defBody (top 35)) (defScope (top 35)) [] [] (He.ga K "shortest") fd_shortest := F_shortest
  have b_shortest : Binds K fd_shortest ["cycle"] [] := F_shortest.bindsN fun _ _ _ _ _ _ us hl => match us, hl with | [_], _ => rfl
  obtain ⟨fd_first_break, F_first_break⟩ := cs.def_ 9 rfl
  replace F_first_break : FunD K "first_break" "first_break" (defArgs (top 26)) (defBody (top 26)) (defScope (top 26)) [] [] (He.ga K "first_break") fd_first_break := F_first_break
  have b_first_break : Binds K fd_first_break ["graph", "path"] [] := F_first_break.bindsN fun _ _ _ _ _ _ us hl => match us, hl with | [_, _], _ => rfl
  obtain ⟨fd_normal_row, F_normal_row⟩ := cs.def_ 10 rfl
  replace F_normal_row : FunD K "normal_row" "normal_row" (defArgs (top 36)) (defBody (top 36)) (defScope (top 36)) [] [] (He.ga K "normal_row") fd_normal_row := F_normal_row
  have b_normal_row : Binds K fd_normal_row ["row"] [] := F_normal_row.bindsN fun _ _ _ _ _ _ us hl => match us, hl with | [_], _ => rfl
  obtain ⟨fd_drop, F_drop⟩ := cs.def_ 11 rfl
  replace F_drop : FunD K "drop" "drop" (defArgs (top 38)) (defBody (top 38)) (defScope (top 38)) [] [("count", .int 1)] (He.ga K "drop") fd_drop := F_drop
  obtain ⟨fd_check_row, F_check_row⟩ := cs.def_ 12 rfl
  replace F_check_row : FunD K "check_row" "check_row" (defArgs (top 34)) (defBody (top 34)) (defScope (top 34)) [] [] (He.ga K "check_row") fd_check_row := F_check_row
  have b_check_row : Binds K fd_check_row ["graph", "row"] [] := F_check_row.bindsN fun _ _ _ _ _ _ us hl => match us, hl with | [_, _], _ => rfl
  obtain ⟨fd_count_closed, F_count_closed⟩ := cs.def_ 13 rfl
  replace F_count_closed : FunD K "count_closed" "count_closed" (defArgs (top 32)) (defBody (top 32)) (defScope (top 32)) [] [] (He.ga K "count_closed") fd_count_closed := F_count_closed
  have b_count_closed : Binds K fd_count_closed ["graph", "length"] [] := F_count_closed.bindsN fun _ _ _ _ _ _ us hl => match us, hl with | [_, _], _ => rfl
  obtain ⟨fd_law, F_law⟩ := cs.def_ 14 rfl
  replace F_law : FunD K "law" "law" (defArgs (top 89)) (defBody (top 89)) (defScope (top 89)) [] [] (He.ga K "law") fd_law := F_law
  have b_law : Binds K fd_law ["_law_script"] [] := F_law.bindsN fun _ _ _ _ _ _ us hl => match us, hl with | [_], _ => rfl
  obtain ⟨fd_Graph__init__, F_Graph__init__⟩ := cs.def_ 15 rfl
  replace F_Graph__init__ : FunD K "__init__" "Graph.__init__" (defArgs (mb 45 2)) (defBody (mb 45 2)) (defScope (mb 45 2)) [] [] (He.ma K (He.ga K "Graph") "__init__") fd_Graph__init__ := F_Graph__init__
  have b_Graph__init__ : Binds K fd_Graph__init__ ["self", "states", "edges"] [] := F_Graph__init__.bindsN fun _ _ _ _ _ _ us hl => match us, hl with | [_, _, _], _ => rfl
  obtain ⟨fd_Graphedges, F_Graphedges⟩ := cs.def_ 16 rfl
  replace F_Graphedges : FunD K "edges" "Graph.edges" (defArgs (mb 45 5)) (defBody (mb 45 5)) (defScope (mb 45 5)) [] [] (He.ma K (He.ga K "Graph") "edges") fd_Graphedges := F_Graphedges
  have b_Graphedges : Binds K fd_Graphedges ["self"] [] := F_Graphedges.bindsN fun _ _ _ _ _ _ us hl => match us, hl with | [_], _ => rfl
  obtain ⟨fd_Graphcheck_state, F_Graphcheck_state⟩ := cs.def_ 17 rfl
  replace F_Graphcheck_state : FunD K "check_state" "Graph.check_state" (defArgs (mb 45 7)) (defBody (mb 45 7)) (defScope (mb 45 7)) [] [] (He.ma K (He.ga K "Graph") "check_state") fd_Graphcheck_state := F_Graphcheck_state
  have b_Graphcheck_state : Binds K fd_Graphcheck_state ["self", "state"] [] := F_Graphcheck_state.bindsN fun _ _ _ _ _ _ us hl => match us, hl with | [_, _], _ => rfl
  obtain ⟨fd_Graphleaving, F_Graphleaving⟩ := cs.def_ 18 rfl
  replace F_Graphleaving : FunD K "leaving" "Graph.leaving" (defArgs (mb 45 8)) (defBody (mb 45 8)) (defScope (mb 45 8)) [] [] (He.ma K (He.ga K "Graph") "leaving") fd_Graphleaving := F_Graphleaving
  have b_Graphleaving : Binds K fd_Graphleaving ["self", "state"] [] := F_Graphleaving.bindsN fun _ _ _ _ _ _ us hl => match us, hl with | [_, _], _ => rfl
  obtain ⟨fd_Graphfollowing, F_Graphfollowing⟩ := cs.def_ 19 rfl
  replace F_Graphfollowing : FunD K "following" "Graph.following" (defArgs (mb 45 10)) (defBody (mb 45 10)) (defScope (mb 45 10)) [] [] (He.ma K (He.ga K "Graph") "following") fd_Graphfollowing := F_Graphfollowing
  have b_Graphfollowing : Binds K fd_Graphfollowing ["self", "number"] [] := F_Graphfollowing.bindsN fun _ _ _ _ _ _ us hl => match us, hl with | [_, _], _ => rfl
  obtain ⟨fd_Console__init__, F_Console__init__⟩ := cs.def_ 20 rfl
  replace F_Console__init__ : FunD K "__init__" "Console.__init__" (defArgs (mb 74 0)) (defBody (mb 74 0)) (defScope (mb 74 0)) [] [] (He.ma K (He.ga K "Console") "__init__") fd_Console__init__ := F_Console__init__
  have b_Console__init__ : Binds K fd_Console__init__ ["self", "workshop"] [] := F_Console__init__.bindsN fun _ _ _ _ _ _ us hl => match us, hl with | [_, _], _ => rfl
  obtain ⟨fd_Consolechange, F_Consolechange⟩ := cs.def_ 21 rfl
  replace F_Consolechange : FunD K "change" "Console.change" (defArgs (mb 74 4)) (defBody (mb 74 4)) (defScope (mb 74 4)) [] [] (He.ma K (He.ga K "Console") "change") fd_Consolechange := F_Consolechange
  have b_Consolechange : Binds K fd_Consolechange ["self", "command"] [] := F_Consolechange.bindsN fun _ _ _ _ _ _ us hl => match us, hl with | [_, _], _ => rfl
  obtain ⟨fd_Consoleanswer, F_Consoleanswer⟩ := cs.def_ 22 rfl
  replace F_Consoleanswer : FunD K "answer" "Console.answer" (defArgs (mb 74 6)) (defBody (mb 74 6)) (defScope (mb 74 6)) [] [] (He.ma K (He.ga K "Console") "answer") fd_Consoleanswer := F_Consoleanswer
  have b_Consoleanswer : Binds K fd_Consoleanswer ["self", "words"] [] := F_Consoleanswer.bindsN fun _ _ _ _ _ _ us hl => match us, hl with | [_, _], _ => rfl
  obtain ⟨fd_Consolereply, F_Consolereply⟩ := cs.def_ 23 rfl
  replace F_Consolereply : FunD K "reply" "Console.reply" (defArgs (mb 74 7)) (defBody (mb 74 7)) (defScope (mb 74 7)) [] [] (He.ma K (He.ga K "Console") "reply") fd_Consolereply := F_Consolereply
  have b_Consolereply : Binds K fd_Consolereply ["self", "line"] [] := F_Consolereply.bindsN fun _ _ _ _ _ _ us hl => match us, hl with | [_, _], _ => rfl
  obtain ⟨fd_Consolerun, F_Consolerun⟩ := cs.def_ 24 rfl
  replace F_Consolerun : FunD K "run" "Console.run" (defArgs (mb 74 8)) (defBody (mb 74 8)) (defScope (mb 74 8)) [] [] (He.ma K (He.ga K "Console") "run") fd_Consolerun := F_Consolerun
  have b_Consolerun : Binds K fd_Consolerun ["self", "line"] [] := F_Consolerun.bindsN fun _ _ _ _ _ _ us hl => match us, hl with | [_, _], _ => rfl
  obtain ⟨fd_Workshop__init__, F_Workshop__init__⟩ := cs.def_ 25 rfl
  replace F_Workshop__init__ : FunD K "__init__" "Workshop.__init__" (defArgs (mb 83 0)) (defBody (mb 83 0)) (defScope (mb 83 0)) [] [] (He.ma K (He.ga K "Workshop") "__init__") fd_Workshop__init__ := F_Workshop__init__
  have b_Workshop__init__ : Binds K fd_Workshop__init__ ["self"] [] := F_Workshop__init__.bindsN fun _ _ _ _ _ _ us hl => match us, hl with | [_], _ => rfl
  obtain ⟨fd_Workshop__len__, F_Workshop__len__⟩ := cs.def_ 26 rfl
  replace F_Workshop__len__ : FunD K "__len__" "Workshop.__len__" (defArgs (mb 83 6)) (defBody (mb 83 6)) (defScope (mb 83 6)) [] [] (He.ma K (He.ga K "Workshop") "__len__") fd_Workshop__len__ := F_Workshop__len__
  have b_Workshop__len__ : Binds K fd_Workshop__len__ ["self"] [] := F_Workshop__len__.bindsN fun _ _ _ _ _ _ us hl => match us, hl with | [_], _ => rfl
  obtain ⟨fd_Workshopgraph, F_Workshopgraph⟩ := cs.def_ 27 rfl
  replace F_Workshopgraph : FunD K "graph" "Workshop.graph" (defArgs (mb 83 10)) (defBody (mb 83 10)) (defScope (mb 83 10)) [] [] (He.ma K (He.ga K "Workshop") "graph") fd_Workshopgraph := F_Workshopgraph
  have b_Workshopgraph : Binds K fd_Workshopgraph ["self", "name"] [] := F_Workshopgraph.bindsN fun _ _ _ _ _ _ us hl => match us, hl with | [_, _], _ => rfl
  obtain ⟨fd_Workshoprow, F_Workshoprow⟩ := cs.def_ 28 rfl
  replace F_Workshoprow : FunD K "row" "Workshop.row" (defArgs (mb 83 11)) (defBody (mb 83 11)) (defScope (mb 83 11)) [] [] (He.ma K (He.ga K "Workshop") "row") fd_Workshoprow := F_Workshoprow
  have b_Workshoprow : Binds K fd_Workshoprow ["self", "name"] [] := F_Workshoprow.bindsN fun _ _ _ _ _ _ us hl => match us, hl with | [_, _], _ => rfl
  obtain ⟨fd_Workshopcheck_new, F_Workshopcheck_new⟩ := cs.def_ 29 rfl
  replace F_Workshopcheck_new : FunD K "check_new" "Workshop.check_new" (defArgs (mb 83 13)) (defBody (mb 83 13)) (defScope (mb 83 13)) [] [] (He.ma K (He.ga K "Workshop") "check_new") fd_Workshopcheck_new := F_Workshopcheck_new
  have b_Workshopcheck_new : Binds K fd_Workshopcheck_new ["self", "name"] [] := F_Workshopcheck_new.bindsN fun _ _ _ _ _ _ us hl => match us, hl with | [_, _], _ => rfl
  obtain ⟨fd_Workshopadd_row, F_Workshopadd_row⟩ := cs.def_ 30 rfl
  replace F_Workshopadd_row : FunD K "add_row" "Workshop.add_row" (defArgs (mb 83 14)) (defBody (mb 83 14)) (defScope (mb 83 14)) [] [] (He.ma K (He.ga K "Workshop") "add_row") fd_Workshopadd_row := F_Workshopadd_row
  have b_Workshopadd_row : Binds K fd_Workshopadd_row ["self", "name", "owner", "row"] [] := F_Workshopadd_row.bindsN fun _ _ _ _ _ _ us hl => match us, hl with | [_, _, _, _], _ => rfl
  obtain ⟨fd_Workshoprun_command, F_Workshoprun_command⟩ := cs.def_ 31 rfl
  replace F_Workshoprun_command : FunD K "run_command" "Workshop.run_command" (defArgs (mb 83 19)) (defBody (mb 83 19)) (defScope (mb 83 19)) [] [] (He.ma K (He.ga K "Workshop") "run_command") fd_Workshoprun_command := F_Workshoprun_command
  have b_Workshoprun_command : Binds K fd_Workshoprun_command ["self", "command"] [] := F_Workshoprun_command.bindsN fun _ _ _ _ _ _ us hl => match us, hl with | [_, _], _ => rfl
  obtain ⟨fd_Workshopapply_all, F_Workshopapply_all⟩ := cs.def_ 32 rfl
  replace F_Workshopapply_all : FunD K "apply_all" "Workshop.apply_all" (defArgs (mb 83 21)) (defBody (mb 83 21)) (defScope (mb 83 21)) [] [] (He.ma K (He.ga K "Workshop") "apply_all") fd_Workshopapply_all := F_Workshopapply_all
  have b_Workshopapply_all : Binds K fd_Workshopapply_all ["self", "commands"] [] := F_Workshopapply_all.bindsN fun _ _ _ _ _ _ us hl => match us, hl with | [_, _], _ => rfl
  obtain ⟨fd_Workshopapply, F_Workshopapply⟩ := cs.def_ 33 rfl
  replace F_Workshopapply : FunD K "apply" "Workshop.apply" (defArgs (mb 83 20)) (defBody (mb 83 20)) (defScope (mb 83 20)) [] [] (He.ma K (He.ga K "Workshop") "apply") fd_Workshopapply := F_Workshopapply
  have b_Workshopapply : Binds K fd_Workshopapply ["self", "command"] [] := F_Workshopapply.bindsN fun _ _ _ _ _ _ us hl => match us, hl with | [_, _], _ => rfl
  obtain ⟨fd_UnknownName__init__, F_UnknownName__init__⟩ := cs.def_ 34 rfl
  replace F_UnknownName__init__ : FunD K "__init__" "UnknownName.__init__" (defArgs (mb 21 0)) (defBody (mb 21 0)) (defScope (mb 21 0)) [] [] (He.ma K (He.ga K "UnknownName") "__init__") fd_UnknownName__init__ := F_UnknownName__init__
  obtain ⟨fd_InvalidLength__init__, F_InvalidLength__init__⟩ := cs.def_ 35 rfl
  replace F_InvalidLength__init__ : FunD K "__init__" "InvalidLength.__init__" (defArgs (mb 10 0)) (defBody (mb 10 0)) (defScope (mb 10 0)) [] [] (He.ma K (He.ga K "InvalidLength") "__init__") fd_InvalidLength__init__ := F_InvalidLength__init__
  have e := hmg.symm.trans g_law
  cases e
  refine ⟨K, KX, fd_law, [], spLaw (T73 P73 w) K, (fun p hp => by cases hp), (fun p hp => by cases hp), (fun p hp => by cases hp), fun s u => ?_, fun H a ns hl _ hH hS => ⟨a, ns, rfl, hS, (fun p hp => by cases hp), fun _ => rfl⟩, fun base KB GB TB => ?_⟩
  · exact F_law.bindsA (ps := ["_law_script"]) (fun _ _ _ _ _ _ us hl => match us, hl with | [_], _ => rfl) s [u] rfl
  have mk_UnknownName : MkC (T73 P73 w) P73 w K mg base "UnknownName" 1 0 0 1 fun C => spI1 C "name" "unknownname" := mk_UnknownName xU F_UnknownName__init__ g_UnknownName g_Absent vA
  have mk_InvalidLength : MkC (T73 P73 w) P73 w K mg base "InvalidLength" 1 1 0 1 fun C => spI1 C "length" "invalidlength" := mk_InvalidLength xI F_InvalidLength__init__ g_InvalidLength g_WindowError vW
  have hcat : CatOk (T73 P73 w) K (.ref (He.ga K "ParseError")) (.ref (He.ga K "WindowError")) (.ref (He.ga K "Absent")) [0, 1] := cat_of xU xI cU cI_
  have n_ParseError := g_ParseError
  have n_WindowError := g_WindowError
  have n_Absent := g_Absent
  have cv_Graph_MAX_STATES : CvP K mg "Graph" "MAX_STATES" 8 := cvB_ok o4a g_Graph
  have cv_Graph_MAX_EDGES : CvP K mg "Graph" "MAX_EDGES" 24 := cvB_ok o4b g_Graph
  have kt_SIZES_workshop : KTabP K w mg "SIZES_workshop" tb_SIZES_workshop := ktab_ok g_SIZES_workshop (cT.tab 0) o6
  have kt_SIZES_console : KTabP K w mg "SIZES_console" tb_SIZES_console := ktab_ok g_SIZES_console (cT.tab 1) o7
  have c__law_pull : Cal (T73 P73 w) P73 w K mg base "_law_pull" 1 2 runPullA := ⟨_, fd__law_pull, _, g__law_pull, F__law_pull.kp, b__law_pull, rfl, WK.pull_okA (fn_run F__law_pull scPl rfl fun cdv A outer s H EK E hr tk => bPl m_len rfl rfl (u200 hr))⟩
  have c__law_of : Cal (T73 P73 w) P73 w K mg base "_law_of" 2 2 (runDef 0 r_of) := ⟨_, fd__law_of, _, g__law_of, F__law_of.kp, b__law_of, rfl, by apply ok_of <;> assumption⟩
  have c_is_name : Cal (T73 P73 w) P73 w K mg base "is_name" 1 1 (runDef 1 r_is_name) := ⟨_, fd_is_name, _, g_is_name, F_is_name.kp, b_is_name, rfl, by apply ok_is_name <;> assumption⟩
  have c_is_count : Cal (T73 P73 w) P73 w K mg base "is_count" 1 1 runCountA := ⟨_, fd_is_count, _, g_is_count, F_is_count.kp, b_is_count, rfl, count_okA (by apply ok_is_count <;> assumption)⟩
  have c_thing_of : Cal (T73 P73 w) P73 w K mg base "thing_of" 3 3 (runDef 0 r_thing_of) := ⟨_, fd_thing_of, _, g_thing_of, F_thing_of.kp, b_thing_of, rfl, by apply ok_thing_of <;> assumption⟩
  have c_need_length : Cal (T73 P73 w) P73 w K mg base "need_length" 3 2 (runDef 0 r_need_length) := ⟨_, fd_need_length, _, g_need_length, F_need_length.kp, b_need_length, rfl, by apply ok_need_length <;> assumption⟩
  have c_shortest : Cal (T73 P73 w) P73 w K mg base "shortest" 1 1 runShort := ⟨_, fd_shortest, _, g_shortest, F_shortest.kp, b_shortest, rfl, short_okC (by apply ok_shortest <;> assumption)⟩
  have mt_edges : MthP (T73 P73 w) P73 w K mg base 1 1 22 [(2, (runDef 0 r_Graph_edges))] := mthP_of (x := "Graph") (mth := "edges") (by decide) rfl rfl k_Graph (bmB_ok (List.all_eq_true.mp o2 ("Graph", "edges") (List.mem_of_getElem? (i := 0) rfl)) (by decide +kernel)) rfl (by apply ok_Graph_edges <;> assumption) b_Graphedges
  have mt_check_state : MthP (T73 P73 w) P73 w K mg base 1 2 25 [(2, (runDef 0 r_Graph_check_state))] := mthP_of (x := "Graph") (mth := "check_state") (by decide) rfl rfl k_Graph (bmB_ok (List.all_eq_true.mp o2 ("Graph", "check_state") (List.mem_of_getElem? (i := 1) rfl)) (by decide +kernel)) rfl (by apply ok_Graph_check_state <;> assumption) b_Graphcheck_state
  have mt_leaving : MthP (T73 P73 w) P73 w K mg base 2 2 24 [(2, (runDef 2 r_Graph_leaving))] := mthP_of (x := "Graph") (mth := "leaving") (by decide) rfl rfl k_Graph (bmB_ok (List.all_eq_true.mp o2 ("Graph", "leaving") (List.mem_of_getElem? (i := 2) rfl)) (by decide +kernel)) rfl (by apply ok_Graph_leaving <;> assumption) b_Graphleaving
  have mt_following : MthP (T73 P73 w) P73 w K mg base 3 2 23 [(2, (runDef 0 r_Graph_following))] := mthP_of (x := "Graph") (mth := "following") (by decide) rfl rfl k_Graph (bmB_ok (List.all_eq_true.mp o2 ("Graph", "following") (List.mem_of_getElem? (i := 3) rfl)) (by decide +kernel)) rfl (by apply ok_Graph_following <;> assumption) b_Graphfollowing
  have c_first_break : Cal (T73 P73 w) P73 w K mg base "first_break" 4 2 (runDef 4 r_first_break) := ⟨_, fd_first_break, _, g_first_break, F_first_break.kp, b_first_break, rfl, by apply ok_first_break <;> assumption⟩
  have nw_Graph : NewP (T73 P73 w) P73 w K mg base "Graph" 1 2 3 (runDef 3 r_Graph_init) := newP_of (x := "Graph") rfl mr_Graph g_Graph rfl (by apply ok_Graph_init <;> assumption) b_Graph__init__
  have nw_Console : NewP (T73 P73 w) P73 w K mg base "Console" 1 3 2 (runDef 0 r_Console_init) := newP_of (x := "Console") rfl mr_Console g_Console rfl (by apply ok_Console_init <;> assumption) b_Console__init__
  have nw_Workshop : NewP (T73 P73 w) P73 w K mg base "Workshop" 1 4 1 (runDef 0 r_Workshop_init) := newP_of (x := "Workshop") rfl mr_Workshop g_Workshop rfl (by apply ok_Workshop_init <;> assumption) b_Workshop__init__
  have ln_len : LenP (T73 P73 w) P73 w K mg base 1 tbl_len := lenP_of (x := "Workshop") rfl (He.meth_ok (cs.fact 55 (f := .meth "Workshop" "__len__") rfl)) rfl (by apply ok_Workshop_len <;> assumption) b_Workshop__len__
  have c_C : Cal (T73 P73 w) P73 w K mg base "normal_row" 2 1 runNormC := ⟨_, fd_normal_row, _, g_normal_row, F_normal_row.kp, b_normal_row, rfl, norm_okC (by apply ok_normal_row <;> assumption)⟩
  have c_normal_row := c_C
  obtain ⟨gg, kb⟩ := binds_drop F_drop
  have ck_drop : CalK (T73 P73 w) P73 w K mg base "drop" "count" 3 runDropA := ⟨⟨_, fd_drop, ["row", "count"], gg, g_drop, F_drop.kp, kb, drop_okA (by apply ok_drop <;> assumption)⟩⟩
  clear c_normal_row
  have c_normal_row : Cal (T73 P73 w) P73 w K mg base "normal_row" 2 1 runNormA := ⟨_, fd_normal_row, _, g_normal_row, F_normal_row.kp, b_normal_row, rfl, norm_okA (norm_okC (by apply ok_normal_row <;> assumption))⟩
  have c_check_row : Cal (T73 P73 w) P73 w K mg base "check_row" 5 2 runCheckA := ⟨_, fd_check_row, _, g_check_row, F_check_row.kp, b_check_row, rfl, check_okA (by apply ok_check_row <;> assumption)⟩
  have c__law_normal : Cal (T73 P73 w) P73 w K mg base "_law_normal" 1 1 runNormC := ⟨_, fd__law_normal, _, g__law_normal, F__law_normal.kp, b__law_normal, rfl, normal_okC (by apply ok_normal <;> assumption)⟩
  have c_count_closed : Cal (T73 P73 w) P73 w K mg base "count_closed" 4 2 (runDef 4 r_count_closed) := ⟨_, fd_count_closed, _, g_count_closed, F_count_closed.kp, b_count_closed, rfl, by apply ok_count_closed <;> assumption⟩
  have mt_graph : MthP (T73 P73 w) P73 w K mg base 4 2 20 [(4, (runDef 0 r_Workshop_graph))] := mthP_of (x := "Workshop") (mth := "graph") (by decide) rfl rfl k_Workshop (bmB_ok (List.all_eq_true.mp o2 ("Workshop", "graph") (List.mem_of_getElem? (i := 8) rfl)) (by decide +kernel)) rfl (by apply ok_Workshop_graph <;> assumption) b_Workshopgraph
  have mt_row : MthP (T73 P73 w) P73 w K mg base 4 2 21 [(4, (runDef 0 r_Workshop_row))] := mthP_of (x := "Workshop") (mth := "row") (by decide) rfl rfl k_Workshop (bmB_ok (List.all_eq_true.mp o2 ("Workshop", "row") (List.mem_of_getElem? (i := 9) rfl)) (by decide +kernel)) rfl (by apply ok_Workshop_row <;> assumption) b_Workshoprow
  have mt_check_new : MthP (T73 P73 w) P73 w K mg base 2 2 18 [(4, (runDef 0 r_Workshop_check_new))] := mthP_of (x := "Workshop") (mth := "check_new") (by decide) rfl rfl k_Workshop (bmB_ok (List.all_eq_true.mp o2 ("Workshop", "check_new") (List.mem_of_getElem? (i := 10) rfl)) (by decide +kernel)) rfl (by apply ok_Workshop_check_new <;> assumption) b_Workshopcheck_new
  have mt_add_row : MthP (T73 P73 w) P73 w K mg base 6 4 19 [(4, (runDef 0 r_Workshop_add_row))] := mthP_of (x := "Workshop") (mth := "add_row") (by decide) rfl rfl k_Workshop (bmB_ok (List.all_eq_true.mp o2 ("Workshop", "add_row") (List.mem_of_getElem? (i := 11) rfl)) (by decide +kernel)) rfl (by apply ok_Workshop_add_row <;> assumption) b_Workshopadd_row
  have mt_run_command : MthP (T73 P73 w) P73 w K mg base 7 2 17 [(4, (runDef 5 r_Workshop_run_command))] := mthP_of (x := "Workshop") (mth := "run_command") (by decide) rfl rfl k_Workshop (bmB_ok (List.all_eq_true.mp o2 ("Workshop", "run_command") (List.mem_of_getElem? (i := 12) rfl)) (by decide +kernel)) rfl (by apply ok_Workshop_run_command <;> assumption) b_Workshoprun_command
  have mt_apply_all : MthP (T73 P73 w) P73 w K mg base 8 2 16 [(4, (runDef 4 r_Workshop_apply_all))] := mthP_of (x := "Workshop") (mth := "apply_all") (by decide) rfl rfl k_Workshop (bmB_ok (List.all_eq_true.mp o2 ("Workshop", "apply_all") (List.mem_of_getElem? (i := 13) rfl)) (by decide +kernel)) rfl (by apply ok_Workshop_apply_all <;> assumption) b_Workshopapply_all
  have mt_apply : MthP (T73 P73 w) P73 w K mg base 9 2 15 [(4, (runDef 0 r_Workshop_apply))] := mthP_of (x := "Workshop") (mth := "apply") (by decide) rfl rfl k_Workshop (bmB_ok (List.all_eq_true.mp o2 ("Workshop", "apply") (List.mem_of_getElem? (i := 14) rfl)) (by decide +kernel)) rfl (by apply ok_Workshop_apply <;> assumption) b_Workshopapply
  have mt_change : MthP (T73 P73 w) P73 w K mg base 10 2 14 [(3, (runDef 0 r_Console_change))] := mthP_of (x := "Console") (mth := "change") (by decide) rfl rfl k_Console (bmB_ok (List.all_eq_true.mp o2 ("Console", "change") (List.mem_of_getElem? (i := 4) rfl)) (by decide +kernel)) rfl (by apply ok_Console_change <;> assumption) b_Consolechange
  have mt_answer : MthP (T73 P73 w) P73 w K mg base 11 2 13 [(3, (runDef 2 r_Console_answer))] := mthP_of (x := "Console") (mth := "answer") (by decide) rfl rfl k_Console (bmB_ok (List.all_eq_true.mp o2 ("Console", "answer") (List.mem_of_getElem? (i := 5) rfl)) (by decide +kernel)) rfl (by apply ok_Console_answer <;> assumption) b_Consoleanswer
  have mt_reply : MthP (T73 P73 w) P73 w K mg base 12 2 12 [(3, (runDef 3 r_Console_reply))] := mthP_of (x := "Console") (mth := "reply") (by decide) rfl rfl k_Console (bmB_ok (List.all_eq_true.mp o2 ("Console", "reply") (List.mem_of_getElem? (i := 6) rfl)) (by decide +kernel)) rfl (by apply ok_Console_reply <;> assumption) b_Consolereply
  have mt_run : MthP (T73 P73 w) P73 w K mg base 13 2 11 [(3, (runDef 1 r_Console_run))] := mthP_of (x := "Console") (mth := "run") (by decide) rfl rfl k_Console (bmB_ok (List.all_eq_true.mp o2 ("Console", "run") (List.mem_of_getElem? (i := 7) rfl)) (by decide +kernel)) rfl (by apply ok_Console_run <;> assumption) b_Consolerun
  exact ok_law hP hw c__law_normal c__law_of c__law_pull hnm m_int m_len m_min m_range m_str m_tuple mt_apply_all mt_row mt_run nw_Console nw_Workshop (bag_ok F__law_bag m_list) g__law_bag F__law_bag.kp b__law_bag F_law
end
end WK
open PySem PySem.W PySem.Calls PyProof.Rows
theorem PySem.Challenge.cw_windowkin_k73_counts_at_a_console_holds : PySem.Challenge.rw_windowkin_k73_counts_at_a_console.Holds := by
  w_on; o_law
  refine HandSHeadRun.head_any (r := OpenLaw.row PySem.Challenge.rw_windowkin_k73_counts_at_a_console) (q := view (OpenLaw.row PySem.Challenge.rw_windowkin_k73_counts_at_a_console).prog [89]) (H := WK.hk73) (ob := WK.ob73) (M := 20000) (loose := WK.names73) (d := HandSHeadRun.topDef (OpenLaw.row PySem.Challenge.rw_windowkin_k73_counts_at_a_console).prog 89) (kwd := []) WK.ob73_eq
    (by kernel_rfl) (fun s => by kernel_rfl) WK.run73 (by kernel_rfl) (by kernel_rfl) (by kernel_rfl) (by rfl) (by first | assumption | decide +kernel) (by decide +kernel) ⟨rfl, rfl, rfl, rfl, rfl, by decide +kernel⟩ ?hw ?hc
  case hw => w_witness2
  case hc =>
    refine LamX.walk_ofTsE (l := PySem.Challenge.rw_windowkin_k73_counts_at_a_console) (n := 63) (k := 14) (x := "_law_script") (CX := fun w => L2.CX WK.P73 w) rfl (by decide) (by kernel_rfl) ⟨rfl, by decide, by decide⟩ ?F (fun _ _ _ _ _ ⟨_, _, _, _, _, _, _, _, _, _, _, _, z⟩ => z)
    intro w mg fa h Y G hmg0
    have hmg : mg ("law" : PySem.Str) = some (.ref fa) := by
      have e : (HandSHeadRun.topDef (OpenLaw.row PySem.Challenge.rw_windowkin_k73_counts_at_a_console).prog 89).name = ("law" : PySem.Str) := by kernel_rfl
      rw [← e]
      exact hmg0
    exact WK.law_at w mg fa h Y G hmg
